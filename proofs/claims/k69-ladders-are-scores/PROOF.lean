import PyProof.Rows.All
import Wide.All
import OpenK.AllK
import Wide.FinOn
import HandS.ForMost
import HandS.Conv
import HandS.Exc
import HandS.Zip
import HandS.IsInst
import HandS.TupAny
import HandS.TupMul
import HandS.Wide
import HandS.Style
import HandS.Deep
import HandS.Star
import HandS.DictComp
import KE.GoesNew
import HandS.ExcOwn
import HandS.WordsExc
import HandS.Defaults
import HandS.HeadHook2
import HandS.HeadEnd
import HandS.Head2
import KE.KStateDown
import HandS.Head0
import HandS.Head1
import HandS.HeadHook1
import PySem.Challenge.RW_forehouse_k69_ladders_are_scores
set_option Elab.async false
set_option linter.all false
set_option maxRecDepth 100000
set_option maxHeartbeats 0
/-! A pure interpreter: values, store, codes, evaluation. -/
namespace FI
open PySem L2

/-- values of the interpreter: lists and dicts stand in the store -/
inductive PV where
  | non | bl (b : Bool) | int (i : Int) | str (x : Str) | tup (xs : List PV) | lst (i : Nat) | dct (i : Nat)
  deriving Inhabited

/-- what stands in the store: a list, a list that is only read, a dict with text keys -/
inductive SO where
  | lst (xs : List PV) | rol (xs : List PV) | dct (kvs : List (Key × PV))

/-- what the interpreter may write -/
def tr : SO → Bool
  | .rol _ => false
  | _ => true
/-- the store: the next number, what stands at numbers -/
structure Sto where
  n : Nat
  os : List (Nat × SO)

def look (i : Nat) : List (Nat × SO) → Option SO
  | [] => none
  | (j, o) :: r => if Nat.beq i j then some o else look i r
def put (i : Nat) (o : SO) : List (Nat × SO) → List (Nat × SO)
  | [] => []
  | (j, u) :: r => if Nat.beq i j then (j, o) :: r else (j, u) :: put i o r
def Sto.new (s : Sto) (o : SO) : Sto := ⟨s.n + 1, (s.n, o) :: s.os⟩
def Sto.getL (s : Sto) (i : Nat) : Option (List PV) := match look i s.os with
  | some (.lst xs) => some xs
  | some (.rol xs) => some xs
  | _ => none

inductive Res (α : Type) where
  | ok (a : α) (s : Sto)
  | exc (c : Nat) (fs : List PV) (s : Sto)
  | bad

def Res.bind {α β : Type} (r : Res α) (f : α → Sto → Res β) : Res β := match r with
  | .ok a s => f a s
  | .exc c fs s => .exc c fs s
  | .bad => .bad

inductive Bop where
  | add | sub | mul | fdiv | mod | pow
inductive Cop where
  | eq | ne | lt | le | gt | ge | isN | notN | inn | notin | isB | notB
inductive Ty where
  | int | bool | tuple | str | list
inductive Blt where
  | len | abs | int | tuple | list | all | any | min2 | maxL

/-- codes of expressions, argument lists (nil, cons), targets, iterables, statements -/
inductive E where
  | int (i : Int) | bl (b : Bool) | non | str (x : Str)
  | var (i : Nat)
  | glob (k : Nat)
  | nil | cons (a r : E)
  | tup (a : E) | lst (a : E)
  | bin (o : Bop) (a b : E)
  | cmp (o : Cop) (a b : E)
  | chain (o p : Cop) (a b c : E)
  | neg (a : E) | not (a : E) | and (a b : E) | or (a b : E) | one (a : E) | ife (c a b : E)
  | idx (a b : E) | slice (a lo hi : E) | no
  | isi (t : Ty) (a : E)
  | call (f : Nat) (a : E)
  | blt (b : Blt) (a : E)
  | comp (own : List (Str × Nat)) (tg it : E) (c : E) (elt : E)
  | app (a b : E)
  | never | star (a r : E) | dix (a b : E) | ddisp (a : E) | rev (a : E)
  -- targets
  | tn (i : Nat) | tt (a : E) | ts (o i : E)
  -- iterables
  | iseq (a : E) | irng (a : E) | irng2 (a b : E) | ienum (a : E) | izip (a : E) | izip3 (a : E)
  -- statements
  | skip | seq (a r : E)
  | set (g e : E) | ret (e : E) | retN | expr (e : E) | pass | cont | brk
  | sif (c a b : E) | whl (c b : E) | sfor (g it b : E) | raise (c : Nat) (a : E)
  | stl (o i e : E) | std (o i e : E) | setC (i : Nat) (e : E) | par (js : List Nat) (a : E)

/-- slots -/
abbrev Sl := List (Option PV)

/-- what an iteration walks -/
inductive It where
  | l (i : Nat) | t (xs : List PV) | r (lo : Int) (n : Nat) | en (j : It) | zp (a b : It) | zp3 (a b c : It)

/-- what a list or a tuple that is walked holds -/
def It.items : It → Sto → Option (List PV)
  | .l i, s => s.getL i
  | .t xs, _ => some xs
  | _, _ => none
/-- the item at a turn: none: stuck; some none: the end -/
def It.at : It → Nat → Sto → Option (Option PV)
  | .l i, k, s => match s.getL i with | some xs => some xs[k]? | none => none
  | .t xs, k, _ => some xs[k]?
  | .r lo n, k, _ => some (if k < n then some (.int (lo + (k : Int))) else none)
  | .en j, k, s => match j.items s with
    | none => none
    | some xs => match xs[k]? with
      | some v => some (some (.tup [.int (k : Int), v]))
      | none => if Nat.beq k xs.length then some none else none
  | .zp a b, k, s => match a.items s, b.items s with
    | some xs, some ys => (match xs[k]?, ys[k]? with
      | some v, some u => some (some (.tup [v, u]))
      | _, _ => if Nat.beq k (min xs.length ys.length) then some none else none)
    | _, _ => none
  | .zp3 a b c, k, s => match a.items s, b.items s, c.items s with
    | some xs, some ys, some zs => (match xs[k]?, ys[k]?, zs[k]? with
      | some v, some u, some w => some (some (.tup [v, u, w]))
      | _, _, _ => if Nat.beq k (min (min xs.length ys.length) zs.length) then some none else none)
    | _, _, _ => none
/-- how many turns at most -/
def It.most : It → Sto → Nat
  | .l i, s => match s.getL i with | some xs => xs.length | none => 0
  | .t xs, _ => xs.length
  | .r _ n, _ => n
  | .en j, s => j.most s
  | .zp a b, s => min (a.most s) (b.most s)
  | .zp3 a b c, s => min (a.most s) (min (b.most s) (c.most s))


/-! ### evaluation -/
def mapO {α β : Type} (f : α → Option β) : List α → Option (List β)
  | [] => some []
  | x :: r => match f x with
    | none => none
    | some y => match mapO f r with
      | none => none
      | some ys => some (y :: ys)

/-- the data that a value is -/
def toD (s : Sto) : Nat → PV → Option PyData
  | 0, _ => none
  | n + 1, v => match v with
    | .non => some .none
    | .bl b => some (.bool b)
    | .int i => some (.int i)
    | .str x => some (.str x)
    | .tup xs => match mapO (toD s n) xs with | some ds => some (.tuple ds) | none => none
    | .lst i => match s.getL i with
      | some xs => match mapO (toD s n) xs with | some ds => some (.list ds) | none => none
      | none => none
    | .dct _ => none

def eqP (s : Sto) (a b : PV) : Option Bool := match toD s 60 a, toD s 60 b with
  | some d, some e => if SeqAt.shaped d && SeqAt.shaped e then some (PyData.eqv d e) else none
  | _, _ => none

def cap : Nat := 10000

def getW (s : Sto) (i : Nat) : Option (List PV) := match look i s.os with
  | some (.lst xs) => some xs
  | _ => none

def evBin (o : Bop) (a b : PV) (s : Sto) : Res PV := match o, a, b with
  | .add, .int i, .int j => .ok (.int (i + j)) s
  | .add, .tup xs, .tup ys => if xs.length + ys.length ≤ cap then .ok (.tup (xs ++ ys)) s else .bad
  | .add, .lst i, .lst j => match getW s i, getW s j with
    | some xs, some ys => if xs.length + ys.length ≤ cap then .ok (.lst s.n) (s.new (.lst (xs ++ ys))) else .bad
    | _, _ => .bad
  | .sub, .int i, .int j => .ok (.int (i - j)) s
  | .mul, .int i, .int j => if i.natAbs.log2 + j.natAbs.log2 < 1000000 then .ok (.int (i * j)) s else .bad
  | .mul, .tup xs, .int k => if decide (2 ≤ k) && decide (k ≤ 1000) && decide (xs.length ≤ 1000) && !xs.isEmpty then .ok (.tup (List.replicate k.toNat xs).flatten) s else .bad
  | .fdiv, .int i, .int j => if decide (0 < j) && decide (j.natAbs.log2 < 9000) then .ok (.int (i / j)) s else .bad
  | .mod, .int i, .int j => if 0 < j then .ok (.int (i % j)) s else .bad
  | .pow, .int i, .int j => if decide (0 ≤ j) && decide (j ≤ 1000) && decide (i.natAbs < 18446744073709551616) then .ok (.int (i ^ j.toNat)) s else .bad
  | _, _, _ => .bad

/-- flat things -/
def flatP : PV → Option V
  | .non => some .non | .bl b => some (.bl b) | .int i => some (.int i) | .str x => some (.str x)
  | _ => none
/-- x in a list of data, or in a tuple of flat things -/
def inP (s : Sto) (a b : PV) : Option Bool := match b with
  | .lst _ => match toD s 60 a, toD s 60 b with
    | some d, some (.list ds) => if SeqAt.shaped d && SeqAt.shaped (.list ds) then some (ds.any fun z => PyData.eqv z d) else none
    | _, _ => none
  | .tup xs => match flatP a, mapO flatP xs with
    | some v, some vs => some (inV v vs)
    | _, _ => none
  | _ => none
def isNonP : PV → Bool
  | .non => true
  | _ => false
def evCmp (o : Cop) (a b : PV) (s : Sto) : Res PV := match o with
  | .eq => match eqP s a b with | some k => .ok (.bl k) s | none => .bad
  | .ne => match eqP s a b with | some k => .ok (.bl (!k)) s | none => .bad
  | .lt => match a, b with | .int i, .int j => .ok (.bl (decide (i < j))) s | _, _ => .bad
  | .le => match a, b with | .int i, .int j => .ok (.bl (decide (i ≤ j))) s | _, _ => .bad
  | .gt => match a, b with | .int i, .int j => .ok (.bl (decide (j < i))) s | _, _ => .bad
  | .ge => match a, b with | .int i, .int j => .ok (.bl (decide (j ≤ i))) s | _, _ => .bad
  | .isN => match b with | .non => .ok (.bl (isNonP a)) s | _ => .bad
  | .notN => match b with | .non => .ok (.bl (!isNonP a)) s | _ => .bad
  | .inn => match inP s a b with | some k => .ok (.bl k) s | none => .bad
  | .notin => match inP s a b with | some k => .ok (.bl (!k)) s | none => .bad
  | .isB => match a, b with | .bl i, .bl j => .ok (.bl (decide (i = j))) s | _, _ => .bad
  | .notB => match a, b with | .bl i, .bl j => .ok (.bl (!decide (i = j))) s | _, _ => .bad

def isTy : Ty → PV → Bool
  | .int, .int _ => true
  | .int, .bl _ => true
  | .bool, .bl _ => true
  | .tuple, .tup _ => true
  | .str, .str _ => true
  | .list, .lst _ => true
  | _, _ => false

/-- .. of a value that stands -/
def isTyS (s : Sto) (t : Ty) : PV → Option Bool
  | .lst i => match s.getL i with | some _ => some (isTy t (.lst i)) | none => none
  | .dct _ => none
  | v => some (isTy t v)

def seqOf (s : Sto) : PV → Option (List PV)
  | .tup xs => some xs
  | .lst i => s.getL i
  | _ => none

def evIdx (a b : PV) (s : Sto) : Res PV := match b with
  | .int i => match seqOf s a with
    | some xs => match atI xs i with | some v => .ok v s | none => .bad
    | none => .bad
  | _ => .bad

def isNo : E → Bool
  | .no => true
  | _ => false
/-- an end of a slice -/
def partOf (c : E) (v : PV) : Option (Option Int) := if isNo c then some none else match v with
  | .int i => some (some i)
  | _ => none

def cutP (xs : List PV) (lo hi : Option Int) : List PV := (xs.drop (HT.sIx xs.length 0 lo)).take (HT.sIx xs.length xs.length hi - HT.sIx xs.length 0 lo)
def evSlice (a : PV) (l h : Option Int) (s : Sto) : Res PV := match a with
  | .tup xs => .ok (.tup (cutP xs l h)) s
  | .lst i => match s.getL i with
    | some xs => .ok (.lst s.n) (s.new (.lst (cutP xs l h)))
    | none => .bad
  | _ => .bad

def bools : List PV → Option (List Bool)
  | [] => some []
  | .bl b :: r => match bools r with | some bs => some (b :: bs) | none => none
  | _ => none

def intsP : List PV → Option (List Int)
  | [] => some []
  | .int i :: r => match intsP r with | some ns => some (i :: ns) | none => none
  | _ => none
def maxI : Int → List Int → Int
  | n, [] => n
  | n, m :: r => maxI (if n < m then m else n) r
def keyOf : PV → Option Key
  | .int i => some (.inl i)
  | .str x => some (.inr x)
  | _ => none
def valP (k : Key) : List (Key × PV) → Option PV
  | [] => none
  | (j, v) :: r => if decide (j = k) then some v else valP k r
def putP (k : Key) (v : PV) (kvs : List (Key × PV)) : List (Key × PV) :=
  if (kvs.any fun kv => decide (kv.1 = k)) = true then kvs.map (fun kv => if kv.1 = k then (kv.1, v) else kv) else kvs ++ [(k, v)]
def getD (s : Sto) (i : Nat) : Option (List (Key × PV)) := match look i s.os with
  | some (.dct kvs) => some kvs
  | _ => none
/-- key, value, key, value .. -/
def pairsP : List PV → Option (List (Key × PV))
  | [] => some []
  | k :: v :: r => match keyOf k, pairsP r with
    | some k, some kvs => some ((k, v) :: kvs)
    | _, _ => none
  | _ => none
def noTwice : List (Key × PV) → Bool
  | [] => true
  | (k, _) :: r => (valP k r).isNone && noTwice r
def evBlt (b : Blt) (as : List PV) (s : Sto) : Res PV := match b, as with
  | .len, [x] => match seqOf s x with | some xs => .ok (.int (xs.length : Int)) s | none => .bad
  | .abs, [.int i] => .ok (.int (if i < 0 then -i else i)) s
  | .int, [.int i] => .ok (.int i) s
  | .tuple, [.tup xs] => .ok (.tup xs) s
  | .tuple, [.lst i] => match s.getL i with | some xs => .ok (.tup xs) s | none => .bad
  | .list, [x] => match seqOf s x with | some xs => .ok (.lst s.n) (s.new (.lst xs)) | none => .bad
  | .all, [.lst i] => match s.getL i with
    | some xs => (match bools xs with | some bs => .ok (.bl (bs.all id)) s | none => .bad)
    | none => .bad
  | .any, [.lst i] => match s.getL i with
    | some xs => (match bools xs with | some bs => .ok (.bl (bs.any id)) s | none => .bad)
    | none => .bad
  | .min2, [.int i, .int j] => .ok (.int (if j < i then j else i)) s
  | .maxL, [.lst i] => match s.getL i with
    | some xs => (match intsP xs with | some (n :: ns) => .ok (.int (maxI n ns)) s | _ => .bad)
    | none => .bad
  | _, _ => .bad

/-- a value laid into a target of names and tuples -/
def lay : E → PV → Sl → Option Sl
  | .tn i, v, σ => some (σ.set i (some v))
  | .tt a, .tup xs, σ => lay a (.tup xs) σ
  | .nil, .tup [], σ => some σ
  | .cons a r, .tup (x :: xs), σ => match lay a x σ with | some σ1 => lay r (.tup xs) σ1 | none => none
  | _, _, _ => none

/-- how a statement ends -/
inductive Fl where
  | nx (σ : Sl) | rt (v : PV) | bk (σ : Sl) | ct (σ : Sl)

/-- a comprehension's turns -/
def turns (j : It) (body : PV → Sto → Res (Option PV)) : Nat → Nat → List PV → Sto → Res (List PV)
  | 0, k, acc, s => match j.at k s with | some none => .ok acc s | _ => .bad
  | m + 1, k, acc, s => match j.at k s with
    | some (some v) => match body v s with
      | .ok (some y) s1 => if acc.length < cap then turns j body m (k + 1) (acc ++ [y]) s1 else .bad
      | .ok none s1 => turns j body m (k + 1) acc s1
      | .exc c fs s1 => .exc c fs s1
      | .bad => .bad
    | some none => .ok acc s
    | none => .bad

def wipeP (σ : Sl) : List Nat → Sl
  | [] => σ
  | v :: vs => (wipeP σ vs).set v none

/-- a def: how many parameters, how many slots, its body -/
structure Df where
  np : Nat
  ns : Nat
  body : E
structure Tab where
  consts : List PV
  cnames : List Str
  fns : List Str
  defs : List Df
  fuel : Nat
/-- an iteration over a list or a tuple -/
def seqIt (s : Sto) : PV → Option It
  | .tup xs => some (.t xs)
  | .lst i => match s.getL i with | some _ => some (.l i) | none => none
  | _ => none
def zip2 (s : Sto) (x y : PV) : Option It := match seqIt s x, seqIt s y with
  | some a, some b => some (.zp a b)
  | _, _ => none
def zip3 (s : Sto) (x y z : PV) : Option It := match seqIt s x, seqIt s y, seqIt s z with
  | some a, some b, some c => some (.zp3 a b c)
  | _, _, _ => none

mutual
def ev (T : Tab) (call : Nat → List PV → Sto → Res PV) : E → Sl → Sto → Res PV
  | .int i, _, s => .ok (.int i) s
  | .bl b, _, s => .ok (.bl b) s
  | .non, _, s => .ok .non s
  | .no, _, s => .ok .non s
  | .str x, _, s => .ok (.str x) s
  | .var i, σ, s => match σ[i]? with | some (some v) => .ok v s | _ => .bad
  | .glob k, _, s => match T.consts[k]? with | some v => .ok v s | none => .bad
  | .nil, _, s => .ok (.tup []) s
  | .cons a r, σ, s => match ev T call a σ s with
    | .ok v s1 => match ev T call r σ s1 with
      | .ok (.tup vs) s2 => .ok (.tup (v :: vs)) s2
      | .ok _ _ => .bad
      | .exc c fs s2 => .exc c fs s2
      | .bad => .bad
    | .exc c fs s1 => .exc c fs s1
    | .bad => .bad
  | .tup a, σ, s => match ev T call a σ s with
    | .ok (.tup vs) s1 => if vs.length ≤ cap then .ok (.tup vs) s1 else .bad
    | .ok _ _ => .bad
    | .exc c fs s1 => .exc c fs s1
    | .bad => .bad
  | .lst a, σ, s => match ev T call a σ s with
    | .ok (.tup vs) s1 => if vs.length ≤ cap then .ok (.lst s1.n) (s1.new (.lst vs)) else .bad
    | .ok _ _ => .bad
    | .exc c fs s1 => .exc c fs s1
    | .bad => .bad
  | .bin o a b, σ, s => (ev T call a σ s).bind fun x s1 => (ev T call b σ s1).bind fun y s2 => evBin o x y s2
  | .cmp o a b, σ, s => (ev T call a σ s).bind fun x s1 => (ev T call b σ s1).bind fun y s2 => evCmp o x y s2
  | .chain o p a b c, σ, s => (ev T call a σ s).bind fun x s1 => (ev T call b σ s1).bind fun y s2 => (evCmp o x y s2).bind fun z s3 => match z with
    | .bl true => (ev T call c σ s3).bind fun u s4 => evCmp p y u s4
    | .bl false => .ok (.bl false) s3
    | _ => .bad
  | .neg a, σ, s => (ev T call a σ s).bind fun x s1 => match x with | .int i => .ok (.int (-i)) s1 | _ => .bad
  | .not a, σ, s => (ev T call a σ s).bind fun x s1 => match x with | .bl b => .ok (.bl (!b)) s1 | _ => .bad
  | .one a, σ, s => ev T call a σ s
  | .and a b, σ, s => (ev T call a σ s).bind fun x s1 => match x with | .bl true => ev T call b σ s1 | .bl false => .ok (.bl false) s1 | _ => .bad
  | .or a b, σ, s => (ev T call a σ s).bind fun x s1 => match x with | .bl true => .ok (.bl true) s1 | .bl false => ev T call b σ s1 | _ => .bad
  | .ife c a b, σ, s => (ev T call c σ s).bind fun x s1 => match x with | .bl true => ev T call a σ s1 | .bl false => ev T call b σ s1 | _ => .bad
  | .idx a b, σ, s => (ev T call a σ s).bind fun x s1 => (ev T call b σ s1).bind fun y s2 => evIdx x y s2
  | .slice a lo hi, σ, s => (ev T call a σ s).bind fun x s1 => (ev T call lo σ s1).bind fun y s2 => match partOf lo y with
    | none => .bad
    | some l => (ev T call hi σ s2).bind fun z s3 => match partOf hi z with
      | none => .bad
      | some h => evSlice x l h s3
  | .isi t a, σ, s => (ev T call a σ s).bind fun x s1 => match isTyS s1 t x with | some b => .ok (.bl b) s1 | none => .bad
  | .call f a, σ, s => (ev T call a σ s).bind fun x s1 => match x with | .tup vs => call f vs s1 | _ => .bad
  | .blt b a, σ, s => (ev T call a σ s).bind fun x s1 => match x with | .tup vs => evBlt b vs s1 | _ => .bad
  | .app a b, σ, s => (ev T call a σ s).bind fun x s1 => match x with
    | .lst i => match getW s1 i with
      | some _ => (ev T call b σ s1).bind fun y s2 => match getW s2 i with
        | some xs => if xs.length < cap then .ok .non ⟨s2.n, put i (.lst (xs ++ [y])) s2.os⟩ else .bad
        | none => .bad
      | none => .bad
    | _ => .bad
  | .star a r, σ, s => (ev T call a σ s).bind fun x s1 => match seqOf s1 x with
    | none => .bad
    | some xs => match ev T call r σ s1 with
      | .ok (.tup vs) s2 => .ok (.tup (xs ++ vs)) s2
      | .ok _ _ => .bad
      | .exc c fs s2 => .exc c fs s2
      | .bad => .bad
  | .dix a b, σ, s => (ev T call a σ s).bind fun x s1 => (ev T call b σ s1).bind fun y s2 => match x with
    | .dct i => match getD s2 i, keyOf y with
      | some kvs, some k => match valP k kvs with | some v => .ok v s2 | none => .bad
      | _, _ => .bad
    | _ => .bad
  | .ddisp a, σ, s => (ev T call a σ s).bind fun x s1 => match x with
    | .tup vs => match pairsP vs with
      | some kvs => if noTwice kvs && decide (kvs.length ≤ 15) then .ok (.dct s1.n) (s1.new (.dct kvs)) else .bad
      | none => .bad
    | _ => .bad
  | .rev a, σ, s => (ev T call a σ s).bind fun x s1 => match x with
    | .tup xs => if xs.length ≤ cap then .ok (.tup xs.reverse) s1 else .bad
    | _ => .bad
  | .comp own tg it c elt, σ, s => (evI T call it σ s).bind fun j s1 =>
      let σ0 := wipeP σ (own.map (·.2))
      (turns j (fun x s2 => match lay tg x σ0 with
        | none => .bad
        | some σ1 => match ev T call c σ1 s2 with
          | .ok (.bl true) s3 => match ev T call elt σ1 s3 with
            | .ok y s4 => .ok (some y) s4
            | _ => .bad
          | .ok (.bl false) s3 => .ok none s3
          | _ => .bad) (j.most s1) 0 [] s1).bind fun ys s5 => if ys.length ≤ cap then .ok (.lst s5.n) (s5.new (.lst ys)) else .bad
  | _, _, _ => .bad
def evI (T : Tab) (call : Nat → List PV → Sto → Res PV) : E → Sl → Sto → Res It
  | .iseq a, σ, s => (ev T call a σ s).bind fun x s1 => match x with
    | .tup xs => .ok (.t xs) s1
    | .lst i => match s1.getL i with | some _ => .ok (.l i) s1 | none => .bad
    | _ => .bad
  | .irng a, σ, s => (ev T call a σ s).bind fun x s1 => match x with | .int j => if decide (-1000000 ≤ j) && decide (j ≤ 1000000) then .ok (.r 0 j.toNat) s1 else .bad | _ => .bad
  | .ienum a, σ, s => (ev T call a σ s).bind fun x s1 => match seqIt s1 x with
    | some j => .ok (.en j) s1
    | none => .bad
  | .izip a, σ, s => (ev T call a σ s).bind fun x s1 => match x with
    | .tup [x, y] => match zip2 s1 x y with | some j => .ok j s1 | none => .bad
    | _ => .bad
  | .izip3 a, σ, s => (ev T call a σ s).bind fun x s1 => match x with
    | .tup [x, y, z] => match zip3 s1 x y z with | some j => .ok j s1 | none => .bad
    | _ => .bad
  | _, _, _ => .bad
end

/-! ### statements -/
def layN : List Nat → List PV → Sl → Option Sl
  | [], [], σ => some σ
  | j :: js, v :: vs, σ => layN js vs (σ.set j (some v))
  | _, _, _ => none
/-- turns of a while -/
def whileF (tc : Sl → Sto → Res PV) (tb : Sl → Sto → Res Fl) : Nat → Sl → Sto → Res Fl
  | 0, _, _ => .bad
  | m + 1, σ, s => match tc σ s with
    | .ok (.bl true) s1 => match tb σ s1 with
      | .ok (.nx σ2) s2 => whileF tc tb m σ2 s2
      | .ok (.ct σ2) s2 => whileF tc tb m σ2 s2
      | .ok (.bk σ2) s2 => .ok (.nx σ2) s2
      | .ok (.rt v) s2 => .ok (.rt v) s2
      | .exc c fs s2 => .exc c fs s2
      | .bad => .bad
    | .ok (.bl false) s1 => .ok (.nx σ) s1
    | .ok _ _ => .bad
    | .exc c fs s1 => .exc c fs s1
    | .bad => .bad
/-- turns of a for -/
def forF (j : It) (g : PV → Sl → Option Sl) (tb : Sl → Sto → Res Fl) : Nat → Nat → Sl → Sto → Res Fl
  | 0, k, σ, s => match j.at k s with | some none => .ok (.nx σ) s | _ => .bad
  | m + 1, k, σ, s => match j.at k s with
    | some none => .ok (.nx σ) s
    | none => .bad
    | some (some v) => match g v σ with
      | none => .bad
      | some σ1 => match tb σ1 s with
        | .ok (.nx σ2) s2 => forF j g tb m (k + 1) σ2 s2
        | .ok (.ct σ2) s2 => forF j g tb m (k + 1) σ2 s2
        | .ok (.bk σ2) s2 => .ok (.nx σ2) s2
        | .ok (.rt v) s2 => .ok (.rt v) s2
        | .exc c fs s2 => .exc c fs s2
        | .bad => .bad
def setAt (xs : List PV) (k : Int) (v : PV) : Option (List PV) := match ixN xs.length k with
  | some j => some (xs.set j v)
  | none => none
def ex (T : Tab) (call : Nat → List PV → Sto → Res PV) : E → Sl → Sto → Res Fl
  | .skip, σ, s => .ok (.nx σ) s
  | .seq a r, σ, s => match ex T call a σ s with
    | .ok (.nx σ1) s1 => ex T call r σ1 s1
    | .ok (.rt v) s1 => .ok (.rt v) s1
    | .ok (.bk σ1) s1 => .ok (.bk σ1) s1
    | .ok (.ct σ1) s1 => .ok (.ct σ1) s1
    | .exc c fs s1 => .exc c fs s1
    | .bad => .bad
  | .set g e, σ, s => (ev T call e σ s).bind fun v s1 => match lay g v σ with | some σ1 => .ok (.nx σ1) s1 | none => .bad
  | .setC i e, σ, s => (ev T call e σ s).bind fun v s1 => .ok (.nx (σ.set i (some v))) s1
  | .par js a, σ, s => (ev T call a σ s).bind fun v s1 => match v with
    | .tup vs => match layN js vs σ with | some σ1 => .ok (.nx σ1) s1 | none => .bad
    | _ => .bad
  | .ret e, σ, s => (ev T call e σ s).bind fun v s1 => .ok (.rt v) s1
  | .retN, _, s => .ok (.rt .non) s
  | .expr e, σ, s => (ev T call e σ s).bind fun _ s1 => .ok (.nx σ) s1
  | .pass, σ, s => .ok (.nx σ) s
  | .cont, σ, s => .ok (.ct σ) s
  | .brk, σ, s => .ok (.bk σ) s
  | .sif c a b, σ, s => (ev T call c σ s).bind fun v s1 => match v with
    | .bl true => ex T call a σ s1
    | .bl false => ex T call b σ s1
    | _ => .bad
  | .whl c b, σ, s => whileF (fun σ s => ev T call c σ s) (fun σ s => ex T call b σ s) T.fuel σ s
  | .sfor g it b, σ, s => (evI T call it σ s).bind fun j s1 => forF j (fun v σ => lay g v σ) (fun σ s => ex T call b σ s) (j.most s1) 0 σ s1
  | .stl o i e, σ, s => (ev T call e σ s).bind fun v s1 => (ev T call o σ s1).bind fun x s2 => (ev T call i σ s2).bind fun y s3 => match x, y with
    | .lst n, .int k => match getW s3 n with
      | some xs => match setAt xs k v with
        | some ys => .ok (.nx σ) ⟨s3.n, put n (.lst ys) s3.os⟩
        | none => .bad
      | none => .bad
    | _, _ => .bad
  | .std o i e, σ, s => (ev T call e σ s).bind fun v s1 => (ev T call o σ s1).bind fun x s2 => (ev T call i σ s2).bind fun y s3 => match x with
    | .dct n => match getD s3 n, keyOf y with
      | some kvs, some k => if kvs.length < cap then .ok (.nx σ) ⟨s3.n, put n (.dct (putP k v kvs)) s3.os⟩ else .bad
      | _, _ => .bad
    | _ => .bad
  | .raise c a, σ, s => (ev T call a σ s).bind fun v s1 => match v with
    | .tup vs => .exc c vs s1
    | _ => .bad
  | _, _, _ => .bad

/-- a def's call -/
def runF (T : Tab) : Nat → Nat → List PV → Sto → Res PV
  | 0, _, _, _ => .bad
  | n + 1, f, vs, s => match T.defs[f]? with
    | none => .bad
    | some d => if Nat.beq vs.length d.np then (match ex T (runF T n) d.body (vs.map some ++ List.replicate (d.ns - d.np) none) s with
      | .ok (.rt v) s1 => .ok v s1
      | .ok (.nx _) s1 => .ok .non s1
      | .ok _ _ => .bad
      | .exc c fs s1 => .exc c fs s1
      | .bad => .bad) else .bad
end FI

/-! enumerate and zip over lists and tuples in any mixture -/
namespace PySem
theorem meets_enumerate_new1 {v : Value} {o : Obj} {H : Heap → Prop} (B : Begins v o H) :
    Meets (Builtin.«enumerate.__new__» ⟨[.type "enumerate", v], []⟩) (fun _ R s => H s.heap ∧
      R (.ok (.ret (.ref (s.heap.push o).objs.size))) { s with heap := (s.heap.push o).push { cls := .type "enumerate", data := .fields #[.none, .bool false, .ref s.heap.objs.size, rawInt 0, .none, .none] } }) :=
  .of_wp fun prog w A R s h => by
    obtain ⟨hp, g, d, tk, os⟩ := s; obtain ⟨h1, h⟩ := h
    have hsub := sub_enumerate
    have q1 : ∀ {A' : Around} {E : Value → Shared → Prop} {Q : Value → Shared → Prop}, Q (.ref hp.objs.size) ⟨hp.push o, g, d, tk, os⟩ → wpAny (model prog w) A' (pyIter v) Q E ⟨hp, g, d, tk, os⟩ :=
      fun q => B.iter prog w _ _ ⟨hp, g, d, tk, os⟩ _ h1 q
    wp_walk using q1
    refine wpAny_stack_any fun st => wpAny_pure ?_
    split
    · rename_i c _ _ _ _ _
      cases (c == Value.type "enumerate")
      · wp_walk using q1
        exact ⟨_, rfl, h⟩
      · wp_walk using q1
        exact ⟨_, rfl, h⟩
    · wp_walk using q1
      exact ⟨_, rfl, h⟩
theorem enum_begins1 {prog : Program} {w : World} {A : Around} {E : Value → Shared → Prop} {s : Shared} {v : Value} {o : Obj} {H : Heap → Prop} {Q : Value → Shared → Prop} (B : Begins v o H) (h1 : H s.heap)
    (h : ∀ h', IsEnum h' (s.heap.objs.size + 1) s.heap.objs.size 0 .none → h'.get? s.heap.objs.size = some o → h'.objs.size = s.heap.objs.size + 2 →
      (∀ b o, s.heap.get? b = some o → h'.get? b = some o) → Q (.ref (s.heap.objs.size + 1)) { s with heap := h' }) :
    wpAny (model prog w) A (call (.type "enumerate") [v]) Q E s := by
  refine callType_new F.called_enumerate (by decide) (F.typeCall_enumerate_1 _) (F.newCall_enumerate_1 _) (fun obj => F.args_object_init_2 obj _) F.entry_enumerate_new
    (meets_enumerate_new1 B) ⟨h1, ?_⟩
  have hz : (s.heap.push o).objs.size = s.heap.objs.size + 1 := Heap.size_push ..
  show _ ∧ _
  rw [hz]
  have he : IsEnum ((s.heap.push o).push { cls := .type "enumerate", data := .fields #[.none, .bool false, .ref s.heap.objs.size, rawInt 0, .none, .none] }) (s.heap.objs.size + 1) s.heap.objs.size 0 .none := by
    have := Heap.get?_push_size (s.heap.push o) (o := { cls := .type "enumerate", data := .fields #[.none, .bool false, .ref s.heap.objs.size, rawInt 0, .none, .none] }) rfl
    rw [hz] at this; exact this
  refine ⟨⟨_, he, rfl⟩, h _ he (Heap.get?_push_of_some _ (Heap.get?_push_size _ B.free)) (by rw [Heap.size_push, hz]) fun b o x => Heap.get?_push_of_some _ (Heap.get?_push_of_some _ x)⟩
end PySem
namespace FI
open PySem PySem.Spec PyProof.Rows L2

/-- a list (true) or a tuple: its iterator, its object, what is read -/
def ItAt (h : Heap) : Bool → Addr → Addr → Nat → Prop
  | true, it, a, i => h.IsListIter it a i
  | false, it, a, i => h.IsTupleIter it a i
def IsSeqK (h : Heap) : Bool → Addr → Array Value → Prop
  | true, a, xs => h.IsList a xs
  | false, a, xs => h.IsTuple a xs
def SqK (K : PySem.W.Frag) (H : Hp) : Bool → Addr → List V → Prop
  | true, a, xs => SqL K H a xs
  | false, a, xs => SqT K H a xs
def itObj : Bool → Addr → Obj
  | true, a => { cls := .type "list_iterator", data := .fields #[.ref a, .int 0 0] }
  | false, a => { cls := .type "tuple_iterator", data := .fields #[.ref a, .int 0 0] }
theorem itAt_obj {h : Heap} {b : Bool} {it a : Addr} {i : Nat} (x : ItAt h b it a i) : ∃ o, h.get? it = some o ∧ ∀ v, o.data ≠ .cell v := by
  cases b with
  | true => obtain ⟨o, e, _, d⟩ := x; exact ⟨o, e, fun v q => by rw [d] at q; cases q⟩
  | false => obtain ⟨o, e, _, d⟩ := x; exact ⟨o, e, fun v q => by rw [d] at q; cases q⟩
theorem itAt_keep {h h' : Heap} {b : Bool} {it a : Addr} {i : Nat} (x : ItAt h b it a i) (k : ∀ o, h.get? it = some o → h'.get? it = some o) : ItAt h' b it a i := by
  cases b with
  | true => exact (show h.IsListIter it a i from x).at fun o q => k o q
  | false => exact (show h.IsTupleIter it a i from x).at fun o q => k o q
theorem itAt_new {h : Heap} {b : Bool} {it a : Addr} (x : h.get? it = some (itObj b a)) : ItAt h b it a 0 := by
  cases b with
  | true => exact ⟨_, x, rfl, rfl⟩
  | false => exact ⟨_, x, rfl, rfl⟩
theorem begins_k (b : Bool) (a : Addr) (xs : Array Value) : Begins (.ref a) (itObj b a) fun h => IsSeqK h b a xs := by
  cases b with
  | true => exact begins_list a xs
  | false => exact begins_tuple a xs
theorem draws_k {prog : Program} {w : World} {A : Around} (hh : A.handled = none) (b : Bool) (it a : Addr) (hne : a ≠ it) (xs : Array Value) :
    Draws prog w A it [it, a] xs.size (fun i v => xs[i]? = some v) (fun i h => ItAt h b it a i ∧ IsSeqK h b a xs) := by
  cases b with
  | true => exact Draws.list hh it a hne xs
  | false => exact Draws.tuple hh it a hne xs
section
variable {X : Cx} {pins : List (Addr × Obj)} {σ : L2.St} {H : Hp} {s : Shared}
theorem inv_seq (I : Inv X pins σ H s) {b : Bool} {a : Addr} {xs : List V} (h : SqK X.K H b a xs) : ∃ its : List Value, Vals xs its ∧ IsSeqK s.heap b a its.toArray ∧ a < s.heap.objs.size := by
  cases b with
  | true =>
    obtain ⟨its, r, p, _⟩ := I.list h
    exact ⟨its, r, p.isList, p.lt⟩
  | false =>
    obtain ⟨its, r, p, _⟩ := I.tuple h
    obtain ⟨o, e, q⟩ := id p
    exact ⟨its, r, p, Heap.lt_size e⟩
theorem inv_seq_inj (I : Inv X pins σ H s) {b : Bool} {a : Addr} {xs ys : List V} (h : SqK X.K H b a xs) (h' : SqK X.K H b a ys) : ys = xs := by
  cases b with
  | true => exact I.list_inj h' h
  | false => exact I.tuple_inj h' h
end
/-! ### enumerate -/
def IteK (K : PySem.W.Frag) (b : Bool) (a : Addr) : L2.It :=
  ⟨fun i H => ∃ (xs : List V) (x : V), SqK K H b a xs ∧ xs[i]? = some x,
    fun i H v H' => ∃ T x, v = .ref T ∧ H T = none ∧ H' = upd H T (.tup [.int ((i : Nat) : Int), x]) ∧ ∀ xs, SqK K H b a xs → xs[i]? = some x,
    fun i H => ∃ xs : List V, SqK K H b a xs ∧ i = xs.length⟩
theorem turn_enumK {P : Program} {w : World} {K : PySem.W.Frag} {elts : List Expr} {kk : Nat} {tpos : Pos} (b : Bool) (a e it : Addr) (hae : a ≠ e) (hai : a ≠ it) (hei : e ≠ it) :
    Turn P w K (.Tuple elts kk tpos) (IteK K b a) [e, it] e (fun i h => (∃ old, IsEnum h e it ((0 : Int) + (i : Int)) old) ∧ ItAt h b it a i) where
  mem := by simp
  obj := fun i h st c hc => by
    obtain ⟨⟨old, he⟩, hi⟩ := st
    have e' : c = e ∨ c = it := by simpa using hc
    rcases e' with z | z
    · rw [z]; exact ⟨_, he, fun v q => nomatch q⟩
    · rw [z]; exact itAt_obj hi
  keep := fun i h h' st k => let ⟨⟨old, he⟩, hi⟩ := st; ⟨⟨old, k e (by simp) _ he⟩, itAt_keep hi fun o q => k it (by simp) o q⟩
  item := by
    intro X hP hw hK hc i pins s σ H E I hf st hg
    subst hP hw hK
    obtain ⟨⟨old, he⟩, hit⟩ := st
    obtain ⟨xs, x, hq, hx⟩ := hg
    obtain ⟨its, rv, p, hlt⟩ := inv_seq I hq
    obtain ⟨u, hu, ru⟩ := rv.get hx
    have hil : i < its.toArray.size := by rw [List.size_toArray]; exact (List.getElem?_eq_some_iff.mp hu).1
    have G := GoesN.enumFrom (prog := X.prog) (w := X.w) (A := X.A) (elts := elts) (x1 := kk) (pos := tpos) 0 (draws_k (prog := X.prog) (w := X.w) (A := X.A.in1) (I.ok.hd hc) b it a hai its.toArray) e hei (by simp [hei, Ne.symm hae]) (by simp)
    refine G.goes i s _ E hil ⟨⟨old, he⟩, hit, p⟩ fun v h' tk hY st' hk htk => ?_
    obtain ⟨T, t, y, rfl, hT, hy, hTup⟩ := hY
    have hy : its.toArray[i]? = some y := hy
    have : y = u := by
      rw [List.getElem?_toArray, hu] at hy
      exact (Option.some.inj hy).symm
    subst this
    have new : ObjOk X.prog X.w (upd H T (.tup [.int ((i : Nat) : Int), x])) h' T (.tup [.int ((i : Nat) : Int), x]) :=
      ⟨by show 2 ≤ sizeLine; decide, [.int ((0 : Int) + (i : Int)) t, y], .cons ⟨_, by rw [Int.zero_add]⟩ (.cons ru .nil), hTup⟩
    have I1 := I.turnedNew (t' := tk) (ch := [e, it]) hk hf hT new
    refine ⟨.ref T, _, I1, rfl, ⟨T, x, rfl, I.hok.fresh hT, rfl, fun ys hy => by rw [inv_seq_inj I hq hy]; exact hx⟩, ⟨st'.1, st'.2.1⟩, fun c hc => ?_⟩
    have hlt' : c < s.heap.objs.size := by
      have e' : c = e ∨ c = it := by simpa using hc
      rcases e' with z | z
      · rw [z]; exact Heap.lt_size he
      · rw [z]; obtain ⟨o, q, _⟩ := itAt_obj hit; exact Heap.lt_size q
    rw [upd_ne (Nat.ne_of_lt (Nat.lt_of_lt_of_le hlt' hT))]
    exact (hf c hc).1
  done := by
    intro X hP hw hK hc i pins s σ H E I hf st hg
    subst hP hw hK
    obtain ⟨⟨old, he⟩, hit⟩ := st
    obtain ⟨xs, hq, hx⟩ := hg
    obtain ⟨its, rv, p, hlt⟩ := inv_seq I hq
    have hn : its.toArray.size = i := by rw [List.size_toArray, ← rv.length]; exact hx.symm
    have G := GoesN.enumFrom (prog := X.prog) (w := X.w) (A := X.A) (elts := elts) (x1 := kk) (pos := tpos) 0 (draws_k (prog := X.prog) (w := X.w) (A := X.A.in1) (I.ok.hd hc) b it a hai its.toArray) e hei (by simp [hei, Ne.symm hae]) (by simp)
    refine G.stops s (fun s1 => Inv X pins σ H s1) E (by rw [hn]; exact ⟨⟨old, he⟩, hit, p⟩) fun h' tk hk htk => I.turnedL (t' := tk) (ch := [e, it]) hk hf
  self := fun A i s Q E st h => let ⟨⟨_, he⟩, _⟩ := st; wpAny_pyIter_enum he h
/-! ### zip of two, of three -/
def Itz2K (K : PySem.W.Frag) (b1 b2 : Bool) (a1 a2 : Addr) : L2.It :=
  ⟨fun i H => ∃ (xs ys : List V) (x y : V), SqK K H b1 a1 xs ∧ SqK K H b2 a2 ys ∧ xs[i]? = some x ∧ ys[i]? = some y,
    fun i H v H' => ∃ T x y, v = .ref T ∧ H T = none ∧ H' = upd H T (.tup [x, y]) ∧ (∀ xs, SqK K H b1 a1 xs → xs[i]? = some x) ∧ ∀ ys, SqK K H b2 a2 ys → ys[i]? = some y,
    fun i H => ∃ xs ys : List V, SqK K H b1 a1 xs ∧ SqK K H b2 a2 ys ∧ i = min xs.length ys.length⟩
theorem turn_zip2K {P : Program} {w : World} {K : PySem.W.Frag} {elts : List Expr} {kk : Nat} {tpos : Pos} (N : Nat) (b1 b2 : Bool) (a1 a2 : Addr) (h1 : a1 < N) (h2 : a2 < N) :
    Turn P w K (.Tuple elts kk tpos) (Itz2K K b1 b2 a1 a2) [N + 4, N + 2, N + 3, N, N + 1] (N + 4) (fun i h => IsZip h (N + 4) (N + 2) (N + 3) .none ∧ IsTupOf2 h (N + 2) (.ref N) (.ref (N + 1)) ∧ (∃ x y, IsTupOf2 h (N + 3) x y) ∧ ItAt h b1 N a1 i ∧ ItAt h b2 (N + 1) a2 i) where
  mem := by simp
  obj := fun i h st c hc => by
    obtain ⟨hz, hTI, ⟨x, y, hTO⟩, hi1, hi2⟩ := st
    have e' : c = N + 4 ∨ c = N + 2 ∨ c = N + 3 ∨ c = N ∨ c = N + 1 := by simpa using hc
    rcases e' with q | q | q | q | q
    · rw [q]; exact ⟨_, hz, fun v q => nomatch q⟩
    · rw [q]; exact ⟨_, hTI, fun v q => nomatch q⟩
    · rw [q]; exact ⟨_, hTO, fun v q => nomatch q⟩
    · rw [q]; exact itAt_obj hi1
    · rw [q]; exact itAt_obj hi2
  keep := fun i h h' st k => by
    obtain ⟨hz, hTI, ⟨x, y, hTO⟩, hi1, hi2⟩ := st
    exact ⟨k _ (by simp) _ hz, k _ (by simp) _ hTI, ⟨x, y, k _ (by simp) _ hTO⟩, itAt_keep hi1 fun o q => k _ (by simp) o q, itAt_keep hi2 fun o q => k _ (by simp) o q⟩
  item := by
    intro X hP hw hK hc i pins s σ H E I hf st hg
    subst hP hw hK
    obtain ⟨hz, hTI, hTO, hi1, hi2⟩ := st
    obtain ⟨xs, ys, x, y, hqx, hqy, hx, hy⟩ := hg
    obtain ⟨is1, r1, p1, _⟩ := inv_seq I hqx
    obtain ⟨is2, r2, p2, _⟩ := inv_seq I hqy
    obtain ⟨u1, hu1, ru1⟩ := r1.get hx
    obtain ⟨u2, hu2, ru2⟩ := r2.get hy
    have hil : i < min is1.toArray.size is2.toArray.size := by
      rw [List.size_toArray, List.size_toArray]
      exact Nat.lt_min.mpr ⟨(List.getElem?_eq_some_iff.mp hu1).1, (List.getElem?_eq_some_iff.mp hu2).1⟩
    have G := GoesN.zip2 (prog := X.prog) (w := X.w) (A := X.A) (elts := elts) (x1 := kk) (pos := tpos) (zip_sep2 (N := N) (fp1 := [a1]) (fp2 := [a2]) (by simpa using h1) (by simpa using h2))
      (draws_k (prog := X.prog) (w := X.w) (A := X.A.in1) (I.ok.hd hc) b1 N a1 (Nat.ne_of_lt h1) is1.toArray) (draws_k (prog := X.prog) (w := X.w) (A := X.A.in1) (I.ok.hd hc) b2 (N + 1) a2 (Nat.ne_of_lt (Nat.lt_succ_of_lt h2)) is2.toArray)
    refine G.goes i s _ E hil ⟨hz, hTI, hTO, ⟨hi1, p1⟩, hi2, p2⟩ fun v h' tk hY st' hk htk => ?_
    obtain ⟨T, y1, y2, rfl, hT, hy1, hy2, hTup⟩ := hY
    have hy1 : is1.toArray[i]? = some y1 := hy1
    have hy2 : is2.toArray[i]? = some y2 := hy2
    have : y1 = u1 := by rw [List.getElem?_toArray, hu1] at hy1; exact (Option.some.inj hy1).symm
    subst this
    have : y2 = u2 := by rw [List.getElem?_toArray, hu2] at hy2; exact (Option.some.inj hy2).symm
    subst this
    have new : ObjOk X.prog X.w (upd H T (.tup [x, y])) h' T (.tup [x, y]) := ⟨by show 2 ≤ sizeLine; decide, [y1, y2], .cons ru1 (.cons ru2 .nil), hTup⟩
    have I1 := I.turnedNew (t' := tk) (ch := [N + 4, N + 2, N + 3, N, N + 1]) (fun c o hcn q => hk c o (fun z => hcn (by simp at z ⊢; rcases z with z | z | z | z <;> simp [z])) q) hf hT new
    obtain ⟨g1, g2, g3, g4, g5⟩ := st'
    refine ⟨.ref T, _, I1, rfl, ⟨T, x, y, rfl, I.hok.fresh hT, rfl, fun l hl => by rw [inv_seq_inj I hqx hl]; exact hx, fun l hl => by rw [inv_seq_inj I hqy hl]; exact hy⟩, ⟨g1, g2, g3, g4.1, g5.1⟩, fun c hcm => ?_⟩
    have hlt' : c < s.heap.objs.size := by
      obtain ⟨x0, y0, hTO⟩ := hTO
      have e' : c = N + 4 ∨ c = N + 2 ∨ c = N + 3 ∨ c = N ∨ c = N + 1 := by simpa using hcm
      have hz' : N + 4 < s.heap.objs.size := Heap.lt_size hz
      rcases e' with q | q | q | q | q <;> (rw [q]; first | exact hz' | exact Nat.lt_trans (by omega) hz')
    rw [upd_ne (Nat.ne_of_lt (Nat.lt_of_lt_of_le hlt' hT))]
    exact (hf c hcm).1
  done := by
    intro X hP hw hK hc i pins s σ H E I hf st hg
    subst hP hw hK
    obtain ⟨hz, hTI, hTO, hi1, hi2⟩ := st
    obtain ⟨xs, ys, hqx, hqy, hend⟩ := hg
    obtain ⟨is1, r1, p1, _⟩ := inv_seq I hqx
    obtain ⟨is2, r2, p2, _⟩ := inv_seq I hqy
    have hn : min is1.toArray.size is2.toArray.size = i := by rw [List.size_toArray, List.size_toArray, ← r1.length, ← r2.length]; exact hend.symm
    have G := GoesN.zip2 (prog := X.prog) (w := X.w) (A := X.A) (elts := elts) (x1 := kk) (pos := tpos) (zip_sep2 (N := N) (fp1 := [a1]) (fp2 := [a2]) (by simpa using h1) (by simpa using h2))
      (draws_k (prog := X.prog) (w := X.w) (A := X.A.in1) (I.ok.hd hc) b1 N a1 (Nat.ne_of_lt h1) is1.toArray) (draws_k (prog := X.prog) (w := X.w) (A := X.A.in1) (I.ok.hd hc) b2 (N + 1) a2 (Nat.ne_of_lt (Nat.lt_succ_of_lt h2)) is2.toArray)
    refine G.stops s (fun s1 => Inv X pins σ H s1) E (by rw [hn]; exact ⟨hz, hTI, hTO, ⟨hi1, p1⟩, hi2, p2⟩) fun h' tk hk htk => I.turnedL (t' := tk) (ch := [N + 4, N + 2, N + 3, N, N + 1]) (fun c o hcn q => hk c o (fun z => hcn (by simp at z ⊢; rcases z with z | z | z | z <;> simp [z])) q) hf
  self := fun A i s Q E st h => wpAny_pyIter_zip st.1 h
def Itz3K (K : PySem.W.Frag) (b1 b2 b3 : Bool) (a1 a2 a3 : Addr) : L2.It :=
  ⟨fun i H => ∃ (xs ys zs : List V) (x y z : V), SqK K H b1 a1 xs ∧ SqK K H b2 a2 ys ∧ SqK K H b3 a3 zs ∧ xs[i]? = some x ∧ ys[i]? = some y ∧ zs[i]? = some z,
    fun i H v H' => ∃ T x y z, v = .ref T ∧ H T = none ∧ H' = upd H T (.tup [x, y, z]) ∧ (∀ xs, SqK K H b1 a1 xs → xs[i]? = some x) ∧ (∀ ys, SqK K H b2 a2 ys → ys[i]? = some y) ∧ ∀ zs, SqK K H b3 a3 zs → zs[i]? = some z,
    fun i H => ∃ xs ys zs : List V, SqK K H b1 a1 xs ∧ SqK K H b2 a2 ys ∧ SqK K H b3 a3 zs ∧ i = min (min xs.length ys.length) zs.length⟩
theorem turn_zip3K {P : Program} {w : World} {K : PySem.W.Frag} {elts : List Expr} {kk : Nat} {tpos : Pos} (N : Nat) (b1 b2 b3 : Bool) (a1 a2 a3 : Addr) (h1 : a1 < N) (h2 : a2 < N) (h3 : a3 < N) :
    Turn P w K (.Tuple elts kk tpos) (Itz3K K b1 b2 b3 a1 a2 a3) [N + 5, N + 3, N + 4, N, N + 1, N + 2] (N + 5) (fun i h => IsZip h (N + 5) (N + 3) (N + 4) .none ∧ IsTupOf3 h (N + 3) (.ref N) (.ref (N + 1)) (.ref (N + 2)) ∧ (∃ x y z, IsTupOf3 h (N + 4) x y z) ∧ ItAt h b1 N a1 i ∧ ItAt h b2 (N + 1) a2 i ∧ ItAt h b3 (N + 2) a3 i) where
  mem := by simp
  obj := fun i h st c hc => by
    obtain ⟨hz, hTI, ⟨x, y, z, hTO⟩, hi1, hi2, hi3⟩ := st
    have e' : c = N + 5 ∨ c = N + 3 ∨ c = N + 4 ∨ c = N ∨ c = N + 1 ∨ c = N + 2 := by simpa using hc
    rcases e' with q | q | q | q | q | q
    · rw [q]; exact ⟨_, hz, fun v q => nomatch q⟩
    · rw [q]; exact ⟨_, hTI, fun v q => nomatch q⟩
    · rw [q]; exact ⟨_, hTO, fun v q => nomatch q⟩
    · rw [q]; exact itAt_obj hi1
    · rw [q]; exact itAt_obj hi2
    · rw [q]; exact itAt_obj hi3
  keep := fun i h h' st k => by
    obtain ⟨hz, hTI, ⟨x, y, z, hTO⟩, hi1, hi2, hi3⟩ := st
    exact ⟨k _ (by simp) _ hz, k _ (by simp) _ hTI, ⟨x, y, z, k _ (by simp) _ hTO⟩, itAt_keep hi1 fun o q => k _ (by simp) o q, itAt_keep hi2 fun o q => k _ (by simp) o q, itAt_keep hi3 fun o q => k _ (by simp) o q⟩
  item := by
    intro X hP hw hK hc i pins s σ H E I hf st hg
    subst hP hw hK
    obtain ⟨hz, hTI, hTO, hi1, hi2, hi3⟩ := st
    obtain ⟨xs, ys, zs, x, y, z, hqx, hqy, hqz, hx, hy, hzz⟩ := hg
    obtain ⟨is1, r1, p1, _⟩ := inv_seq I hqx
    obtain ⟨is2, r2, p2, _⟩ := inv_seq I hqy
    obtain ⟨is3, r3, p3, _⟩ := inv_seq I hqz
    obtain ⟨u1, hu1, ru1⟩ := r1.get hx
    obtain ⟨u2, hu2, ru2⟩ := r2.get hy
    obtain ⟨u3, hu3, ru3⟩ := r3.get hzz
    have hil : i < min (min is1.toArray.size is2.toArray.size) is3.toArray.size := by
      rw [List.size_toArray, List.size_toArray, List.size_toArray]
      exact Nat.lt_min.mpr ⟨Nat.lt_min.mpr ⟨(List.getElem?_eq_some_iff.mp hu1).1, (List.getElem?_eq_some_iff.mp hu2).1⟩, (List.getElem?_eq_some_iff.mp hu3).1⟩
    have G := GoesN.zip3 (prog := X.prog) (w := X.w) (A := X.A) (elts := elts) (x1 := kk) (pos := tpos) (zip_sep3 (N := N) (fp1 := [a1]) (fp2 := [a2]) (fp3 := [a3]) (by simpa using h1) (by simpa using h2) (by simpa using h3))
      (draws_k (prog := X.prog) (w := X.w) (A := X.A.in1) (I.ok.hd hc) b1 N a1 (Nat.ne_of_lt h1) is1.toArray) (draws_k (prog := X.prog) (w := X.w) (A := X.A.in1) (I.ok.hd hc) b2 (N + 1) a2 (Nat.ne_of_lt (Nat.lt_succ_of_lt h2)) is2.toArray)
      (draws_k (prog := X.prog) (w := X.w) (A := X.A.in1) (I.ok.hd hc) b3 (N + 2) a3 (Nat.ne_of_lt (Nat.lt_succ_of_lt (Nat.lt_succ_of_lt h3))) is3.toArray)
    refine G.goes i s _ E hil ⟨hz, hTI, hTO, ⟨hi1, p1⟩, ⟨hi2, p2⟩, hi3, p3⟩ fun v h' tk hY st' hk htk => ?_
    obtain ⟨T, y1, y2, y3, rfl, hT, hy1, hy2, hy3, hTup⟩ := hY
    have hy1 : is1.toArray[i]? = some y1 := hy1
    have hy2 : is2.toArray[i]? = some y2 := hy2
    have hy3 : is3.toArray[i]? = some y3 := hy3
    have : y1 = u1 := by rw [List.getElem?_toArray, hu1] at hy1; exact (Option.some.inj hy1).symm
    subst this
    have : y2 = u2 := by rw [List.getElem?_toArray, hu2] at hy2; exact (Option.some.inj hy2).symm
    subst this
    have : y3 = u3 := by rw [List.getElem?_toArray, hu3] at hy3; exact (Option.some.inj hy3).symm
    subst this
    have new : ObjOk X.prog X.w (upd H T (.tup [x, y, z])) h' T (.tup [x, y, z]) := ⟨by show 3 ≤ sizeLine; decide, [y1, y2, y3], .cons ru1 (.cons ru2 (.cons ru3 .nil)), hTup⟩
    have I1 := I.turnedNew (t' := tk) (ch := [N + 5, N + 3, N + 4, N, N + 1, N + 2]) (fun c o hcn q => hk c o (fun z => hcn (by simp at z ⊢; rcases z with z | z | z | z | z <;> simp [z])) q) hf hT new
    obtain ⟨g1, g2, g3, g4, g5, g6⟩ := st'
    refine ⟨.ref T, _, I1, rfl, ⟨T, x, y, z, rfl, I.hok.fresh hT, rfl, fun l hl => by rw [inv_seq_inj I hqx hl]; exact hx, fun l hl => by rw [inv_seq_inj I hqy hl]; exact hy, fun l hl => by rw [inv_seq_inj I hqz hl]; exact hzz⟩, ⟨g1, g2, g3, g4.1, g5.1, g6.1⟩, fun c hcm => ?_⟩
    have hlt' : c < s.heap.objs.size := by
      have e' : c = N + 5 ∨ c = N + 3 ∨ c = N + 4 ∨ c = N ∨ c = N + 1 ∨ c = N + 2 := by simpa using hcm
      have hz' : N + 5 < s.heap.objs.size := Heap.lt_size hz
      rcases e' with q | q | q | q | q | q <;> (rw [q]; first | exact hz' | exact Nat.lt_trans (by omega) hz')
    rw [upd_ne (Nat.ne_of_lt (Nat.lt_of_lt_of_le hlt' hT))]
    exact (hf c hcm).1
  done := by
    intro X hP hw hK hc i pins s σ H E I hf st hg
    subst hP hw hK
    obtain ⟨hz, hTI, hTO, hi1, hi2, hi3⟩ := st
    obtain ⟨xs, ys, zs, hqx, hqy, hqz, hend⟩ := hg
    obtain ⟨is1, r1, p1, _⟩ := inv_seq I hqx
    obtain ⟨is2, r2, p2, _⟩ := inv_seq I hqy
    obtain ⟨is3, r3, p3, _⟩ := inv_seq I hqz
    have hn : min (min is1.toArray.size is2.toArray.size) is3.toArray.size = i := by rw [List.size_toArray, List.size_toArray, List.size_toArray, ← r1.length, ← r2.length, ← r3.length]; exact hend.symm
    have G := GoesN.zip3 (prog := X.prog) (w := X.w) (A := X.A) (elts := elts) (x1 := kk) (pos := tpos) (zip_sep3 (N := N) (fp1 := [a1]) (fp2 := [a2]) (fp3 := [a3]) (by simpa using h1) (by simpa using h2) (by simpa using h3))
      (draws_k (prog := X.prog) (w := X.w) (A := X.A.in1) (I.ok.hd hc) b1 N a1 (Nat.ne_of_lt h1) is1.toArray) (draws_k (prog := X.prog) (w := X.w) (A := X.A.in1) (I.ok.hd hc) b2 (N + 1) a2 (Nat.ne_of_lt (Nat.lt_succ_of_lt h2)) is2.toArray)
      (draws_k (prog := X.prog) (w := X.w) (A := X.A.in1) (I.ok.hd hc) b3 (N + 2) a3 (Nat.ne_of_lt (Nat.lt_succ_of_lt (Nat.lt_succ_of_lt h3))) is3.toArray)
    refine G.stops s (fun s1 => Inv X pins σ H s1) E (by rw [hn]; exact ⟨hz, hTI, hTO, ⟨hi1, p1⟩, ⟨hi2, p2⟩, hi3, p3⟩) fun h' tk hk htk => I.turnedL (t' := tk) (ch := [N + 5, N + 3, N + 4, N, N + 1, N + 2]) (fun c o hcn q => hk c o (fun z => hcn (by simp at z ⊢; rcases z with z | z | z | z | z <;> simp [z])) q) hf
  self := fun A i s Q E st h => wpAny_pyIter_zip st.1 h
/-! ### the walked things -/
section
variable {X : Cx}
def iEnumK (K : PySem.W.Frag) (ta : TA) : TI := fun σ H R => ta σ H fun vs H1 => ∃ b a xs, vs = [.ref a] ∧ SqK K H1 b a xs ∧ R (IteK K b a) H1
theorem pi_enumK {e : Expr} {ta : TA} {p pos tpos : Pos} {elts : List Expr} {kk : Nat} (hg : Gl X "enumerate") (hm : X.mg "enumerate" = none) (ha : PA X [e] ta) (hs : starEach [e] X.env = [(false, eval e X.env)]) :
    PI X (.Tuple elts kk tpos) (.Call (.Name "enumerate" p) [e] [] pos) (iEnumK X.K ta) := by
  refine ⟨fun pins s σ H R I h => ?_⟩
  refine Call_ (ld_blt I hg hm boot_enumerate (PyProof.Rows.callWith_type1 (thn (ha.run pos pins s σ H _ I h) fun us s1 ⟨vs, H1, I1, r1, q1⟩ => ?_) hs rfl))
  obtain ⟨b, a, xs, ex, hq, q⟩ := q1
  subst ex
  cases r1 with
  | cons r rr =>
    cases rr
    cases r
    obtain ⟨its, rv, p', hlt⟩ := inv_seq I1 hq
    refine enum_begins1 (begins_k b a its.toArray) p' fun h' he hit hsz hk => wpAny_pyIter_enum he ?_
    have I2 : Inv X pins σ H1 { s1 with heap := h' } := I1.kept (t' := s1.toks) hk
    refine ⟨s1.heap.objs.size + 1, [s1.heap.objs.size + 1, s1.heap.objs.size], _, _, H1, rfl, I2, turn_enumK b a (s1.heap.objs.size + 1) s1.heap.objs.size (Nat.ne_of_lt (Nat.lt_succ_of_lt hlt)) (Nat.ne_of_lt hlt) (Nat.succ_ne_self _), ⟨⟨.none, he⟩, itAt_new hit⟩, fun c hb => ?_, q⟩
    have e' : c = s1.heap.objs.size + 1 ∨ c = s1.heap.objs.size := by simpa using hb
    have hle : s1.heap.objs.size ≤ c := by
      rcases e' with z | z
      · rw [z]; exact Nat.le_add_right _ _
      · rw [z]; exact Nat.le_refl _
    exact I1.fpOk hle (I1.hok.fresh hle)
def iZip2K (K : PySem.W.Frag) (ta : TA) : TI := fun σ H R => ta σ H fun vs H1 => ∃ b1 b2 a1 a2 xs ys, vs = [.ref a1, .ref a2] ∧ SqK K H1 b1 a1 xs ∧ SqK K H1 b2 a2 ys ∧ R (Itz2K K b1 b2 a1 a2) H1
theorem pi_zip2K {e e2 : Expr} {ta : TA} {p pos tpos : Pos} {elts : List Expr} {kk : Nat} (hg : Gl X "zip") (hm : X.mg "zip" = none) (ha : PA X [e, e2] ta)
    (hs : starEach [e, e2] X.env = (false, eval e X.env) :: starEach [e2] X.env) (hpl : (backTo pos (starEach [e2] X.env)).any (·.1) = false) :
    PI X (.Tuple elts kk tpos) (.Call (.Name "zip" p) [e, e2] [] pos) (iZip2K X.K ta) := by
  refine ⟨fun pins s σ H R I h => ?_⟩
  refine Call_ (ld_blt I hg hm PyProof.Rows.boot_zip (PyProof.Rows.callWith_type1 (thn (ha.run pos pins s σ H _ I h) fun us s1 ⟨vs, H1, I1, r1, q1⟩ => ?_) hs hpl))
  obtain ⟨b1, b2, a1, a2, xs, ys, ex, hqx, hqy, q⟩ := q1
  subst ex
  cases r1 with
  | cons r rr =>
    cases rr with
    | cons r' rr =>
      cases rr
      cases r
      cases r'
      obtain ⟨is1, rv1, p1, l1⟩ := inv_seq I1 hqx
      obtain ⟨is2, rv2, p2, l2⟩ := inv_seq I1 hqy
      refine zip_begins2 (begins_k b1 a1 is1.toArray) (begins_k b2 a2 is2.toArray) p1 p2 fun h' hz hTI hTO g1 g2 hsz hk => wpAny_pyIter_zip hz ?_
      have I2 : Inv X pins σ H1 { s1 with heap := h' } := I1.kept (t' := s1.toks) hk
      refine ⟨s1.heap.objs.size + 4, [s1.heap.objs.size + 4, s1.heap.objs.size + 2, s1.heap.objs.size + 3, s1.heap.objs.size, s1.heap.objs.size + 1], _, _, H1, rfl, I2, turn_zip2K s1.heap.objs.size b1 b2 a1 a2 l1 l2, ⟨hz, hTI, ⟨_, _, hTO⟩, itAt_new g1, itAt_new g2⟩, fun c hb => ?_, q⟩
      have hle : s1.heap.objs.size ≤ c := by
        have e' : c = s1.heap.objs.size + 4 ∨ c = s1.heap.objs.size + 2 ∨ c = s1.heap.objs.size + 3 ∨ c = s1.heap.objs.size ∨ c = s1.heap.objs.size + 1 := by simpa using hb
        rcases e' with z | z | z | z | z <;> (rw [z]; first | exact Nat.le_refl _ | exact Nat.le_add_right _ _)
      exact I1.fpOk hle (I1.hok.fresh hle)
def iZip3K (K : PySem.W.Frag) (ta : TA) : TI := fun σ H R => ta σ H fun vs H1 => ∃ b1 b2 b3 a1 a2 a3 xs ys zs, vs = [.ref a1, .ref a2, .ref a3] ∧ SqK K H1 b1 a1 xs ∧ SqK K H1 b2 a2 ys ∧ SqK K H1 b3 a3 zs ∧ R (Itz3K K b1 b2 b3 a1 a2 a3) H1
theorem pi_zip3K {e e2 e3 : Expr} {ta : TA} {p pos tpos : Pos} {elts : List Expr} {kk : Nat} (hg : Gl X "zip") (hm : X.mg "zip" = none) (ha : PA X [e, e2, e3] ta)
    (hs : starEach [e, e2, e3] X.env = (false, eval e X.env) :: starEach [e2, e3] X.env) (hpl : (backTo pos (starEach [e2, e3] X.env)).any (·.1) = false) :
    PI X (.Tuple elts kk tpos) (.Call (.Name "zip" p) [e, e2, e3] [] pos) (iZip3K X.K ta) := by
  refine ⟨fun pins s σ H R I h => ?_⟩
  refine Call_ (ld_blt I hg hm PyProof.Rows.boot_zip (PyProof.Rows.callWith_type1 (thn (ha.run pos pins s σ H _ I h) fun us s1 ⟨vs, H1, I1, r1, q1⟩ => ?_) hs hpl))
  obtain ⟨b1, b2, b3, a1, a2, a3, xs, ys, zs, ex, hqx, hqy, hqz, q⟩ := q1
  subst ex
  cases r1 with
  | cons r rr =>
    cases rr with
    | cons r' rr =>
      cases rr with
      | cons r'' rr =>
        cases rr
        cases r
        cases r'
        cases r''
        obtain ⟨is1, rv1, p1, l1⟩ := inv_seq I1 hqx
        obtain ⟨is2, rv2, p2, l2⟩ := inv_seq I1 hqy
        obtain ⟨is3, rv3, p3, l3⟩ := inv_seq I1 hqz
        refine zip_begins3 (begins_k b1 a1 is1.toArray) (begins_k b2 a2 is2.toArray) (begins_k b3 a3 is3.toArray) p1 p2 p3 fun h' hz hTI hTO g1 g2 g3 hsz hk => wpAny_pyIter_zip hz ?_
        have I2 : Inv X pins σ H1 { s1 with heap := h' } := I1.kept (t' := s1.toks) hk
        refine ⟨s1.heap.objs.size + 5, [s1.heap.objs.size + 5, s1.heap.objs.size + 3, s1.heap.objs.size + 4, s1.heap.objs.size, s1.heap.objs.size + 1, s1.heap.objs.size + 2], _, _, H1, rfl, I2, turn_zip3K s1.heap.objs.size b1 b2 b3 a1 a2 a3 l1 l2 l3, ⟨hz, hTI, ⟨_, _, _, hTO⟩, itAt_new g1, itAt_new g2, itAt_new g3⟩, fun c hb => ?_, q⟩
        have hle : s1.heap.objs.size ≤ c := by
          have e' : c = s1.heap.objs.size + 5 ∨ c = s1.heap.objs.size + 3 ∨ c = s1.heap.objs.size + 4 ∨ c = s1.heap.objs.size ∨ c = s1.heap.objs.size + 1 ∨ c = s1.heap.objs.size + 2 := by simpa using hb
          rcases e' with z | z | z | z | z | z <;> (rw [z]; first | exact Nat.le_refl _ | exact Nat.le_add_right _ _)
        exact I1.fpOk hle (I1.hok.fresh hle)
end
end FI

/-! What the interpreter says, the model does. -/
namespace FI
open PySem PySem.Spec PyProof.Rows L2

section
variable (K : PySem.W.Frag) (n : Nat) (rho : Nat → Addr) (H : Hp)
mutual
def VR : PV → V → Prop
  | .non, v => v = .non
  | .bl b, v => v = .bl b
  | .int i, v => v = .int i
  | .str x, v => v = .str x
  | .tup xs, v => ∃ a vs, v = .ref a ∧ SqT K H a vs ∧ VRs xs vs
  | .lst i, v => i < n ∧ v = .ref (rho i)
  | .dct i, v => i < n ∧ v = .ref (rho i)
def VRs : List PV → List V → Prop
  | [], vs => vs = []
  | x :: xs, vs => ∃ v r, vs = v :: r ∧ VR x v ∧ VRs xs r
end

/-- a list that is only read: locked, or of the written part -/
def RoL (a : Addr) (vs : List V) : Prop := (∃ o, H a = some (.frz o (.lst vs))) ∨ (∀ H' : Hp, SqL K H' a vs)
def SOk (i : Nat) : SO → Prop
  | .lst xs => ∃ vs, H (rho i) = some (.lst vs) ∧ VRs K n rho H xs vs
  | .rol xs => ∃ vs, RoL K H (rho i) vs ∧ VRs K n rho H xs vs
  | .dct kvs => ∃ ws, H (rho i) = some (.dK ws) ∧ ws.map (·.1) = kvs.map (·.1) ∧ VRs K n rho H (kvs.map (·.2)) (ws.map (·.2))
end

structure RSt (K : PySem.W.Frag) (rho : Nat → Addr) (H : Hp) (s : Sto) : Prop where
  ok : ∀ i o, look i s.os = some o → SOk K s.n rho H i o
  lt : ∀ i o, look i s.os = some o → i < s.n
  inj : ∀ i j o u, look i s.os = some o → look j s.os = some u → tr o = true → tr u = true → rho i = rho j → i = j

/-- from one state to a later one -/
structure Ext (s : Sto) (rho rho' : Nat → Addr) (H H' : Hp) (s' : Sto) : Prop where
  le : s.n ≤ s'.n
  eq : ∀ i, i < s.n → rho' i = rho i
  fr : ∀ b o, H b = some o → (∀ i u, look i s.os = some u → tr u = true → rho i ≠ b) → H' b = some o
  st : ∀ i o, look i s.os = some o → ∃ u, look i s'.os = some u ∧ tr u = tr o
  nw : ∀ j u, look j s'.os = some u → (∃ o, look j s.os = some o ∧ tr o = tr u) ∨ (s.n ≤ j ∧ H (rho' j) = none)

section
variable {K : PySem.W.Frag} {n n' : Nat} {rho rho' rho2 : Nat → Addr} {H H' H2 : Hp} {s s' s2 : Sto}

theorem Ext.refl : Ext s rho rho H H s := ⟨Nat.le_refl _, fun _ _ => rfl, fun _ _ h _ => h, fun _ o h => ⟨o, h, rfl⟩, fun _ u h => .inl ⟨u, h, rfl⟩⟩

theorem SOk.there {i : Nat} {o : SO} (h : SOk K n rho H i o) (ht : tr o = true) : ∃ u, H (rho i) = some u ∧ (∀ xs, u ≠ .tup xs) ∧ (∀ q xs, u ≠ .frz q xs) := by
  cases o with
  | lst xs =>
    obtain ⟨vs, e, _⟩ := h
    exact ⟨_, e, (by intro _ z; cases z), (by intro _ _ z; cases z)⟩
  | rol xs => cases ht
  | dct kvs =>
    obtain ⟨ws, e, _⟩ := h
    exact ⟨_, e, (by intro _ z; cases z), (by intro _ _ z; cases z)⟩

/-- tuples stay -/
theorem Ext.tup (x : Ext s rho rho' H H' s') (r : RSt K rho H s) {a : Addr} {vs : List V} (h : SqT K H a vs) : SqT K H' a vs := by
  have ne : ∀ u, H a = some u → (∃ xs, u = .tup xs) ∨ (∃ q xs, u = .frz q (.tup xs)) → H' a = some u := fun u e k => x.fr a u e fun i o hi ht z => by
    obtain ⟨w, e2, n1, n2⟩ := (r.ok i o hi).there ht
    rw [z, e] at e2
    cases e2
    rcases k with ⟨xs, rfl⟩ | ⟨q, xs, rfl⟩
    · exact n1 xs rfl
    · exact n2 q _ rfl
  rcases h with h | h
  · rcases h with h | ⟨o, h⟩
    · exact .inl (.inl (ne _ h (.inl ⟨_, rfl⟩)))
    · exact .inl (.inr ⟨o, ne _ h (.inr ⟨_, _, rfl⟩)⟩)
  · exact .inr h

mutual
theorem VR.mono (le : n ≤ n') (eq : ∀ i, i < n → rho' i = rho i) (tu : ∀ a vs, SqT K H a vs → SqT K H' a vs) : ∀ (p : PV) (v : V), VR K n rho H p v → VR K n' rho' H' p v
  | .non, v, h => by simpa only [VR] using h
  | .bl b, v, h => by simpa only [VR] using h
  | .int i, v, h => by simpa only [VR] using h
  | .str x, v, h => by simpa only [VR] using h
  | .tup xs, v, h => by
    simp only [VR] at h ⊢
    obtain ⟨a, vs, e, t, r⟩ := h
    exact ⟨a, vs, e, tu a vs t, VRs.mono le eq tu xs vs r⟩
  | .lst i, v, h => by
    simp only [VR] at h ⊢
    exact ⟨Nat.lt_of_lt_of_le h.1 le, by rw [eq i h.1]; exact h.2⟩
  | .dct i, v, h => by
    simp only [VR] at h ⊢
    exact ⟨Nat.lt_of_lt_of_le h.1 le, by rw [eq i h.1]; exact h.2⟩
theorem VRs.mono (le : n ≤ n') (eq : ∀ i, i < n → rho' i = rho i) (tu : ∀ a vs, SqT K H a vs → SqT K H' a vs) : ∀ (ps : List PV) (vs : List V), VRs K n rho H ps vs → VRs K n' rho' H' ps vs
  | [], vs, h => by simpa only [VRs] using h
  | p :: ps, vs, h => by
    simp only [VRs] at h ⊢
    obtain ⟨v, r, e, h1, h2⟩ := h
    exact ⟨v, r, e, VR.mono le eq tu p v h1, VRs.mono le eq tu ps r h2⟩
end
theorem Ext.vr (x : Ext s rho rho' H H' s') (r : RSt K rho H s) {p : PV} {v : V} (h : VR K s.n rho H p v) : VR K s'.n rho' H' p v :=
  VR.mono x.le x.eq (fun _ _ t => x.tup r t) p v h
theorem Ext.vrs (x : Ext s rho rho' H H' s') (r : RSt K rho H s) {p : List PV} {v : List V} (h : VRs K s.n rho H p v) : VRs K s'.n rho' H' p v :=
  VRs.mono x.le x.eq (fun _ _ t => x.tup r t) p v h
theorem Ext.trans (x : Ext s rho rho' H H' s') (y : Ext s' rho' rho2 H' H2 s2) (r : RSt K rho H s) (r' : RSt K rho' H' s') : Ext s rho rho2 H H2 s2 where
  le := Nat.le_trans x.le y.le
  eq := fun i h => (y.eq i (Nat.lt_of_lt_of_le h x.le)).trans (x.eq i h)
  fr := fun b o e nb => y.fr b o (x.fr b o e nb) fun j u hj ht z => by
    rcases x.nw j u hj with ⟨w, hw, hwt⟩ | ⟨_, hn⟩
    · exact nb j w hw (by rw [hwt]; exact ht) (by rw [← x.eq j (r.lt j w hw)]; exact z)
    · rw [z, e] at hn; cases hn
  st := fun i o h => let ⟨u, hu, hut⟩ := x.st i o h; let ⟨v, hv, hvt⟩ := y.st i u hu; ⟨v, hv, hvt.trans hut⟩
  nw := fun j u hj => by
    rcases y.nw j u hj with ⟨w, hw, hwt⟩ | ⟨hl, hn⟩
    · rcases x.nw j w hw with ⟨z, hz, hzt⟩ | ⟨z1, z2⟩
      · exact .inl ⟨z, hz, hzt.trans hwt⟩
      · exact .inr ⟨z1, by rw [y.eq j (r'.lt j w hw)]; exact z2⟩
    · refine .inr ⟨Nat.le_trans x.le hl, ?_⟩
      cases e : H (rho2 j) with
      | none => rfl
      | some o =>
        exfalso
        by_cases k : ∃ i u, look i s.os = some u ∧ tr u = true ∧ rho i = rho2 j
        · obtain ⟨i, u, hi, ht, z⟩ := k
          obtain ⟨u', hu', ht'⟩ := x.st i u hi
          obtain ⟨q, e2, _⟩ := (r'.ok i u' hu').there (by rw [ht']; exact ht)
          rw [x.eq i (r.lt i u hi), z, hn] at e2
          cases e2
        · have z := x.fr _ o e fun i u hi ht z => k ⟨i, u, hi, ht, z⟩
          rw [hn] at z; cases z
end
end FI

namespace FI
open PySem PySem.Spec PyProof.Rows L2

/-- the own exception classes: where one stands, its fields -/
abbrev Cls0 := Nat → Option (Addr × List Str)

section
variable {K : PySem.W.Frag} {n n' : Nat} {rho rho' : Nat → Addr} {H H' : Hp} {s s' : Sto} {a : Addr} {o : HO}
theorem sqT_upd {b : Addr} {vs : List V} (hn : H a = none) (h : SqT K H b vs) : SqT K (upd H a o) b vs := by
  rcases h with h | h
  · rcases h with h | ⟨q, h⟩
    · exact .inl (.inl (by rw [upd_ne (ne_of_none h hn)]; exact h))
    · exact .inl (.inr ⟨q, by rw [upd_ne (ne_of_none h hn)]; exact h⟩)
  · exact .inr h
theorem vr_upd {p : PV} {v : V} (hn : H a = none) (h : VR K n rho H p v) : VR K n rho (upd H a o) p v := VR.mono (Nat.le_refl _) (fun _ _ => rfl) (fun _ _ => sqT_upd hn) p v h
theorem vrs_upd {p : List PV} {v : List V} (hn : H a = none) (h : VRs K n rho H p v) : VRs K n rho (upd H a o) p v := VRs.mono (Nat.le_refl _) (fun _ _ => rfl) (fun _ _ => sqT_upd hn) p v h
theorem sok_mono {i : Nat} {u : SO} (le : n ≤ n') (eq : ∀ i, i < n → rho' i = rho i) (tu : ∀ a vs, SqT K H a vs → SqT K H' a vs) (hi : i < n) (hh : ∀ w, H (rho i) = some w → (tr u = true ∨ ∃ q x, w = .frz q x) → H' (rho i) = some w) (h : SOk K n rho H i u) : SOk K n' rho' H' i u := by
  cases u with
  | lst xs =>
    obtain ⟨vs, e, r⟩ := h
    exact ⟨vs, by rw [eq i hi]; exact hh _ e (.inl rfl), VRs.mono le eq tu _ _ r⟩
  | rol xs =>
    obtain ⟨vs, e, r⟩ := h
    refine ⟨vs, ?_, VRs.mono le eq tu _ _ r⟩
    rw [eq i hi]
    rcases e with ⟨q, e⟩ | e
    · exact .inl ⟨q, hh _ e (.inr ⟨_, _, rfl⟩)⟩
    · exact .inr e
  | dct kvs =>
    obtain ⟨ws, e, k, r⟩ := h
    exact ⟨ws, by rw [eq i hi]; exact hh _ e (.inl rfl), k, VRs.mono le eq tu _ _ r⟩
theorem RSt.upd (r : RSt K rho H s) (hn : H a = none) : RSt K rho (L2.upd H a o) s where
  ok := fun i u hi => sok_mono (Nat.le_refl _) (fun _ _ => rfl) (fun _ _ => sqT_upd hn) (r.lt i u hi) (fun w e _ => by rw [upd_ne (ne_of_none e hn)]; exact e) (r.ok i u hi)
  lt := r.lt
  inj := r.inj
theorem Ext.upd (hn : H a = none) : Ext s rho rho H (L2.upd H a o) s :=
  ⟨Nat.le_refl _, fun _ _ => rfl, fun b u e _ => by rw [upd_ne (ne_of_none e hn)]; exact e, fun _ u h => ⟨u, h, rfl⟩, fun _ u h => .inl ⟨u, h, rfl⟩⟩

theorem look_new {i : Nat} {u w : SO} (h : look i (s.new u).os = some w) : (i = s.n ∧ w = u) ∨ (i ≠ s.n ∧ look i s.os = some w) := by
  unfold Sto.new at h
  simp only [look] at h
  split at h
  · rename_i e
    exact .inl ⟨Nat.eq_of_beq_eq_true e, (Option.some.inj h).symm⟩
  · rename_i e
    exact .inr ⟨fun z => e (by rw [z]; exact Nat.beq_refl _), h⟩
theorem look_new_old {i : Nat} {u w : SO} (hi : i ≠ s.n) (h : look i s.os = some w) : look i (s.new u).os = some w := by
  unfold Sto.new
  simp only [look]
  rw [if_neg fun z => hi (Nat.eq_of_beq_eq_true z)]
  exact h
def rhoNew (rho : Nat → Addr) (n : Nat) (a : Addr) : Nat → Addr := fun i => if i = n then a else rho i
theorem rhoNew_lt {i : Nat} (h : i < n) : rhoNew rho n a i = rho i := by unfold rhoNew; rw [if_neg (by omega)]
theorem rhoNew_at : rhoNew rho n a n = a := by unfold rhoNew; rw [if_pos rfl]

/-- a new object of the store -/
theorem new_obj {u : SO} (r : RSt K rho H s) (hn : H a = none) (hu : SOk K (s.n + 1) (rhoNew rho s.n a) (upd H a o) s.n u) :
    Ext s rho (rhoNew rho s.n a) H (upd H a o) (s.new u) ∧ RSt K (rhoNew rho s.n a) (upd H a o) (s.new u) := by
  have some_ne : ∀ i w, look i s.os = some w → tr w = true → rho i ≠ a := fun i w hi ht z => by
    obtain ⟨q, e, _⟩ := (r.ok i w hi).there ht
    rw [z, hn] at e; cases e
  refine ⟨⟨Nat.le_succ _, fun i h => rhoNew_lt h, fun b w e _ => by rw [upd_ne (ne_of_none e hn)]; exact e, fun i w h => ⟨w, look_new_old (Nat.ne_of_lt (r.lt i w h)) h, rfl⟩, fun j w h => ?_⟩, ⟨fun i w h => ?_, fun i w h => ?_, fun i j w w' h h' t1 t2 e => ?_⟩⟩
  · rcases look_new h with ⟨z, _⟩ | ⟨_, z⟩
    · exact .inr ⟨by rw [z]; exact Nat.le_refl _, by rw [z, rhoNew_at]; exact hn⟩
    · exact .inl ⟨w, z, rfl⟩
  · rcases look_new h with ⟨z, z2⟩ | ⟨_, z⟩
    · subst z; subst z2; exact hu
    · exact sok_mono (Nat.le_succ _) (fun i h => rhoNew_lt h) (fun _ _ => sqT_upd hn) (r.lt i w z) (fun q e _ => by rw [upd_ne (ne_of_none e hn)]; exact e) (r.ok i w z)
  · rcases look_new h with ⟨z, _⟩ | ⟨_, z⟩
    · rw [z]; exact Nat.lt_succ_self _
    · exact Nat.lt_succ_of_lt (r.lt i w z)
  · rcases look_new h with ⟨z, _⟩ | ⟨_, z⟩
    · rcases look_new h' with ⟨z', _⟩ | ⟨_, z'⟩
      · rw [z, z']
      · rw [z, rhoNew_at, rhoNew_lt (r.lt j w' z')] at e
        exact absurd e.symm (some_ne j w' z' t2)
    · rcases look_new h' with ⟨z', _⟩ | ⟨_, z'⟩
      · rw [z', rhoNew_at, rhoNew_lt (r.lt i w z)] at e
        exact absurd e (some_ne i w z t1)
      · rw [rhoNew_lt (r.lt i w z), rhoNew_lt (r.lt j w' z')] at e
        exact r.inj i j w w' z z' t1 t2 e
end

/-- what is wanted of an answer of the interpreter -/
def Post (K : PySem.W.Frag) (cl : Cls0) (W : WX) (σ : L2.St) (rho : Nat → Addr) (s : Sto) (H : Hp) (r : Res PV) (Q : VK) : Prop := match r with
  | .ok p s' => ∀ rho' H' v, Ext s rho rho' H H' s' → RSt K rho' H' s' → VR K s'.n rho' H' p v → Q v H'
  | .exc c fs s' => ∃ C names, cl c = some (C, names) ∧ ∀ rho' H' d vs, Ext s rho rho' H H' s' → RSt K rho' H' s' → H' d = some (.xd (names.zip vs)) → VRs K s'.n rho' H' fs vs → W (.ref C) (some d) σ H'
  | .bad => False

def SlR (K : PySem.W.Frag) (n : Nat) (rho : Nat → Addr) (H : Hp) (sl : Sl) (σ : L2.St) : Prop := sl.length = σ.length ∧ ∀ (i : Nat) p, sl[i]? = some (some p) → ∃ v, σ[i]? = some (some v) ∧ VR K n rho H p v

section
variable {K : PySem.W.Frag} {cl : Cls0} {W : WX} {σ : L2.St} {rho rho' : Nat → Addr} {s s' : Sto} {H H' : Hp} {Q : VK} {a : Addr} {sl : Sl}
theorem SlR.mono (h : SlR K s.n rho H sl σ) (x : Ext s rho rho' H H' s') (r : RSt K rho H s) : SlR K s'.n rho' H' sl σ :=
  ⟨h.1, fun i p e => let ⟨v, e1, e2⟩ := h.2 i p e; ⟨v, e1, x.vr r e2⟩⟩
theorem Post.later {r : Res PV} (h : Post K cl W σ rho s H r Q) (x : Ext s rho rho' H H' s') (R : RSt K rho H s) (R' : RSt K rho' H' s') : Post K cl W σ rho' s' H' r Q := by
  cases r with
  | ok p s2 => exact fun rho2 H2 v y r2 vr => h rho2 H2 v (x.trans y R R') r2 vr
  | exc c fs s2 =>
    obtain ⟨C, names, e, h⟩ := h
    exact ⟨C, names, e, fun rho2 H2 d vs y r2 => h rho2 H2 d vs (x.trans y R R') r2⟩
  | bad => exact h
/-- the value stands already -/
theorem Post.same {p : PV} {v : V} (h : Post K cl W σ rho s H (.ok p s) Q) (R : RSt K rho H s) (e : VR K s.n rho H p v) : Q v H := h rho H v .refl R e
/-- a new tuple -/
theorem Post.tup {ps : List PV} {vs : List V} (h : Post K cl W σ rho s H (.ok (.tup ps) s) Q) (R : RSt K rho H s) (e : VRs K s.n rho H ps vs) (hn : H a = none) : Q (.ref a) (upd H a (.tup vs)) :=
  h rho (upd H a (.tup vs)) (.ref a) (.upd hn) (R.upd hn) (by simp only [VR]; exact ⟨a, vs, rfl, .inl (.inl upd_same), vrs_upd hn e⟩)
/-- a new list -/
theorem Post.lst {ps : List PV} {vs : List V} (h : Post K cl W σ rho s H (.ok (.lst s.n) (s.new (.lst ps))) Q) (R : RSt K rho H s) (e : VRs K s.n rho H ps vs) (hn : H a = none) : Q (.ref a) (upd H a (.lst vs)) := by
  obtain ⟨x, r⟩ := new_obj (o := .lst vs) (u := .lst ps) R hn ⟨vs, by rw [rhoNew_at, upd_same], VRs.mono (Nat.le_succ _) (fun i h => rhoNew_lt h) (fun _ _ => sqT_upd hn) _ _ e⟩
  exact h _ _ _ x r (by simp only [VR]; exact ⟨Nat.lt_succ_self _, by rw [rhoNew_at]⟩)

variable {T : Tab} {call : Nat → List PV → Sto → Res PV}
/-- the interpreter's reading of an expression -/
def tI (K : PySem.W.Frag) (cl : Cls0) (W : WX) (T : Tab) (call : Nat → List PV → Sto → Res PV) (c : E) : TE := fun σ H Q =>
  ∃ rho s sl, RSt K rho H s ∧ SlR K s.n rho H sl σ ∧ Post K cl W σ rho s H (ev T call c sl s) Q
/-- one part, then the rest -/
theorem tI_seq {c : E} {f : PV → Sto → Res PV} (R : RSt K rho H s) (S : SlR K s.n rho H sl σ) (h : Post K cl W σ rho s H ((ev T call c sl s).bind f) Q) :
    tI K cl W T call c σ H (fun v H1 => ∃ rho1 s1 p, Ext s rho rho1 H H1 s1 ∧ RSt K rho1 H1 s1 ∧ SlR K s1.n rho1 H1 sl σ ∧ VR K s1.n rho1 H1 p v ∧ Post K cl W σ rho1 s1 H1 (f p s1) Q) := by
  refine ⟨rho, s, sl, R, S, ?_⟩
  cases e : ev T call c sl s with
  | ok p s1 =>
    rw [e] at h
    exact fun rho1 H1 v x r vr => ⟨rho1, s1, p, x, r, S.mono x R, vr, h.later x R r⟩
  | exc d fs s1 => rw [e] at h; exact h
  | bad => rw [e] at h; exact h
/-- an argument list's reading -/
def tIA (K : PySem.W.Frag) (cl : Cls0) (W : WX) (T : Tab) (call : Nat → List PV → Sto → Res PV) (c : E) : TA := fun σ H Q =>
  ∃ rho s sl, RSt K rho H s ∧ SlR K s.n rho H sl σ ∧ match ev T call c sl s with
    | .ok (.tup ps) s' => ∀ rho' H' vs, Ext s rho rho' H H' s' → RSt K rho' H' s' → VRs K s'.n rho' H' ps vs → Q vs H'
    | .ok _ _ => False
    | .exc c fs s' => Post K cl W σ rho s H (.exc c fs s') (fun _ _ => False)
    | .bad => False
theorem tIA_seq {c : E} {f : List PV → Sto → Res PV} (R : RSt K rho H s) (S : SlR K s.n rho H sl σ) (h : Post K cl W σ rho s H ((ev T call c sl s).bind fun x s1 => match x with | .tup vs => f vs s1 | _ => .bad) Q) :
    tIA K cl W T call c σ H (fun vs H1 => ∃ rho1 s1 ps, Ext s rho rho1 H H1 s1 ∧ RSt K rho1 H1 s1 ∧ SlR K s1.n rho1 H1 sl σ ∧ VRs K s1.n rho1 H1 ps vs ∧ Post K cl W σ rho1 s1 H1 (f ps s1) Q) := by
  refine ⟨rho, s, sl, R, S, ?_⟩
  cases e : ev T call c sl s with
  | ok p s1 =>
    rw [e] at h
    cases p with
    | tup ps => exact fun rho1 H1 vs x r vr => ⟨rho1, s1, ps, x, r, S.mono x R, vr, Post.later (s' := s1) h x R r⟩
    | _ => exact h
  | exc d fs s1 => rw [e] at h; exact h
  | bad => rw [e] at h; exact h
end
theorem PE_imp {X : Cx} {e : Expr} {t t' : TE} (h : PE X e t) (i : ∀ σ H Q, t' σ H Q → t σ H Q) : PE X e t' := ⟨fun pins s σ H Q I q => h.run pins s σ H Q I (i σ H Q q)⟩
theorem PT_imp {X : Cx} {e : Expr} {t t' : TT} (h : PT X e t) (i : ∀ σ H Q, t' σ H Q → t σ H Q) : PT X e t' := ⟨fun pins s σ H Q I q => h.run pins s σ H Q I (i σ H Q q)⟩
theorem PA_imp {X : Cx} {e : List Expr} {t t' : TA} (h : PA X e t) (i : ∀ σ H Q, t' σ H Q → t σ H Q) : PA X e t' := ⟨fun pos pins s σ H Q I q => h.run pos pins s σ H Q I (i σ H Q q)⟩
end FI

namespace FI
open PySem PySem.Spec PyProof.Rows L2

section
variable {K : PySem.W.Frag} {n : Nat} {rho : Nat → Addr} {H : Hp}
theorem VRs.len : ∀ {ps : List PV} {vs : List V}, VRs K n rho H ps vs → ps.length = vs.length
  | [], vs, h => by simp only [VRs] at h; rw [h]; rfl
  | p :: ps, vs, h => by
    simp only [VRs] at h
    obtain ⟨v, r, rfl, _, h2⟩ := h
    rw [List.length_cons, List.length_cons, VRs.len h2]
theorem VRs.app : ∀ {ps qs : List PV} {vs us : List V}, VRs K n rho H ps vs → VRs K n rho H qs us → VRs K n rho H (ps ++ qs) (vs ++ us)
  | [], qs, vs, us, h, h' => by simp only [VRs] at h; subst h; exact h'
  | p :: ps, qs, vs, us, h, h' => by
    simp only [VRs] at h
    obtain ⟨v, r, rfl, h1, h2⟩ := h
    simp only [List.cons_append, VRs]
    exact ⟨v, r ++ us, rfl, h1, VRs.app h2 h'⟩
theorem VRs.get : ∀ {ps : List PV} {vs : List V} {i : Nat} {p : PV}, VRs K n rho H ps vs → ps[i]? = some p → ∃ v, vs[i]? = some v ∧ VR K n rho H p v
  | [], vs, i, p, h, e => by simp at e
  | q :: ps, vs, 0, p, h, e => by
    simp only [VRs] at h
    obtain ⟨v, r, rfl, h1, h2⟩ := h
    simp at e
    subst e
    exact ⟨v, rfl, h1⟩
  | q :: ps, vs, i + 1, p, h, e => by
    simp only [VRs] at h
    obtain ⟨v, r, rfl, h1, h2⟩ := h
    obtain ⟨w, e1, e2⟩ := VRs.get (i := i) (p := p) h2 (by simpa using e)
    exact ⟨w, by simpa using e1, e2⟩
theorem VRs.take : ∀ {ps : List PV} {vs : List V} (k : Nat), VRs K n rho H ps vs → VRs K n rho H (ps.take k) (vs.take k)
  | ps, vs, 0, h => by simp [VRs]
  | [], vs, k + 1, h => by simp only [VRs] at h; subst h; simp [VRs]
  | p :: ps, vs, k + 1, h => by
    simp only [VRs] at h
    obtain ⟨v, r, rfl, h1, h2⟩ := h
    simp only [List.take_succ_cons, VRs]
    exact ⟨v, r.take k, rfl, h1, VRs.take k h2⟩
theorem VRs.drop : ∀ {ps : List PV} {vs : List V} (k : Nat), VRs K n rho H ps vs → VRs K n rho H (ps.drop k) (vs.drop k)
  | ps, vs, 0, h => by simpa using h
  | [], vs, k + 1, h => by simp only [VRs] at h; subst h; simp [VRs]
  | p :: ps, vs, k + 1, h => by
    simp only [VRs] at h
    obtain ⟨v, r, rfl, h1, h2⟩ := h
    simpa using VRs.drop k h2
theorem VRs.rep {ps : List PV} {vs : List V} (h : VRs K n rho H ps vs) : ∀ k : Nat, VRs K n rho H (List.replicate k ps).flatten (List.replicate k vs).flatten
  | 0 => by simp [VRs]
  | k + 1 => by
    simp only [List.replicate_succ, List.flatten_cons]
    exact VRs.app h (VRs.rep h k)
theorem VRs.nil_iff {ps : List PV} {vs : List V} (h : VRs K n rho H ps vs) : ps = [] ↔ vs = [] := by
  have := h.len
  constructor <;> intro z <;> subst z
  · exact List.length_eq_zero_iff.mp (by simpa using this.symm)
  · exact List.length_eq_zero_iff.mp (by simpa using this)
end
theorem cap_line {k : Nat} (h : k ≤ cap) : k ≤ sizeLine := Nat.le_trans h (by rw [sizeLine_eq]; decide)

def opOf : Bop → Operator
  | .add => .Add | .sub => .Sub | .mul => .Mult | .fdiv => .FloorDiv | .mod => .Mod | .pow => .Pow
def rBin (K : PySem.W.Frag) : Bop → R2
  | .add => fun x y H Q => rI0 (fun i j => .int (i + j)) x y H Q ∨ (rCatA K x y H Q ∨ rCat x y H Q)
  | .sub => rI0 fun i j => .int (i - j)
  | .mul => fun x y H Q => rI CMulW (fun i j => .int (i * j)) x y H Q ∨ rRepT K x y H Q
  | .fdiv => rI CDivW fun i j => .int (i / j)
  | .mod => rI (fun _ j => 0 < j) fun i j => .int (i % j)
  | .pow => rI CPow fun i j => .int (i ^ j.toNat)
theorem op_bin {X : Cx} (o : Bop) : OpR X (binaryOp (opOf o)) (rBin X.K o) := by
  cases o with
  | add => exact op_add.or (op_catA.or op_cat)
  | sub => exact op_sub
  | mul => exact op_mulW.or op_repT
  | fdiv => exact op_fdivW
  | mod => exact op_mod
  | pow => exact op_pow

section
variable {K : PySem.W.Frag} {cl : Cls0} {W : WX} {σ : L2.St} {rho : Nat → Addr} {s : Sto} {H : Hp} {Q : VK} {p q : PV} {x y : V}
theorem getW_ok {i : Nat} {xs : List PV} (R : RSt K rho H s) (h : getW s i = some xs) : ∃ vs, H (rho i) = some (.lst vs) ∧ VRs K s.n rho H xs vs := by
  unfold getW at h
  split at h
  · rename_i ys e
    cases h
    exact R.ok _ _ e
  · cases h
theorem getL_ok {i : Nat} {xs : List PV} (R : RSt K rho H s) (h : s.getL i = some xs) : ∃ vs, SqL K H (rho i) vs ∧ VRs K s.n rho H xs vs := by
  unfold Sto.getL at h
  split at h
  · rename_i ys e
    cases h
    obtain ⟨vs, e1, e2⟩ := R.ok _ _ e
    exact ⟨vs, .inl (.inl e1), e2⟩
  · rename_i ys e
    cases h
    obtain ⟨vs, e1, e2⟩ := R.ok _ _ e
    rcases e1 with ⟨o, e1⟩ | e1
    · exact ⟨vs, .inl (.inr ⟨o, e1⟩), e2⟩
    · exact ⟨vs, e1 H, e2⟩
  · cases h
theorem bin_ok (o : Bop) (h : Post K cl W σ rho s H (evBin o p q s) Q) (R : RSt K rho H s) (hp : VR K s.n rho H p x) (hq : VR K s.n rho H q y) : rBin K o x y H Q := by
  unfold evBin at h
  split at h
  · simp only [VR] at hp hq
    subst hp; subst hq
    exact .inl ⟨_, _, rfl, rfl, h.same R (by simp only [VR])⟩
  · rename_i xs ys
    simp only [VR] at hp hq
    obtain ⟨a, vs, rfl, ta, ra⟩ := hp
    obtain ⟨b, us, rfl, tb, rb⟩ := hq
    split at h
    · rename_i hl
      refine .inr (.inl ⟨a, b, vs, us, rfl, rfl, ta, tb, ?_, fun z => ?_, fun z z2 => ?_, fun z z2 c hc => ?_⟩)
      · rw [← ra.len, ← rb.len]; exact cap_line hl
      · have e : xs = [] := ra.nil_iff.mpr z
        subst e
        exact h.same R (by simp only [VR]; exact ⟨b, us, rfl, tb, rb⟩)
      · have e : ys = [] := rb.nil_iff.mpr z2
        subst e
        exact h.same R (by simp only [VR, List.append_nil]; exact ⟨a, vs, rfl, ta, ra⟩)
      · exact h.tup R (ra.app rb) hc
    · exact h.elim
  · rename_i i j
    simp only [VR] at hp hq
    obtain ⟨_, rfl⟩ := hp
    obtain ⟨_, rfl⟩ := hq
    split at h
    · rename_i xs ys e1 e2
      obtain ⟨vs, h1, r1⟩ := getW_ok R e1
      obtain ⟨us, h2, r2⟩ := getW_ok R e2
      split at h
      · rename_i hl
        exact .inr (.inr ⟨_, _, vs, us, rfl, rfl, h1, h2, by rw [← r1.len, ← r2.len]; exact cap_line hl, fun c hc => h.lst R (r1.app r2) hc⟩)
      · exact h.elim
    · exact h.elim
  · simp only [VR] at hp hq
    subst hp; subst hq
    exact ⟨_, _, rfl, rfl, h.same R (by simp only [VR])⟩
  · simp only [VR] at hp hq
    subst hp; subst hq
    split at h
    · rename_i hl
      exact .inl ⟨_, _, rfl, rfl, hl, h.same R (by simp only [VR])⟩
    · exact h.elim
  · rename_i xs k
    simp only [VR] at hp hq
    obtain ⟨a, vs, rfl, ta, ra⟩ := hp
    subst hq
    split at h
    · rename_i hl
      simp only [Bool.and_eq_true, decide_eq_true_eq, Bool.not_eq_true'] at hl
      obtain ⟨⟨⟨h1, h2⟩, h3⟩, h4⟩ := hl
      refine .inr ⟨a, k, vs, rfl, rfl, ta, fun z => ?_, h1, h2, by rw [← ra.len]; exact h3, fun c hc => h.tup R (ra.rep k.toNat) hc⟩
      rw [ra.nil_iff.mpr z] at h4
      cases h4
    · exact h.elim
  · simp only [VR] at hp hq
    subst hp; subst hq
    split at h
    · rename_i hl
      simp only [Bool.and_eq_true, decide_eq_true_eq] at hl
      exact ⟨_, _, rfl, rfl, hl, h.same R (by simp only [VR])⟩
    · exact h.elim
  · simp only [VR] at hp hq
    subst hp; subst hq
    split at h
    · rename_i hl
      exact ⟨_, _, rfl, rfl, hl, h.same R (by simp only [VR])⟩
    · exact h.elim
  · simp only [VR] at hp hq
    subst hp; subst hq
    split at h
    · rename_i hl
      simp only [Bool.and_eq_true, decide_eq_true_eq] at hl
      exact ⟨_, _, rfl, rfl, ⟨hl.1.1, by omega, hl.2⟩, h.same R (by simp only [VR])⟩
    · exact h.elim
  · exact h.elim
end
end FI

namespace FI
open PySem PySem.Spec PyProof.Rows L2

section
variable {K : PySem.W.Frag} {cl : Cls0} {W : WX} {σ : L2.St} {rho : Nat → Addr} {s : Sto} {H : Hp} {Q : VK} {p q : PV} {x y : V}

theorem dpAll_of {f : PV → Option PyData} (hf : ∀ p v d, f p = some d → VR K s.n rho H p v → Dp K H v d) : ∀ (ps : List PV) (vs : List V) (ds : List PyData), mapO f ps = some ds → VRs K s.n rho H ps vs → DpAll K H vs ds
  | [], vs, ds, e, h => by
    simp only [mapO] at e
    simp only [VRs] at h
    cases e; subst h
    exact .nil
  | p :: ps, vs, ds, e, h => by
    simp only [mapO] at e
    simp only [VRs] at h
    obtain ⟨v, r, rfl, h1, h2⟩ := h
    split at e
    · cases e
    · rename_i d hd
      split at e
      · cases e
      · rename_i ds' hds
        cases e
        exact .cons (hf p v d hd h1) (dpAll_of hf ps r ds' hds h2)
theorem toD_ok (R : RSt K rho H s) : ∀ (k : Nat) (p : PV) (v : V) (d : PyData), toD s k p = some d → VR K s.n rho H p v → Dp K H v d
  | 0, p, v, d, e, h => by simp [toD] at e
  | k + 1, p, v, d, e, h => by
    cases p with
    | non => simp only [toD] at e; simp only [VR] at h; cases e; subst h; exact .non
    | bl b => simp only [toD] at e; simp only [VR] at h; cases e; subst h; exact .bl b
    | int b => simp only [toD] at e; simp only [VR] at h; cases e; subst h; exact .int b
    | str b => simp only [toD] at e; simp only [VR] at h; cases e; subst h; exact .str b
    | tup xs =>
      simp only [toD] at e
      simp only [VR] at h
      obtain ⟨a, vs, rfl, t, r⟩ := h
      split at e
      · rename_i ds hds
        cases e
        exact .tup t (dpAll_of (toD_ok R k) xs vs ds hds r)
      · cases e
    | lst i =>
      simp only [toD] at e
      simp only [VR] at h
      obtain ⟨_, rfl⟩ := h
      split at e
      · rename_i xs hxs
        obtain ⟨vs, t, r⟩ := getL_ok R hxs
        split at e
        · rename_i ds hds
          cases e
          exact .lst t (dpAll_of (toD_ok R k) xs vs ds hds r)
        · cases e
      · cases e
    | dct i => simp [toD] at e
theorem eqP_ok {b : Bool} (R : RSt K rho H s) (e : eqP s p q = some b) (hp : VR K s.n rho H p x) (hq : VR K s.n rho H q y) : ∃ d d', Dp K H x d ∧ Dp K H y d' ∧ SeqAt.shaped d = true ∧ SeqAt.shaped d' = true ∧ b = PyData.eqv d d' := by
  unfold eqP at e
  split at e
  · rename_i d d' h1 h2
    split at e
    · rename_i hs
      simp only [Bool.and_eq_true] at hs
      cases e
      exact ⟨d, d', toD_ok R _ _ _ _ h1 hp, toD_ok R _ _ _ _ h2 hq, hs.1, hs.2, rfl⟩
    · cases e
  · cases e

def copOf : Cop → CmpOp
  | .eq => .Eq | .ne => .NotEq | .lt => .Lt | .le => .LtE | .gt => .Gt | .ge => .GtE | .isN => .Is | .notN => .IsNot | .inn => .In | .notin => .NotIn | .isB => .Is | .notB => .IsNot
def rCmp (K : PySem.W.Frag) : Cop → R2
  | .eq => rEqD K
  | .ne => rNeD K
  | .lt => rI0 fun i j => .bl (decide (i < j))
  | .le => rI0 fun i j => .bl (decide (i ≤ j))
  | .gt => rI0 fun i j => .bl (decide (j < i))
  | .ge => rI0 fun i j => .bl (decide (j ≤ i))
  | .isN => fun x y H Q => y = .non ∧ Q (.bl (decide (x = .non))) H
  | .notN => fun x y H Q => y = .non ∧ Q (.bl (!decide (x = .non))) H
  | .inn => fun x y H Q => rInD K x y H Q ∨ rIn K false x y H Q
  | .notin => fun x y H Q => rNotInD K x y H Q ∨ rIn K true x y H Q
  | .isB => rIsB
  | .notB => rNotB
theorem OpR_false {X : Cx} {f : Value → Value → Sem Value} : OpR X f (fun _ _ _ _ => False) := fun _ _ _ _ _ _ _ _ _ _ _ _ h => h.elim
theorem op_cmp {X : Cx} {k : Nat} (hr : Room k X.A) (o : Cop) : OpR X (compareOp (copOf o)) (rCmp X.K o) := by
  cases o with
  | eq => exact op_eqD hr.units
  | ne => exact op_neD hr.units
  | lt => exact op_lt
  | le => exact op_le
  | gt => exact op_gt
  | ge => exact op_ge
  | isN => exact op_isN
  | notN => exact op_notN
  | inn => exact (op_inD (by have := hr.un; omega)).or op_in_seq
  | notin => exact (op_notInD (by have := hr.un; omega)).or op_notIn_seq
  | isB => exact op_isBl
  | notB => exact op_notBl
theorem vr_non (hp : VR K s.n rho H p x) : isNonP p = decide (x = .non) := by
  cases p with
  | non => simp only [VR] at hp; subst hp; rfl
  | bl b => simp only [VR] at hp; subst hp; rfl
  | int b => simp only [VR] at hp; subst hp; rfl
  | str b => simp only [VR] at hp; subst hp; rfl
  | tup b => simp only [VR] at hp; obtain ⟨a, _, rfl, _⟩ := hp; rfl
  | lst b => simp only [VR] at hp; obtain ⟨_, rfl⟩ := hp; rfl
  | dct b => simp only [VR] at hp; obtain ⟨_, rfl⟩ := hp; rfl
theorem cmp_int {g : Int → Int → Bool} (h : Post K cl W σ rho s H (match p, q with | .int i, .int j => .ok (.bl (g i j)) s | _, _ => .bad) Q) (R : RSt K rho H s) (hp : VR K s.n rho H p x) (hq : VR K s.n rho H q y) : rI0 (fun i j => .bl (g i j)) x y H Q := by
  split at h
  · simp only [VR] at hp hq
    subst hp; subst hq
    exact ⟨_, _, rfl, rfl, h.same R (by simp only [VR])⟩
  · exact h.elim
theorem flatP_ok {v : V} (e : flatP p = some v) (hp : VR K s.n rho H p x) : x = v ∧ flatV v = true := by
  cases p with
  | non => simp only [flatP] at e; cases e; simp only [VR] at hp; exact ⟨hp, rfl⟩
  | bl b => simp only [flatP] at e; cases e; simp only [VR] at hp; exact ⟨hp, rfl⟩
  | int b => simp only [flatP] at e; cases e; simp only [VR] at hp; exact ⟨hp, rfl⟩
  | str b => simp only [flatP] at e; cases e; simp only [VR] at hp; exact ⟨hp, rfl⟩
  | _ => simp [flatP] at e
theorem flatPs_ok : ∀ (ps : List PV) (vs us : List V), mapO flatP ps = some vs → VRs K s.n rho H ps us → us = vs ∧ vs.all flatV = true
  | [], vs, us, e, h => by
    simp only [mapO] at e
    simp only [VRs] at h
    cases e; exact ⟨h, rfl⟩
  | p :: ps, vs, us, e, h => by
    simp only [mapO] at e
    simp only [VRs] at h
    obtain ⟨v, r, rfl, h1, h2⟩ := h
    split at e
    · cases e
    · rename_i d hd
      split at e
      · cases e
      · rename_i ds' hds
        cases e
        obtain ⟨e1, f1⟩ := flatP_ok hd h1
        obtain ⟨e2, f2⟩ := flatPs_ok ps ds' r hds h2
        subst e1; subst e2
        exact ⟨rfl, by rw [List.all_cons, f1, f2]; rfl⟩
theorem inP_ok {b : Bool} (R : RSt K rho H s) (e : inP s p q = some b) (hp : VR K s.n rho H p x) (hq : VR K s.n rho H q y) :
    (∃ d ds, Dp K H x d ∧ Dp K H y (.list ds) ∧ SeqAt.shaped d = true ∧ SeqAt.shaped (.list ds) = true ∧ b = ds.any fun z => PyData.eqv z d) ∨
    (∃ a xs, y = .ref a ∧ (SqL K H a xs ∨ SqT K H a xs) ∧ flatV x = true ∧ xs.all flatV = true ∧ b = inV x xs) := by
  unfold inP at e
  split at e
  · split at e
    · rename_i d ds h1 h2
      split at e
      · rename_i hs
        simp only [Bool.and_eq_true] at hs
        cases e
        exact .inl ⟨d, ds, toD_ok R _ _ _ _ h1 hp, toD_ok R _ _ _ _ h2 hq, hs.1, hs.2, rfl⟩
      · cases e
    · cases e
  · rename_i xs
    split at e
    · rename_i v vs h1 h2
      cases e
      obtain ⟨rfl, f1⟩ := flatP_ok h1 hp
      simp only [VR] at hq
      obtain ⟨a, us, rfl, t, r⟩ := hq
      obtain ⟨rfl, f2⟩ := flatPs_ok xs vs us h2 r
      exact .inr ⟨a, _, rfl, .inr t, f1, f2, rfl⟩
    · cases e
  · cases e
theorem cmp_ok (o : Cop) (h : Post K cl W σ rho s H (evCmp o p q s) Q) (R : RSt K rho H s) (hp : VR K s.n rho H p x) (hq : VR K s.n rho H q y) : rCmp K o x y H Q := by
  cases o with
  | eq =>
    simp only [evCmp] at h
    split at h
    · rename_i b e
      obtain ⟨d, d', h1, h2, h3, h4, rfl⟩ := eqP_ok R e hp hq
      exact ⟨d, d', h1, h2, h3, h4, h.same R (by simp only [VR])⟩
    · exact h.elim
  | ne =>
    simp only [evCmp] at h
    split at h
    · rename_i b e
      obtain ⟨d, d', h1, h2, h3, h4, rfl⟩ := eqP_ok R e hp hq
      exact ⟨d, d', h1, h2, h3, h4, h.same R (by simp only [VR])⟩
    · exact h.elim
  | lt => exact cmp_int (g := fun i j => decide (i < j)) h R hp hq
  | le => exact cmp_int (g := fun i j => decide (i ≤ j)) h R hp hq
  | gt => exact cmp_int (g := fun i j => decide (j < i)) h R hp hq
  | ge => exact cmp_int (g := fun i j => decide (j ≤ i)) h R hp hq
  | isN =>
    simp only [evCmp] at h
    split at h
    · simp only [VR] at hq
      subst hq
      refine ⟨rfl, ?_⟩
      rw [← vr_non hp]
      exact h.same R (by simp only [VR])
    · exact h.elim
  | notN =>
    simp only [evCmp] at h
    split at h
    · simp only [VR] at hq
      subst hq
      refine ⟨rfl, ?_⟩
      rw [← vr_non hp]
      exact h.same R (by simp only [VR])
    · exact h.elim
  | inn =>
    simp only [evCmp] at h
    split at h
    · rename_i b e
      rcases inP_ok R e hp hq with ⟨d, ds, h1, h2, h3, h4, rfl⟩ | ⟨a, xs, rfl, h1, h2, h3, rfl⟩
      · exact .inl ⟨d, ds, h1, h2, h3, h4, h.same R (by simp only [VR])⟩
      · exact .inr ⟨a, xs, rfl, h1, h2, h3, h.same R (by simp only [VR]; rfl)⟩
    · exact h.elim
  | notin =>
    simp only [evCmp] at h
    split at h
    · rename_i b e
      rcases inP_ok R e hp hq with ⟨d, ds, h1, h2, h3, h4, rfl⟩ | ⟨a, xs, rfl, h1, h2, h3, rfl⟩
      · exact .inl ⟨d, ds, h1, h2, h3, h4, h.same R (by simp only [VR])⟩
      · exact .inr ⟨a, xs, rfl, h1, h2, h3, h.same R (by simp only [VR]; rfl)⟩
    · exact h.elim
  | isB =>
    simp only [evCmp] at h
    split at h
    · simp only [VR] at hp hq
      subst hp; subst hq
      exact ⟨_, _, rfl, rfl, h.same R (by simp only [VR])⟩
    · exact h.elim
  | notB =>
    simp only [evCmp] at h
    split at h
    · simp only [VR] at hp hq
      subst hp; subst hq
      exact ⟨_, _, rfl, rfl, h.same R (by simp only [VR])⟩
    · exact h.elim

theorem seqOf_ok {xs : List PV} (R : RSt K rho H s) (e : seqOf s p = some xs) (hp : VR K s.n rho H p x) : ∃ a vs, x = .ref a ∧ (SqL K H a vs ∨ SqT K H a vs) ∧ VRs K s.n rho H xs vs := by
  unfold seqOf at e
  split at e
  · cases e
    simp only [VR] at hp
    obtain ⟨a, vs, rfl, t, r⟩ := hp
    exact ⟨a, vs, rfl, .inr t, r⟩
  · rename_i i
    simp only [VR] at hp
    obtain ⟨_, rfl⟩ := hp
    obtain ⟨vs, t, r⟩ := getL_ok R e
    exact ⟨_, vs, rfl, .inl t, r⟩
  · cases e
theorem atI_vr {xs : List PV} {vs : List V} {i : Int} (r : VRs K s.n rho H xs vs) (e : atI xs i = some p) : ∃ v, atI vs i = some v ∧ VR K s.n rho H p v := by
  unfold atI at e ⊢
  rw [← r.len]
  cases h : ixN xs.length i with
  | none => rw [h] at e; cases e
  | some j =>
    rw [h] at e
    exact r.get e
theorem idx_ok (h : Post K cl W σ rho s H (evIdx p q s) Q) (R : RSt K rho H s) (hp : VR K s.n rho H p x) (hq : VR K s.n rho H q y) : rIx K x y H Q := by
  unfold evIdx at h
  split at h
  · rename_i i
    simp only [VR] at hq
    subst hq
    split at h
    · rename_i xs e
      obtain ⟨a, vs, rfl, t, r⟩ := seqOf_ok R e hp
      split at h
      · rename_i v ev
        obtain ⟨w, e1, e2⟩ := atI_vr r ev
        rcases t with t | t
        · exact .inl ⟨a, vs, i, w, rfl, rfl, t, e1, h.same R e2⟩
        · exact .inr (.inl ⟨a, vs, i, w, rfl, rfl, t, e1, h.same R e2⟩)
      · exact h.elim
    · exact h.elim
  · exact h.elim
theorem cut_vr {xs : List PV} {vs : List V} {lo hi : Option Int} (r : VRs K s.n rho H xs vs) : VRs K s.n rho H (cutP xs lo hi) (cutV vs lo hi) := by
  unfold cutP cutV
  rw [r.len]
  exact (r.drop _).take _
def rSlc (K : PySem.W.Frag) : V → Option Int → Option Int → Hp → VK → Prop := fun x lo hi H Q => rSlL K x lo hi H Q ∨ rSlA K x lo hi H Q
theorem cut_all {α : Type} {xs : List α} {lo hi : Option Int} (h : HT.sIx xs.length 0 lo = 0 ∧ HT.sIx xs.length xs.length hi = xs.length) : (xs.drop (HT.sIx xs.length 0 lo)).take (HT.sIx xs.length xs.length hi - HT.sIx xs.length 0 lo) = xs := by
  rw [h.1, h.2, List.drop_zero, Nat.sub_zero, List.take_length]
theorem slice_ok {lo hi : Option Int} (h : Post K cl W σ rho s H (evSlice p lo hi s) Q) (R : RSt K rho H s) (hp : VR K s.n rho H p x) : rSlc K x lo hi H Q := by
  unfold evSlice at h
  split at h
  · rename_i xs
    simp only [VR] at hp
    obtain ⟨a, vs, rfl, t, r⟩ := hp
    refine .inr ⟨a, vs, rfl, t, fun z => ?_, fun z c hc => h.tup R (cut_vr r) hc⟩
    have e : cutP xs lo hi = xs := by
      unfold cutP
      rw [← r.len] at z
      exact cut_all z
    rw [e] at h
    exact h.same R (by simp only [VR]; exact ⟨a, vs, rfl, t, r⟩)
  · rename_i i
    simp only [VR] at hp
    obtain ⟨_, rfl⟩ := hp
    split at h
    · rename_i xs e
      obtain ⟨vs, t, r⟩ := getL_ok R e
      exact .inl ⟨_, vs, rfl, t, fun c hc => h.lst R (cut_vr r) hc⟩
    · exact h.elim
  · exact h.elim

def tyName : Ty → String
  | .int => "int" | .bool => "bool" | .tuple => "tuple" | .str => "str" | .list => "list"
theorem tyX_list {a : Addr} {vs : List V} (h : SqL K H a vs) : TyX K H (.ref a) (.type "list") := by
  rcases h with (h | ⟨o, h⟩) | ⟨o, its, n, hk, hc, _⟩
  · exact .base (.lst h)
  · exact .base (.frz h)
  · exact .kList hk hc
theorem tyX_tup {a : Addr} {vs : List V} (h : SqT K H a vs) : TyX K H (.ref a) (.type "tuple") := by
  rcases h with (h | ⟨o, h⟩) | ⟨o, its, n, hk, hc, _⟩
  · exact .base (.tup h)
  · exact .fTuple h
  · exact .kTuple hk hc
theorem isi_ok {t : Ty} {b : Bool} (R : RSt K rho H s) (e : isTyS s t p = some b) (hp : VR K s.n rho H p x) : ∃ u : Value, TyX K H x u ∧ PySem.W.kitOne K u (.type (tyName t)) = some b := by
  cases p with
  | non =>
    simp only [VR] at hp; subst hp
    simp only [isTyS] at e
    refine ⟨_, .base .non, kit_ty ?_⟩
    cases t <;> (cases e; first | (show kitB _ _ = some true; decide +kernel) | (show kitB _ _ = some false; decide +kernel))
  | bl k =>
    simp only [VR] at hp; subst hp
    simp only [isTyS] at e
    refine ⟨_, .base (.bl k), kit_ty ?_⟩
    cases t <;> (cases e; first | (show kitB _ _ = some true; decide +kernel) | (show kitB _ _ = some false; decide +kernel))
  | int i =>
    simp only [VR] at hp; subst hp
    simp only [isTyS] at e
    refine ⟨_, .base (.int i), kit_ty ?_⟩
    cases t <;> (cases e; first | (show kitB _ _ = some true; decide +kernel) | (show kitB _ _ = some false; decide +kernel))
  | str i =>
    simp only [VR] at hp; subst hp
    simp only [isTyS] at e
    refine ⟨_, .base (.str i), kit_ty ?_⟩
    cases t <;> (cases e; first | (show kitB _ _ = some true; decide +kernel) | (show kitB _ _ = some false; decide +kernel))
  | tup xs =>
    simp only [VR] at hp
    obtain ⟨a, vs, rfl, tt, r⟩ := hp
    simp only [isTyS] at e
    refine ⟨_, tyX_tup tt, kit_ty ?_⟩
    cases t <;> (cases e; first | (show kitB _ _ = some true; decide +kernel) | (show kitB _ _ = some false; decide +kernel))
  | lst i =>
    simp only [VR] at hp
    obtain ⟨_, rfl⟩ := hp
    simp only [isTyS] at e
    split at e
    · rename_i xs g
      obtain ⟨vs, tt, r⟩ := getL_ok R g
      refine ⟨_, tyX_list tt, kit_ty ?_⟩
      cases t <;> (cases e; first | (show kitB _ _ = some true; decide +kernel) | (show kitB _ _ = some false; decide +kernel))
    · cases e
  | dct i => simp [isTyS] at e
end
end FI

namespace FI
open PySem PySem.Spec PyProof.Rows L2

/-! ### built-in functions -/
def bltName : Blt → Str
  | .len => "len" | .abs => "abs" | .int => "int" | .tuple => "tuple" | .list => "list" | .all => "all" | .any => "any" | .min2 => "min" | .maxL => "max"
def bltVal : Blt → Value
  | .len => .builtin "len" | .abs => .builtin "abs" | .int => .type "int" | .tuple => .type "tuple" | .list => .type "list" | .all => .builtin "all" | .any => .builtin "any" | .min2 => .builtin "min" | .maxL => .builtin "max"
def rBlt (K : PySem.W.Frag) : Blt → List V → Hp → VK → Prop
  | .len => fun xs H Q => ∃ p ys, xs = [.ref p] ∧ (SqL K H p ys ∨ SqT K H p ys) ∧ Q (.int ys.length) H
  | .abs => fun xs H Q => ∃ i, xs = [.int i] ∧ Q (.int (if i < 0 then -i else i)) H
  | .int => fun xs H Q => (∃ i, xs = [.int i] ∧ Q (.int i) H) ∨ ∃ k, xs = [.bl k] ∧ Q (.int (if k then 1 else 0)) H
  | .tuple => fun xs H Q => ∃ x, xs = [x] ∧ kTup K x H Q
  | .list => fun xs H Q => ∃ p ys, xs = [.ref p] ∧ (SqL K H p ys ∨ SqT K H p ys) ∧ ∀ l, H l = none → Q (.ref l) (upd H l (.lst ys))
  | .all => rAll K
  | .any => rAny K
  | .min2 => fun xs H Q => ∃ i j, xs = [.int i, .int j] ∧ Q (.int (if j < i then j else i)) H
  | .maxL => rMax K
theorem call_blt {X : Cx} (hc : X.calm = true) (b : Blt) : CallR X (bltVal b) (rBlt X.K b) := by
  cases b with
  | len => exact call_len_seq
  | abs => exact call_abs
  | int => exact call_int1
  | tuple =>
    intro pins s σ H xs us Q I r h
    obtain ⟨x, rfl, h⟩ := h
    obtain ⟨u, rfl, ru⟩ := vals1 r
    exact rl_tuple pins s σ H x u Q I ru h
  | list => exact call_list_of
  | all => exact cr_all hc
  | any => exact cr_any hc
  | min2 => exact call_min2 hc
  | maxL => exact cr_max hc

section
variable {K : PySem.W.Frag} {cl : Cls0} {W : WX} {σ : L2.St} {rho : Nat → Addr} {s : Sto} {H : Hp} {Q : VK}
theorem bools_ok : ∀ {ps : List PV} {bs : List Bool} {vs : List V}, bools ps = some bs → VRs K s.n rho H ps vs → vs = bs.map V.bl
  | [], bs, vs, e, h => by
    simp only [bools] at e
    simp only [VRs] at h
    cases e; exact h
  | p :: ps, bs, vs, e, h => by
    cases p <;> simp only [bools] at e <;> try cases e
    rename_i b
    simp only [VRs, VR] at h
    obtain ⟨v, r, rfl, rfl, h2⟩ := h
    split at e
    · rename_i cs hc
      cases e
      rw [bools_ok hc h2]
      rfl
    · cases e
theorem one_vr {p : PV} {vs : List V} (h : VRs K s.n rho H [p] vs) : ∃ v, vs = [v] ∧ VR K s.n rho H p v := by
  simp only [VRs] at h
  obtain ⟨v, r, rfl, h1, rfl⟩ := h
  exact ⟨v, rfl, h1⟩
theorem ints_ok : ∀ {ps : List PV} {bs : List Int} {vs : List V}, intsP ps = some bs → VRs K s.n rho H ps vs → vs = bs.map V.int
  | [], bs, vs, e, h => by
    simp only [intsP] at e
    simp only [VRs] at h
    cases e; exact h
  | p :: ps, bs, vs, e, h => by
    cases p <;> simp only [intsP] at e <;> try cases e
    rename_i b
    simp only [VRs, VR] at h
    obtain ⟨v, r, rfl, rfl, h2⟩ := h
    split at e
    · rename_i cs hc
      cases e
      rw [ints_ok hc h2]
      rfl
    · cases e
theorem maxI_ge : ∀ (ns : List Int) (n : Int), n ≤ maxI n ns ∧ (∀ y ∈ ns, y ≤ maxI n ns) ∧ (maxI n ns = n ∨ maxI n ns ∈ ns)
  | [], n => ⟨Int.le_refl _, fun _ h => (nomatch h), .inl rfl⟩
  | m :: r, n => by
    simp only [maxI]
    obtain ⟨h1, h2, h3⟩ := maxI_ge r (if n < m then m else n)
    by_cases e : n < m
    · rw [if_pos e] at h1 h2 h3 ⊢
      refine ⟨by omega, fun y hy => ?_, .inr ?_⟩
      · rcases List.mem_cons.mp hy with z | z
        · subst z; exact h1
        · exact h2 y z
      · rcases h3 with z | z
        · rw [z]; exact List.mem_cons_self
        · exact List.mem_cons_of_mem _ z
    · rw [if_neg e] at h1 h2 h3 ⊢
      refine ⟨h1, fun y hy => ?_, ?_⟩
      · rcases List.mem_cons.mp hy with z | z
        · subst z; omega
        · exact h2 y z
      · rcases h3 with z | z
        · exact .inl z
        · exact .inr (List.mem_cons_of_mem _ z)
theorem max_one {n m : Int} {ns : List Int} (h1 : m ∈ n :: ns) (h2 : ∀ y, y ∈ n :: ns → y ≤ m) : m = maxI n ns := by
  obtain ⟨g1, g2, g3⟩ := maxI_ge ns n
  have a : maxI n ns ≤ m := by
    rcases g3 with z | z
    · rw [z]; exact h2 n List.mem_cons_self
    · exact h2 _ (List.mem_cons_of_mem _ z)
  have b : m ≤ maxI n ns := by
    rcases List.mem_cons.mp h1 with z | z
    · rw [z]; exact g1
    · exact g2 _ z
  omega
theorem blt_ok (b : Blt) {ps : List PV} {vs : List V} (h : Post K cl W σ rho s H (evBlt b ps s) Q) (R : RSt K rho H s) (hp : VRs K s.n rho H ps vs) : rBlt K b vs H Q := by
  unfold evBlt at h
  split at h
  · obtain ⟨v, rfl, hv⟩ := one_vr hp
    split at h
    · rename_i xs e
      obtain ⟨a, us, rfl, t, r⟩ := seqOf_ok R e hv
      refine ⟨a, us, rfl, t, ?_⟩
      rw [← r.len]
      exact h.same R (by simp only [VR])
    · exact h.elim
  · obtain ⟨v, rfl, hv⟩ := one_vr hp
    simp only [VR] at hv; subst hv
    exact ⟨_, rfl, h.same R (by simp only [VR])⟩
  · obtain ⟨v, rfl, hv⟩ := one_vr hp
    simp only [VR] at hv; subst hv
    exact .inl ⟨_, rfl, h.same R (by simp only [VR])⟩
  · obtain ⟨v, rfl, hv⟩ := one_vr hp
    have hv' := hv
    simp only [VR] at hv
    obtain ⟨a, us, rfl, t, r⟩ := hv
    exact ⟨_, rfl, .inr ⟨a, us, rfl, t, h.same R hv'⟩⟩
  · obtain ⟨v, rfl, hv⟩ := one_vr hp
    simp only [VR] at hv
    obtain ⟨_, rfl⟩ := hv
    split at h
    · rename_i xs e
      obtain ⟨us, t, r⟩ := getL_ok R e
      exact ⟨_, rfl, .inl ⟨_, us, rfl, t, fun c hc => h.tup R r hc⟩⟩
    · exact h.elim
  · obtain ⟨v, rfl, hv⟩ := one_vr hp
    split at h
    · rename_i xs e
      obtain ⟨a, us, rfl, t, r⟩ := seqOf_ok R e hv
      exact ⟨a, us, rfl, t, fun c hc => h.lst R r hc⟩
    · exact h.elim
  · obtain ⟨v, rfl, hv⟩ := one_vr hp
    simp only [VR] at hv
    obtain ⟨_, rfl⟩ := hv
    split at h
    · rename_i xs e
      obtain ⟨us, t, r⟩ := getL_ok R e
      split at h
      · rename_i bs hb
        have e2 := bools_ok hb r
        subst e2
        exact ⟨_, bs, rfl, t, h.same R (by simp only [VR])⟩
      · exact h.elim
    · exact h.elim
  · obtain ⟨v, rfl, hv⟩ := one_vr hp
    simp only [VR] at hv
    obtain ⟨_, rfl⟩ := hv
    split at h
    · rename_i xs e
      obtain ⟨us, t, r⟩ := getL_ok R e
      split at h
      · rename_i bs hb
        have e2 := bools_ok hb r
        subst e2
        exact ⟨_, bs, rfl, t, h.same R (by simp only [VR])⟩
      · exact h.elim
    · exact h.elim
  · simp only [VRs, VR] at hp
    obtain ⟨v, r, rfl, rfl, w, r2, rfl, rfl, rfl⟩ := hp
    exact ⟨_, _, rfl, h.same R (by simp only [VR])⟩
  · obtain ⟨v, rfl, hv⟩ := one_vr hp
    simp only [VR] at hv
    obtain ⟨_, rfl⟩ := hv
    split at h
    · rename_i xs e
      obtain ⟨us, t, r⟩ := getL_ok R e
      split at h
      · rename_i n ns hb
        have e2 := ints_ok hb r
        subst e2
        refine ⟨_, n :: ns, rfl, t, Nat.zero_lt_succ _, fun m h1 h2 => ?_⟩
        rw [max_one h1 h2]
        exact h.same R (by simp only [VR])
      · exact h.elim
    · exact h.elim
  · exact h.elim
end

/-! ### what the text must be -/
def visB (sc : Scope) (x : Str) : Bool := match sc.names.lookup x with | some .local => true | some .cell => true | some .free => true | _ => false
def locB (sc : Scope) (x : Str) : Bool := match sc.names.lookup x with | some .local => true | _ => false
def glB (sc : Scope) (x : Str) : Bool := (match sc.names.lookup x with | some .globalImplicit => true | _ => false) && !(x == ("__debug__" : Str)) && !(x == ("__classdict__" : Str))
theorem visB_ok {sc : Scope} {x : Str} (h : visB sc x = true) : Vis sc x := by
  unfold visB at h
  split at h <;> rename_i e
  · exact .inl e
  · exact .inr (.inl e)
  · exact .inr (.inr e)
  · cases h
def nostar : Expr → Bool
  | .Starred .. => false
  | _ => true
theorem nostar_ok {e : Expr} {es : List Expr} {env : Env} (h : nostar e = true) : starEach (e :: es) env = (false, eval e env) :: starEach es env := by
  cases e <;> first | rfl | cases h
theorem nostar_all {pos : Pos} {env : Env} : ∀ {es : List Expr}, es.all nostar = true → (backTo pos (starEach es env)).any (·.1) = false
  | [], _ => rfl
  | e :: es, h => by
    simp only [List.all_cons, Bool.and_eq_true] at h
    rw [nostar_ok h.1]
    have := nostar_all (pos := pos) (env := env) h.2
    unfold backTo at this ⊢
    rw [List.map_cons, List.any_cons, this]
    rfl
def plainIx : Expr → Bool
  | .Slice .. => false
  | _ => true
theorem plainIx_ok {e : Expr} (h : plainIx e = true) : PlainIx e := by
  intro o i
  cases e <;> first | rfl | cases h
end FI

namespace FI
open PySem PySem.Spec PyProof.Rows L2

/-! ### taking syntax apart -/
def asInt : Expr → Option (Int × Nat × Pos) | .Constant (.int j) k p => some (j, k, p) | _ => none
def asBl : Expr → Option (Bool × Nat × Pos) | .Constant (.bool j) k p => some (j, k, p) | _ => none
def asNon : Expr → Option (Nat × Pos) | .Constant .none k p => some (k, p) | _ => none
def asStr : Expr → Option (Str × Nat × Pos) | .Constant (.str j) k p => some (j, k, p) | _ => none
def asName : Expr → Option (Str × Pos) | .Name x p => some (x, p) | _ => none
def asBin : Expr → Option (Expr × Operator × Expr × Pos) | .BinOp a o b p => some (a, o, b, p) | _ => none
def asCmp : Expr → Option (Expr × CmpOp × Expr × Pos) | .Compare a [o] [b] p => some (a, o, b, p) | _ => none
def asCmp2 : Expr → Option (Expr × CmpOp × CmpOp × Expr × Expr × Pos) | .Compare a [o, q] [b, c] p => some (a, o, q, b, c, p) | _ => none
def asUn : Expr → Option (UnaryOp × Expr × Pos) | .UnaryOp o a p => some (o, a, p) | _ => none
def asBo1 : Expr → Option (BoolOp × Expr × Pos) | .BoolOp o [a] p => some (o, a, p) | _ => none
def asBo2 : Expr → Option (BoolOp × Expr × Expr × List Expr × Pos) | .BoolOp o (a :: b :: r) p => some (o, a, b, r, p) | _ => none
def asIf : Expr → Option (Expr × Expr × Expr × Pos) | .IfExp a b c p => some (a, b, c, p) | _ => none
def asSub : Expr → Option (Expr × Expr × Pos) | .Subscript a b p => some (a, b, p) | _ => none
def asSl : Expr → Option (Option Expr × Option Expr × Pos) | .Slice a b none p => some (a, b, p) | _ => none
def asTup : Expr → Option (List Expr × Nat × Pos) | .Tuple a k p => some (a, k, p) | _ => none
def asLst : Expr → Option (List Expr × Pos) | .List a p => some (a, p) | _ => none
def asCall : Expr → Option (Str × Pos × Expr × List Expr × Pos) | .Call (.Name x p) (a :: r) [] q => some (x, p, a, r, q) | _ => none
theorem asInt_ok {e : Expr} {r} (h : asInt e = some r) : e = .Constant (.int r.1) r.2.1 r.2.2 := by unfold asInt at h; split at h <;> cases h; rfl
theorem asBl_ok {e : Expr} {r} (h : asBl e = some r) : e = .Constant (.bool r.1) r.2.1 r.2.2 := by unfold asBl at h; split at h <;> cases h; rfl
theorem asNon_ok {e : Expr} {r} (h : asNon e = some r) : e = .Constant .none r.1 r.2 := by unfold asNon at h; split at h <;> cases h; rfl
theorem asStr_ok {e : Expr} {r} (h : asStr e = some r) : e = .Constant (.str r.1) r.2.1 r.2.2 := by unfold asStr at h; split at h <;> cases h; rfl
theorem asName_ok {e : Expr} {r} (h : asName e = some r) : e = .Name r.1 r.2 := by unfold asName at h; split at h <;> cases h; rfl
theorem asBin_ok {e : Expr} {r} (h : asBin e = some r) : e = .BinOp r.1 r.2.1 r.2.2.1 r.2.2.2 := by unfold asBin at h; split at h <;> cases h; rfl
theorem asCmp_ok {e : Expr} {r} (h : asCmp e = some r) : e = .Compare r.1 [r.2.1] [r.2.2.1] r.2.2.2 := by unfold asCmp at h; split at h <;> cases h; rfl
theorem asCmp2_ok {e : Expr} {r} (h : asCmp2 e = some r) : e = .Compare r.1 [r.2.1, r.2.2.1] [r.2.2.2.1, r.2.2.2.2.1] r.2.2.2.2.2 := by unfold asCmp2 at h; split at h <;> cases h; rfl
theorem asUn_ok {e : Expr} {r} (h : asUn e = some r) : e = .UnaryOp r.1 r.2.1 r.2.2 := by unfold asUn at h; split at h <;> cases h; rfl
theorem asBo1_ok {e : Expr} {r} (h : asBo1 e = some r) : e = .BoolOp r.1 [r.2.1] r.2.2 := by unfold asBo1 at h; split at h <;> cases h; rfl
theorem asBo2_ok {e : Expr} {r} (h : asBo2 e = some r) : e = .BoolOp r.1 (r.2.1 :: r.2.2.1 :: r.2.2.2.1) r.2.2.2.2 := by unfold asBo2 at h; split at h <;> cases h; rfl
theorem asIf_ok {e : Expr} {r} (h : asIf e = some r) : e = .IfExp r.1 r.2.1 r.2.2.1 r.2.2.2 := by unfold asIf at h; split at h <;> cases h; rfl
theorem asSub_ok {e : Expr} {r} (h : asSub e = some r) : e = .Subscript r.1 r.2.1 r.2.2 := by unfold asSub at h; split at h <;> cases h; rfl
theorem asSl_ok {e : Expr} {r} (h : asSl e = some r) : e = .Slice r.1 r.2.1 none r.2.2 := by unfold asSl at h; split at h <;> cases h; rfl
theorem asTup_ok {e : Expr} {r} (h : asTup e = some r) : e = .Tuple r.1 r.2.1 r.2.2 := by unfold asTup at h; split at h <;> cases h; rfl
theorem asLst_ok {e : Expr} {r} (h : asLst e = some r) : e = .List r.1 r.2 := by unfold asLst at h; split at h <;> cases h; rfl
theorem asCall_ok {e : Expr} {r} (h : asCall e = some r) : e = .Call (.Name r.1 r.2.1) (r.2.2.1 :: r.2.2.2.1) [] r.2.2.2.2 := by unfold asCall at h; split at h <;> cases h; rfl

def opB (o : Bop) (p : Operator) : Bool := decide (opOf o = p)
def copB (o : Cop) (p : CmpOp) : Bool := decide (copOf o = p) && !decide (p = .In) && !decide (p = .NotIn)
def tyStr : Ty → Str
  | .int => "int" | .bool => "bool" | .tuple => "tuple" | .str => "str" | .list => "list"

/-- a call of an own def, by the interpreter -/
def spI (K : PySem.W.Frag) (cl : Cls0) (call : Nat → List PV → Sto → Res PV) (f : Nat) : Sp := fun vs H Q Ex =>
  ∃ rho s ps, RSt K rho H s ∧ VRs K s.n rho H ps vs ∧ Post K cl (fun c d _ H => Ex c d H) [] rho s H (call f ps s) Q
def bltNames : List Str := ["len", "abs", "int", "tuple", "list", "all", "any", "min", "max", "isinstance", "bool", "str", "range", "zip", "enumerate"]
structure Facts (P : Program) (w : World) (K : PySem.W.Frag) (mg : Str → Option Value) (base : Heap) (cl : Cls0) (T : Tab) (call : Nat → List PV → Sto → Res PV) (k : Nat) : Prop where
  fns : ∀ (f : Nat) (x : Str), T.fns[f]? = some x → ∃ a fd ps, mg x = some (.ref a) ∧ PySem.W.keepIn K (.ref a) = true ∧ Binds K fd ps [] ∧ FnOk P w K mg base (L2.CX P w) k a fd ps (spI K cl call f)
  consts : ∀ (i : Nat) (x : Str) (p : PV), T.cnames[i]? = some x → T.consts[i]? = some p → ∃ u v, mg x = some u ∧ RelV v u ∧ ∀ n rho H, VR K n rho H p v
  blt : ∀ x ∈ bltNames, mg x = none
structure Good (cl : Cls0) (T : Tab) (call : Nat → List PV → Sto → Res PV) (k : Nat) (N : List Str) (sc : Scope) (W : WX) (X : Cx) : Prop where
  hN : X.N = N
  nd : N.Nodup
  hsc : X.env.scope = sc
  calm : X.calm = true
  room : Room k X.A
  facts : Facts X.prog X.w X.K X.mg X.base cl T call k
  pass : ∀ σ, PassesAt (L2.CX X.prog X.w) X σ (fun c d H => W c d σ H)
end FI

namespace FI
open PySem PySem.Spec PyProof.Rows L2

section
variable {K : PySem.W.Frag} {cl : Cls0} {W : WX} {σ : L2.St} {rho : Nat → Addr} {s : Sto} {H : Hp} {Q Q' : VK} {T : Tab} {call : Nat → List PV → Sto → Res PV} {c : E} {sl : Sl}
theorem Post.imp {r : Res PV} (h : Post K cl W σ rho s H r Q) (i : ∀ v H, Q v H → Q' v H) : Post K cl W σ rho s H r Q' := by
  cases r with
  | ok p s' => exact fun rho' H' v x R e => i _ _ (h rho' H' v x R e)
  | exc c fs s' => exact h
  | bad => exact h
theorem tI_imp (h : tI K cl W T call c σ H Q) (i : ∀ v H, Q v H → Q' v H) : tI K cl W T call c σ H Q' := by
  obtain ⟨rho, s, sl, R, S, h⟩ := h
  exact ⟨rho, s, sl, R, S, h.imp i⟩
theorem tIA_imp {Q Q' : List V → Hp → Prop} (h : tIA K cl W T call c σ H Q) (i : ∀ v H, Q v H → Q' v H) : tIA K cl W T call c σ H Q' := by
  obtain ⟨rho, s, sl, R, S, h⟩ := h
  refine ⟨rho, s, sl, R, S, ?_⟩
  split at h
  · exact fun rho' H' v x R e => i _ _ (h rho' H' v x R e)
  · exact h.elim
  · exact h
  · exact h.elim
end

section
variable {cl : Cls0} {T : Tab} {call : Nat → List PV → Sto → Res PV} {k : Nat} {N : List Str} {sc : Scope} {W : WX} {X : Cx}
/-- a test's reading -/
def tIT (K : PySem.W.Frag) (cl : Cls0) (W : WX) (T : Tab) (call : Nat → List PV → Sto → Res PV) (c : E) : TT := fun σ H Q => tI K cl W T call c σ H fun v H' => ∃ b, v = .bl b ∧ Q b H'
theorem glB_ok (G : Good cl T call k N sc W X) {x : Str} (h : glB sc x = true) : Gl X x ∧ (x == ("__debug__" : Str)) = false := by
  unfold glB at h
  simp only [Bool.and_eq_true, Bool.not_eq_true'] at h
  obtain ⟨⟨h1, h2⟩, _⟩ := h
  refine ⟨?_, h2⟩
  unfold Gl Env.kindOf
  rw [G.hsc]
  split at h1
  · assumption
  · cases h1
theorem Good.un (G : Good cl T call k N sc W X) : X.A.units + 64 < cLine := G.room.units

theorem g_var (G : Good cl T call k N sc W X) {i : Nat} {x : Str} {p : Pos} (h1 : N[i]? = some x) (h2 : Vis sc x) (h3 : (x == ("__debug__" : Str)) = false) (h4 : (x == ("__classdict__" : Str)) = false) : PE X (.Name x p) (tI X.K cl W T call (.var i)) :=
  PE_imp (pe_var (i := i) (by rw [G.hN]; exact h1) (by rw [G.hsc]; exact h2) h3 h4) fun σ H Q ⟨rho, s, sl, R, S, h⟩ => by
    simp only [ev] at h
    split at h
    · rename_i q e
      obtain ⟨v, e1, e2⟩ := S.2 i q e
      exact ⟨v, e1, h.same R e2⟩
    · exact h.elim
theorem g_glob (G : Good cl T call k N sc W X) {i : Nat} {x : Str} {p : Pos} (h1 : T.cnames[i]? = some x) (h2 : glB sc x = true) : PE X (.Name x p) (tI X.K cl W T call (.glob i)) := by
  obtain ⟨hg, hd⟩ := glB_ok G h2
  cases e : T.consts[i]? with
  | none =>
    refine PE_imp (t := fun _ _ _ => False) ⟨fun _ _ _ _ _ _ h => h.elim⟩ fun σ H Q ⟨rho, s, sl, R, S, h⟩ => ?_
    simp only [ev, e] at h
    exact h
  | some q =>
    obtain ⟨u, v, hm, r, hv⟩ := G.facts.consts i x q h1 e
    refine PE_imp (pe_glob hg hm r hd) fun σ H Q ⟨rho, s, sl, R, S, h⟩ => ?_
    simp only [ev, e] at h
    exact h.same R (hv _ _ _)
theorem g_bin {o : Bop} {a b : Expr} {ca cb : E} {p : Pos} (ha : PE X a (tI X.K cl W T call ca)) (hb : PE X b (tI X.K cl W T call cb)) : PE X (.BinOp a (opOf o) b p) (tI X.K cl W T call (.bin o ca cb)) :=
  PE_imp (pe_op (op_bin o) ha hb) fun σ H Q ⟨rho, s, sl, R, S, h⟩ => by
    simp only [ev] at h
    refine tI_imp (tI_seq R S h) fun v H1 ⟨rho1, s1, p, x1, R1, S1, V1, h1⟩ => ?_
    refine tI_imp (tI_seq R1 S1 h1) fun u H2 ⟨rho2, s2, q, x2, R2, S2, V2, h2⟩ => ?_
    exact bin_ok o h2 R2 (x2.vr R1 V1) V2
theorem copB_ok {o : Cop} {p : CmpOp} (h : copB o p = true) : copOf o = p ∧ p ≠ .In ∧ p ≠ .NotIn := by
  unfold copB at h
  simp only [Bool.and_eq_true, decide_eq_true_eq, Bool.not_eq_true', decide_eq_false_iff_not] at h
  exact ⟨h.1.1, h.1.2, h.2⟩
theorem cmp_read (o : Cop) {ca cb : E} {σ : L2.St} {H : Hp} {Q : VK} (h : tI X.K cl W T call (.cmp o ca cb) σ H Q) : tOp (rCmp X.K o) (tI X.K cl W T call ca) (tI X.K cl W T call cb) σ H Q := by
  obtain ⟨rho, s, sl, R, S, h⟩ := h
  simp only [ev] at h
  refine tI_imp (tI_seq R S h) fun v H1 ⟨rho1, s1, p, x1, R1, S1, V1, h1⟩ => ?_
  refine tI_imp (tI_seq R1 S1 h1) fun u H2 ⟨rho2, s2, q, x2, R2, S2, V2, h2⟩ => ?_
  exact cmp_ok o h2 R2 (x2.vr R1 V1) V2
theorem g_cmp (G : Good cl T call k N sc W X) {o : Cop} {a b : Expr} {ca cb : E} {p : Pos} (n1 : copOf o ≠ .In) (n2 : copOf o ≠ .NotIn) (ha : PE X a (tI X.K cl W T call ca)) (hb : PE X b (tI X.K cl W T call cb)) : PE X (.Compare a [copOf o] [b] p) (tI X.K cl W T call (.cmp o ca cb)) :=
  PE_imp (pe_cmpR (op_cmp G.room o) ha hb (nobehind _ n1 n2)) fun σ H Q h => cmp_read o h
theorem g_cmpT (G : Good cl T call k N sc W X) {o : Cop} {a b : Expr} {ca cb : E} {p : Pos} (n1 : copOf o ≠ .In) (n2 : copOf o ≠ .NotIn) (ha : PE X a (tI X.K cl W T call ca)) (hb : PE X b (tI X.K cl W T call cb)) : PT X (.Compare a [copOf o] [b] p) (tIT X.K cl W T call (.cmp o ca cb)) :=
  PT_imp (pt_cmpR (op_cmp G.room o) ha hb (nobehind _ n1 n2)) fun σ H Q h => cmp_read o h
theorem chain_read (o q : Cop) {ca cb cc : E} {σ : L2.St} {H : Hp} {Q : VK} (h : tI X.K cl W T call (.chain o q ca cb cc) σ H Q) : tChain (rCmp X.K o) (rCmp X.K q) (tI X.K cl W T call ca) (tI X.K cl W T call cb) (tI X.K cl W T call cc) σ H Q := by
  obtain ⟨rho, s, sl, R, S, h⟩ := h
  simp only [ev] at h
  refine tI_imp (tI_seq R S h) fun v H1 ⟨rho1, s1, p, x1, R1, S1, V1, h1⟩ => ?_
  refine tI_imp (tI_seq R1 S1 h1) fun u H2 ⟨rho2, s2, q2, x2, R2, S2, V2, h2⟩ => ?_
  have hc : Post X.K cl W σ rho2 s2 H2 (evCmp o p q2 s2) (fun z H3 => ∃ rho3 s3 zp, Ext s2 rho2 rho3 H2 H3 s3 ∧ RSt X.K rho3 H3 s3 ∧ VR X.K s3.n rho3 H3 zp z ∧ Post X.K cl W σ rho3 s3 H3 (match zp with | .bl true => (ev T call cc sl s3).bind fun u s4 => evCmp q q2 u s4 | .bl false => .ok (.bl false) s3 | _ => .bad) Q) := by
    cases e : evCmp o p q2 s2 with
    | ok zp s3 => rw [e] at h2; exact fun rho3 H3 z x3 R3 V3 => ⟨rho3, s3, zp, x3, R3, V3, Post.later (s' := s3) h2 x3 R2 R3⟩
    | exc c fs s3 => rw [e] at h2; exact h2
    | bad => rw [e] at h2; exact h2
  refine cmp_ok o (hc.imp fun z H3 ⟨rho3, s3, zp, x3, R3, V3, h3⟩ => ?_) R2 (x2.vr R1 V1) V2
  split at h3
  · simp only [VR] at V3
    subst V3
    refine ⟨true, rfl, ?_⟩
    rw [if_pos rfl]
    refine tI_imp (tI_seq R3 (S2.mono x3 R2) h3) fun w H4 ⟨rho4, s4, wp, x4, R4, S4, V4, h4⟩ => ?_
    exact cmp_ok q h4 R4 (x4.vr R3 (x3.vr R2 V2)) V4
  · simp only [VR] at V3
    subst V3
    refine ⟨false, rfl, ?_⟩
    rw [if_neg Bool.false_ne_true]
    exact h3.same R3 (by simp only [VR])
  · exact h3.elim
theorem g_chain (G : Good cl T call k N sc W X) {o q : Cop} {a b c : Expr} {ca cb cc : E} {p : Pos} (n1 : copOf o ≠ .In) (n2 : copOf o ≠ .NotIn) (n3 : copOf q ≠ .In) (n4 : copOf q ≠ .NotIn) (ha : PE X a (tI X.K cl W T call ca)) (hb : PE X b (tI X.K cl W T call cb)) (hc : PE X c (tI X.K cl W T call cc)) :
    PE X (.Compare a [copOf o, copOf q] [b, c] p) (tI X.K cl W T call (.chain o q ca cb cc)) :=
  PE_imp (pe_chain (op_cmp G.room o) (op_cmp G.room q) ha hb hc (nobehind _ n3 n4)) fun σ H Q h => chain_read o q h
theorem g_chainT (G : Good cl T call k N sc W X) {o q : Cop} {a b c : Expr} {ca cb cc : E} {p : Pos} (n1 : copOf o ≠ .In) (n2 : copOf o ≠ .NotIn) (n3 : copOf q ≠ .In) (n4 : copOf q ≠ .NotIn) (ha : PE X a (tI X.K cl W T call ca)) (hb : PE X b (tI X.K cl W T call cb)) (hc : PE X c (tI X.K cl W T call cc)) :
    PT X (.Compare a [copOf o, copOf q] [b, c] p) (tIT X.K cl W T call (.chain o q ca cb cc)) :=
  PT_imp (pt_chain (op_cmp G.room o) (op_cmp G.room q) ha hb hc (nobehind _ n3 n4)) fun σ H Q h => chain_read o q h
theorem g_neg {a : Expr} {ca : E} {p : Pos} (ha : PE X a (tI X.K cl W T call ca)) : PE X (.UnaryOp .USub a p) (tI X.K cl W T call (.neg ca)) :=
  PE_imp (pe_un un_neg ha) fun σ H Q ⟨rho, s, sl, R, S, h⟩ => by
    simp only [ev] at h
    refine tI_imp (tI_seq R S h) fun v H1 ⟨rho1, s1, p, x1, R1, S1, V1, h1⟩ => ?_
    split at h1
    · simp only [VR] at V1
      exact ⟨_, V1, h1.same R1 (by simp only [VR])⟩
    · exact h1.elim
theorem not_read {ca : E} {σ : L2.St} {H : Hp} {Q : VK} (h : tI X.K cl W T call (.not ca) σ H Q) : tI X.K cl W T call ca σ H fun x H1 => ∃ c, x = .bl c ∧ Q (.bl (!c)) H1 := by
  obtain ⟨rho, s, sl, R, S, h⟩ := h
  simp only [ev] at h
  refine tI_imp (tI_seq R S h) fun v H1 ⟨rho1, s1, p, x1, R1, S1, V1, h1⟩ => ?_
  split at h1
  · simp only [VR] at V1
    exact ⟨_, V1, h1.same R1 (by simp only [VR])⟩
  · exact h1.elim
theorem g_not {a : Expr} {ca : E} {p : Pos} (ha : PE X a (tI X.K cl W T call ca)) : PE X (.UnaryOp .Not a p) (tI X.K cl W T call (.not ca)) :=
  PE_imp (pe_not ha) fun σ H Q h => not_read h
theorem g_notT {a : Expr} {ca : E} {p : Pos} (ha : PT X a (tIT X.K cl W T call ca)) : PT X (.UnaryOp .Not a p) (tIT X.K cl W T call (.not ca)) :=
  PT_imp (pt_not ha) fun σ H Q h => tI_imp (not_read h) fun v H1 ⟨c, e, b, e2, q⟩ => ⟨c, e, by cases e2; exact q⟩
theorem and_read {ca cb : E} {σ : L2.St} {H : Hp} {Q : VK} (h : tI X.K cl W T call (.and ca cb) σ H Q) : tI X.K cl W T call ca σ H fun x H1 => ∃ c, x = .bl c ∧ if c = true then tI X.K cl W T call cb σ H1 Q else Q (.bl false) H1 := by
  obtain ⟨rho, s, sl, R, S, h⟩ := h
  simp only [ev] at h
  refine tI_imp (tI_seq R S h) fun v H1 ⟨rho1, s1, p, x1, R1, S1, V1, h1⟩ => ?_
  split at h1
  · simp only [VR] at V1
    exact ⟨true, V1, by rw [if_pos rfl]; exact ⟨rho1, s1, sl, R1, S1, h1⟩⟩
  · simp only [VR] at V1
    exact ⟨false, V1, by rw [if_neg Bool.false_ne_true]; exact h1.same R1 (by simp only [VR])⟩
  · exact h1.elim
theorem or_read {ca cb : E} {σ : L2.St} {H : Hp} {Q : VK} (h : tI X.K cl W T call (.or ca cb) σ H Q) : tI X.K cl W T call ca σ H fun x H1 => ∃ c, x = .bl c ∧ if c = true then Q (.bl true) H1 else tI X.K cl W T call cb σ H1 Q := by
  obtain ⟨rho, s, sl, R, S, h⟩ := h
  simp only [ev] at h
  refine tI_imp (tI_seq R S h) fun v H1 ⟨rho1, s1, p, x1, R1, S1, V1, h1⟩ => ?_
  split at h1
  · simp only [VR] at V1
    exact ⟨true, V1, by rw [if_pos rfl]; exact h1.same R1 (by simp only [VR])⟩
  · simp only [VR] at V1
    exact ⟨false, V1, by rw [if_neg Bool.false_ne_true]; exact ⟨rho1, s1, sl, R1, S1, h1⟩⟩
  · exact h1.elim
theorem one_read {ca : E} {σ : L2.St} {H : Hp} {Q : VK} (h : tI X.K cl W T call (.one ca) σ H Q) : tI X.K cl W T call ca σ H Q := by
  obtain ⟨rho, s, sl, R, S, h⟩ := h
  simp only [ev] at h
  exact ⟨rho, s, sl, R, S, h⟩
theorem ife_read {cc ca cb : E} {σ : L2.St} {H : Hp} {Q : VK} (h : tI X.K cl W T call (.ife cc ca cb) σ H Q) : tI X.K cl W T call cc σ H fun x H1 => ∃ c, x = .bl c ∧ if c = true then tI X.K cl W T call ca σ H1 Q else tI X.K cl W T call cb σ H1 Q := by
  obtain ⟨rho, s, sl, R, S, h⟩ := h
  simp only [ev] at h
  refine tI_imp (tI_seq R S h) fun v H1 ⟨rho1, s1, p, x1, R1, S1, V1, h1⟩ => ?_
  split at h1
  · simp only [VR] at V1
    exact ⟨true, V1, by rw [if_pos rfl]; exact ⟨rho1, s1, sl, R1, S1, h1⟩⟩
  · simp only [VR] at V1
    exact ⟨false, V1, by rw [if_neg Bool.false_ne_true]; exact ⟨rho1, s1, sl, R1, S1, h1⟩⟩
  · exact h1.elim
theorem g_idx {a b : Expr} {ca cb : E} {p : Pos} (hs : PlainIx b) (ha : PE X a (tI X.K cl W T call ca)) (hb : PE X b (tI X.K cl W T call cb)) : PE X (.Subscript a b p) (tI X.K cl W T call (.idx ca cb)) :=
  PE_imp (pe_ix ix_seq ha hb hs) fun σ H Q ⟨rho, s, sl, R, S, h⟩ => by
    simp only [ev] at h
    refine tI_imp (tI_seq R S h) fun v H1 ⟨rho1, s1, p, x1, R1, S1, V1, h1⟩ => ?_
    refine tI_imp (tI_seq R1 S1 h1) fun u H2 ⟨rho2, s2, q, x2, R2, S2, V2, h2⟩ => ?_
    exact idx_ok h2 R2 (x2.vr R1 V1) V2
end
end FI

namespace FI
open PySem PySem.Spec PyProof.Rows L2
section
variable {cl : Cls0} {T : Tab} {call : Nat → List PV → Sto → Res PV} {k : Nat} {N : List Str} {sc : Scope} {W : WX} {X : Cx}
/-- an end of a slice -/
def tPt (K : PySem.W.Frag) (cl : Cls0) (W : WX) (T : Tab) (call : Nat → List PV → Sto → Res PV) (c : E) : TO := fun σ H Q => if isNo c = true then Q none H else tI K cl W T call c σ H fun x H1 => ∃ i, x = .int i ∧ Q (some i) H1
theorem PO_imp {e : Option Expr} {t t' : TO} (h : PO X e t) (i : ∀ σ H Q, t' σ H Q → t σ H Q) : PO X e t' := ⟨fun pins s σ H Q I q => h.run pins s σ H Q I (i σ H Q q)⟩
theorem isNo_eq {c : E} (h : isNo c = true) : c = .no := by cases c <;> first | rfl | cases h
theorem po_pt {e : Option Expr} {c : E} (h0 : e = none → isNo c = true) (h1 : ∀ x, e = some x → isNo c = false ∧ PE X x (tI X.K cl W T call c)) : PO X e (tPt X.K cl W T call c) := by
  cases e with
  | none => exact PO_imp po_none fun σ H Q h => by unfold tPt at h; rw [if_pos (h0 rfl)] at h; exact h
  | some x =>
    obtain ⟨n, pe⟩ := h1 x rfl
    exact PO_imp (po_some pe) fun σ H Q h => by unfold tPt at h; rw [if_neg (by rw [n]; decide)] at h; exact h
theorem part_seq {σ : L2.St} {rho : Nat → Addr} {s : Sto} {H : Hp} {Q : VK} {sl : Sl} {K : PySem.W.Frag} {c : E} {f : Option Int → Sto → Res PV} (R : RSt K rho H s) (S : SlR K s.n rho H sl σ)
    (h : Post K cl W σ rho s H ((ev T call c sl s).bind fun y s2 => match partOf c y with | none => .bad | some l => f l s2) Q) :
    tPt K cl W T call c σ H fun l H1 => ∃ rho1 s1, Ext s rho rho1 H H1 s1 ∧ RSt K rho1 H1 s1 ∧ SlR K s1.n rho1 H1 sl σ ∧ Post K cl W σ rho1 s1 H1 (f l s1) Q := by
  unfold tPt
  by_cases hn : isNo c = true
  · rw [if_pos hn]
    have e := isNo_eq hn
    subst e
    simp only [ev, Res.bind, partOf, isNo, if_true] at h
    exact ⟨rho, s, .refl, R, S, h⟩
  · rw [if_neg hn]
    refine tI_imp (tI_seq R S h) fun v H1 ⟨rho1, s1, p, x1, R1, S1, V1, g1⟩ => ?_
    unfold partOf at g1
    rw [if_neg hn] at g1
    cases p with
    | int i =>
      simp only [VR] at V1
      exact ⟨i, V1, rho1, s1, x1, R1, S1, g1⟩
    | _ => exact g1.elim
theorem g_slice {a : Expr} {lo hi : Option Expr} {ca c1 c2 : E} {p p2 : Pos} (ha : PE X a (tI X.K cl W T call ca)) (h1 : PO X lo (tPt X.K cl W T call c1)) (h2 : PO X hi (tPt X.K cl W T call c2)) : PE X (.Subscript a (.Slice lo hi none p2) p) (tI X.K cl W T call (.slice ca c1 c2)) :=
  PE_imp (pe_slice (sl_list.or sl_tupA) ha h1 h2) fun σ H Q ⟨rho, s, sl, R, S, h⟩ => by
    simp only [ev] at h
    refine tI_imp (tI_seq R S h) fun v H1 ⟨rho1, s1, p, x1, R1, S1, V1, g1⟩ => ?_
    have m : ∀ {c : E} {Q Q' : Option Int → Hp → Prop} {H : Hp}, tPt X.K cl W T call c σ H Q → (∀ o H, Q o H → Q' o H) → tPt X.K cl W T call c σ H Q' := fun {c Q Q' H} h i => by
      unfold tPt at h ⊢
      split
      · rename_i z; rw [if_pos z] at h; exact i _ _ h
      · rename_i z; rw [if_neg z] at h; exact tI_imp h fun v H1 ⟨j, e, q⟩ => ⟨j, e, i _ _ q⟩
    refine m (part_seq R1 S1 g1) fun l H2 ⟨rho2, s2, x2, R2, S2, g2⟩ => ?_
    refine m (part_seq R2 S2 g2) fun u H3 ⟨rho3, s3, x3, R3, S3, g3⟩ => ?_
    exact slice_ok g3 R3 (x3.vr R2 (x2.vr R1 V1))
/-! ### arguments -/
theorem a_nil : PA X [] (tIA X.K cl W T call .nil) :=
  PA_imp pa_nil fun σ H Q ⟨rho, s, sl, R, S, h⟩ => by
    simp only [ev] at h
    exact h rho H [] .refl R (by simp only [VRs])
theorem a_cons {e : Expr} {es : List Expr} {ca cr : E} (hn : nostar e = true) (he : PE X e (tI X.K cl W T call ca)) (hr : PA X es (tIA X.K cl W T call cr)) : PA X (e :: es) (tIA X.K cl W T call (.cons ca cr)) :=
  PA_imp (pa_cons he hr (nostar_ok hn)) fun σ H Q ⟨rho, s, sl, R, S, h⟩ => by
    simp only [ev] at h
    refine ⟨rho, s, sl, R, S, ?_⟩
    cases e1 : ev T call ca sl s with
    | bad => simp only [e1] at h
    | exc c fs s1 => simp only [e1] at h; exact h
    | ok p s1 =>
      simp only [e1] at h
      intro rho1 H1 v x1 R1 V1
      refine ⟨rho1, s1, sl, R1, S.mono x1 R, ?_⟩
      cases e2 : ev T call cr sl s1 with
      | bad => simp only [e2] at h
      | exc c fs s2 => simp only [e2] at h; exact Post.later (s' := s1) h x1 R R1
      | ok q s2 =>
        simp only [e2] at h
        cases q with
        | tup ps => exact fun rho2 H2 vs x2 R2 V2 => h rho2 H2 (v :: vs) (x1.trans x2 R R1) R2 (by simp only [VRs]; exact ⟨v, vs, rfl, x2.vr R1 V1, V2⟩)
        | _ => exact h
theorem args_read {c : E} {f : List PV → Sto → Res PV} {σ : L2.St} {rho : Nat → Addr} {s : Sto} {H : Hp} {Q : VK} {sl : Sl} {K : PySem.W.Frag} {Q' : List V → Hp → Prop} (R : RSt K rho H s) (S : SlR K s.n rho H sl σ) (h : Post K cl W σ rho s H ((ev T call c sl s).bind fun x s1 => match x with | .tup vs => f vs s1 | _ => .bad) Q)
    (i : ∀ vs H1 rho1 s1 ps, Ext s rho rho1 H H1 s1 → RSt K rho1 H1 s1 → SlR K s1.n rho1 H1 sl σ → VRs K s1.n rho1 H1 ps vs → Post K cl W σ rho1 s1 H1 (f ps s1) Q → Q' vs H1) : tIA K cl W T call c σ H Q' :=
  tIA_imp (tIA_seq R S h) fun vs H1 ⟨rho1, s1, ps, x1, R1, S1, V1, g⟩ => i vs H1 rho1 s1 ps x1 R1 S1 V1 g
theorem g_tup {es : List Expr} {c : E} {j : Nat} {p : Pos} (h : PA X es (tIA X.K cl W T call c)) : PE X (.Tuple es j p) (tI X.K cl W T call (.tup c)) :=
  PE_imp (pe_tup h) fun σ H Q ⟨rho, s, sl, R, S, h⟩ => by
    simp only [ev] at h
    have h' : Post X.K cl W σ rho s H ((ev T call c sl s).bind fun x s1 => match x with | .tup vs => (if vs.length ≤ cap then .ok (.tup vs) s1 else .bad) | _ => .bad) Q := by
      cases e : ev T call c sl s with
      | bad => simp only [e] at h; exact h
      | exc c fs s1 => simp only [e] at h; exact h
      | ok q s1 => simp only [e] at h; cases q <;> exact h
    refine args_read (f := fun vs s1 => if vs.length ≤ cap then .ok (.tup vs) s1 else .bad) R S h' fun vs H1 rho1 s1 ps x1 R1 S1 V1 g => ?_
    split at g
    · rename_i hl
      exact ⟨by rw [← V1.len]; exact cap_line hl, fun a hn => g.tup R1 V1 hn⟩
    · exact g.elim
theorem g_lst {es : List Expr} {c : E} {p : Pos} (h : PA X es (tIA X.K cl W T call c)) : PE X (.List es p) (tI X.K cl W T call (.lst c)) :=
  PE_imp (pe_lst h) fun σ H Q ⟨rho, s, sl, R, S, h⟩ => by
    simp only [ev] at h
    have h' : Post X.K cl W σ rho s H ((ev T call c sl s).bind fun x s1 => match x with | .tup vs => (if vs.length ≤ cap then .ok (.lst s1.n) (s1.new (.lst vs)) else .bad) | _ => .bad) Q := by
      cases e : ev T call c sl s with
      | bad => simp only [e] at h; exact h
      | exc c fs s1 => simp only [e] at h; exact h
      | ok q s1 => simp only [e] at h; cases q <;> exact h
    refine args_read (f := fun vs s1 => if vs.length ≤ cap then .ok (.lst s1.n) (s1.new (.lst vs)) else .bad) R S h' fun vs H1 rho1 s1 ps x1 R1 S1 V1 g => ?_
    split at g
    · rename_i hl
      exact ⟨by rw [← V1.len]; exact cap_line hl, fun a hn => g.lst R1 V1 hn⟩
    · exact g.elim
theorem g_call (G : Good cl T call k N sc W X) {f : Nat} {x : Str} {e : Expr} {es : List Expr} {c : E} {p q : Pos} (h1 : T.fns[f]? = some x) (h2 : glB sc x = true) (h3 : (e :: es).all nostar = true) (ha : PA X (e :: es) (tIA X.K cl W T call c)) : PE X (.Call (.Name x p) (e :: es) [] q) (tI X.K cl W T call (.call f c)) := by
  obtain ⟨hg, hd⟩ := glB_ok G h2
  obtain ⟨a, fd, ps, hm, hk, hb, F⟩ := G.facts.fns f x h1
  simp only [List.all_cons, Bool.and_eq_true] at h3
  refine PE_imp (pe_callS (E := fun σ c d H => W c d σ H) F G.room hg hm hk hb G.pass ha hd (nostar_ok h3.1) (nostar_all h3.2)) fun σ H Q ⟨rho, s, sl, R, S, h⟩ => ?_
  simp only [ev] at h
  refine args_read (f := fun vs s1 => call f vs s1) R S h fun vs H1 rho1 s1 ps x1 R1 S1 V1 g => ?_
  refine ⟨rho1, s1, ps, R1, V1, ?_⟩
  revert g
  cases e : call f ps s1 with
  | bad => exact id
  | ok v s2 => exact id
  | exc c fs s2 => exact id
theorem g_blt (G : Good cl T call k N sc W X) {b : Blt} {x : Str} {e : Expr} {es : List Expr} {c : E} {p q : Pos} (h1 : x = bltName b) (h2 : glB sc x = true) (h3 : (e :: es).all nostar = true) (ha : PA X (e :: es) (tIA X.K cl W T call c)) : PE X (.Call (.Name x p) (e :: es) [] q) (tI X.K cl W T call (.blt b c)) := by
  obtain ⟨hg, hd⟩ := glB_ok G h2
  simp only [List.all_cons, Bool.and_eq_true] at h3
  have hm : X.mg x = none := G.facts.blt x (by rw [h1]; cases b <;> decide +kernel)
  have hn : x ≠ "__name__" := by rw [h1]; cases b <;> decide +kernel
  have pe : PE X (.Call (.Name x p) (e :: es) [] q) (tCB (rBlt X.K b) (tIA X.K cl W T call c)) := by
    have hc := call_blt G.calm b
    subst h1
    cases b with
    | len => exact pe_callB hc hg hm (by decide +kernel) ha hn hd (nostar_ok h3.1) (nostar_all h3.2)
    | abs => exact pe_callB hc hg hm (by decide +kernel) ha hn hd (nostar_ok h3.1) (nostar_all h3.2)
    | int => exact pe_callTy hc hg hm (by decide +kernel) ha hn hd (nostar_ok h3.1) (nostar_all h3.2)
    | tuple => exact pe_callTy hc hg hm (by decide +kernel) ha hn hd (nostar_ok h3.1) (nostar_all h3.2)
    | list => exact pe_callTy hc hg hm (by decide +kernel) ha hn hd (nostar_ok h3.1) (nostar_all h3.2)
    | all => exact pe_callB hc hg hm (by decide +kernel) ha hn hd (nostar_ok h3.1) (nostar_all h3.2)
    | any => exact pe_callB hc hg hm (by decide +kernel) ha hn hd (nostar_ok h3.1) (nostar_all h3.2)
    | min2 => exact pe_callB hc hg hm (by decide +kernel) ha hn hd (nostar_ok h3.1) (nostar_all h3.2)
    | maxL => exact pe_callB hc hg hm (by decide +kernel) ha hn hd (nostar_ok h3.1) (nostar_all h3.2)
  refine PE_imp pe fun σ H Q ⟨rho, s, sl, R, S, h⟩ => ?_
  simp only [ev] at h
  exact args_read (f := fun vs s1 => evBlt b vs s1) R S h fun vs H1 rho1 s1 ps x1 R1 S1 V1 g => blt_ok b g R1 V1
theorem g_isi (G : Good cl T call k N sc W X) {t : Ty} {x y : Str} {e : Expr} {c : E} {p q p2 : Pos} (h1 : x = "isinstance") (h2 : y = tyStr t) (h3 : glB sc x = true) (h4 : glB sc y = true) (h5 : nostar e = true) (ha : PE X e (tI X.K cl W T call c)) : PE X (.Call (.Name x p) [e, .Name y p2] [] q) (tI X.K cl W T call (.isi t c)) := by
  obtain ⟨hg, hd⟩ := glB_ok G h3
  obtain ⟨hg2, hd2⟩ := glB_ok G h4
  have hm : X.mg x = none := G.facts.blt x (by rw [h1]; decide +kernel)
  have hm2 : X.mg y = none := G.facts.blt y (by rw [h2]; cases t <;> decide +kernel)
  have hb : bootBuiltins y = some (.type (tyName t)) := by rw [h2]; cases t <;> decide +kernel
  have hn2 : y ≠ "__name__" := by rw [h2]; cases t <;> decide +kernel
  subst h1
  refine PE_imp (pe_callB (r := rIsi X.K) call_isi hg hm boot_isinstance (pa_cons ha (pa_cons (pe_bltn (v := .ty (tyName t)) hg2 hm2 hb rfl hn2 hd2) pa_nil) (nostar_ok h5)) (by decide +kernel) hd (nostar_ok h5)) fun σ H Q ⟨rho, s, sl, R, S, h⟩ => ?_
  simp only [ev] at h
  refine tI_imp (tI_seq R S h) fun v H1 ⟨rho1, s1, p, x1, R1, S1, V1, g1⟩ => ?_
  split at g1
  · rename_i b e
    obtain ⟨u, ty, kk⟩ := isi_ok R1 e V1
    exact ⟨v, .ty (tyName t), u, .type (tyName t), b, rfl, .ty _, ty, kk, g1.same R1 (by simp only [VR])⟩
  · exact g1.elim
end
end FI

namespace FI
open PySem PySem.Spec PyProof.Rows L2

/-! ### what is walked -/
/-- the layer's iterator does as the interpreter's, now and later -/
def JR (K : PySem.W.Frag) (s0 : Sto) (rho0 : Nat → Addr) (H0 : Hp) (J : L2.It) (j : It) : Prop :=
  ∀ rho H s, Ext s0 rho0 rho H0 H s → RSt K rho H s →
    (∀ k p, j.at k s = some (some p) → J.go k H ∧ ∀ x H', J.yld k H x H' → Ext s rho rho H H' s ∧ RSt K rho H' s ∧ VR K s.n rho H' p x) ∧ (∀ k, j.at k s = some none → J.stop k H)
section
variable {K : PySem.W.Frag} {s : Sto} {rho : Nat → Addr} {H : Hp}
theorem jr_list {i : Nat} (hi : i < s.n) : JR K s rho H (Itl K (rho i)) (.l i) := by
  intro rho1 H1 s1 x R
  have e : rho1 i = rho i := x.eq i hi
  refine ⟨fun k p h => ?_, fun k h => ?_⟩
  · simp only [It.at] at h
    split at h
    · rename_i xs g
      obtain ⟨vs, t, r⟩ := getL_ok R g
      rw [e] at t
      obtain ⟨v, e1, e2⟩ := r.get (Option.some.inj h)
      refine ⟨⟨vs, v, t, e1⟩, fun y H' ⟨z1, z2⟩ => ?_⟩
      subst z1
      have := z2 vs t
      rw [e1] at this
      cases this
      exact ⟨.refl, R, e2⟩
    · cases h
  · simp only [It.at] at h
    split at h
    · rename_i xs g
      obtain ⟨vs, t, r⟩ := getL_ok R g
      rw [e] at t
      refine ⟨vs, t, ?_⟩
      rw [← r.len]
      exact List.getElem?_eq_none_iff.mp (Option.some.inj h)
    · cases h
theorem jr_tup {a : Addr} {vs : List V} {xs : List PV} (R0 : RSt K rho H s) (t : SqT K H a vs) (r : VRs K s.n rho H xs vs) : JR K s rho H (Itt K a) (.t xs) := by
  intro rho1 H1 s1 x R
  have t1 := x.tup R0 t
  have r1 := x.vrs R0 r
  refine ⟨fun k p h => ?_, fun k h => ?_⟩
  · simp only [It.at] at h
    obtain ⟨v, e1, e2⟩ := r1.get (Option.some.inj h)
    refine ⟨⟨vs, v, t1, e1⟩, fun y H' ⟨z1, z2⟩ => ?_⟩
    subst z1
    have := z2 vs t1
    rw [e1] at this
    cases this
    exact ⟨.refl, R, e2⟩
  · simp only [It.at] at h
    refine ⟨vs, t1, ?_⟩
    rw [← r1.len]
    exact List.getElem?_eq_none_iff.mp (Option.some.inj h)
theorem jr_rng {lo : Int} {n : Nat} : JR K s rho H (Itr lo n) (.r lo n) := by
  intro rho1 H1 s1 x R
  refine ⟨fun k p h => ?_, fun k h => ?_⟩
  · simp only [It.at] at h
    have h := Option.some.inj h
    split at h
    · rename_i hk
      cases h
      refine ⟨hk, fun y H' ⟨z1, z2⟩ => ?_⟩
      subst z1; subst z2
      exact ⟨.refl, R, by simp only [VR]⟩
    · cases h
  · simp only [It.at] at h
    have h := Option.some.inj h
    split at h
    · cases h
    · rename_i hk
      exact Nat.le_of_not_lt hk
end
section
variable {cl : Cls0} {T : Tab} {call : Nat → List PV → Sto → Res PV} {k : Nat} {N : List Str} {sc : Scope} {W : WX} {X : Cx}
/-- an iterable's reading -/
def tII (K : PySem.W.Frag) (cl : Cls0) (W : WX) (T : Tab) (call : Nat → List PV → Sto → Res PV) (c : E) : TI := fun σ H R =>
  ∃ rho s sl, RSt K rho H s ∧ SlR K s.n rho H sl σ ∧ match evI T call c sl s with
    | .ok j s' => ∀ rho' H' J, Ext s rho rho' H H' s' → RSt K rho' H' s' → JR K s' rho' H' J j → R J H'
    | .exc c fs s' => Post K cl W σ rho s H (.exc c fs s') (fun _ _ => False)
    | .bad => False
theorem PI_imp {tg e : Expr} {t t' : TI} (h : PI X tg e t) (i : ∀ σ H Q, t' σ H Q → t σ H Q) : PI X tg e t' := ⟨fun pins s σ H Q I q => h.run pins s σ H Q I (i σ H Q q)⟩
theorem PI_or {tg e : Expr} {t t' : TI} (h : PI X tg e t) (h' : PI X tg e t') : PI X tg e (fun σ H R => t σ H R ∨ t' σ H R) :=
  ⟨fun pins s σ H Q I q => q.elim (h.run pins s σ H Q I) (h'.run pins s σ H Q I)⟩
theorem i_seq {tg e : Expr} {c : E} (he : PE X e (tI X.K cl W T call c)) : PI X tg e (tII X.K cl W T call (.iseq c)) :=
  PI_imp (PI_or (pi_list he) (pi_tup he)) fun σ H R ⟨rho, s, sl, RS, S, h⟩ => by
    simp only [evI] at h
    cases e1 : ev T call c sl s with
    | bad => simp only [e1, Res.bind] at h
    | exc d fs s1 =>
      simp only [e1, Res.bind] at h
      exact .inl ⟨rho, s, sl, RS, S, by rw [e1]; exact h⟩
    | ok p s1 =>
      simp only [e1, Res.bind] at h
      cases p with
      | tup xs =>
        refine .inr ⟨rho, s, sl, RS, S, ?_⟩
        rw [e1]
        intro rho1 H1 v x1 R1 V1
        simp only [VR] at V1
        obtain ⟨a, vs, rfl, t, r⟩ := V1
        exact ⟨a, rfl, ⟨vs, t⟩, h rho1 H1 _ x1 R1 (jr_tup R1 t r)⟩
      | lst i =>
        refine .inl ⟨rho, s, sl, RS, S, ?_⟩
        rw [e1]
        intro rho1 H1 v x1 R1 V1
        simp only [VR] at V1
        obtain ⟨hi, rfl⟩ := V1
        dsimp only at h
        cases g : s1.getL i with
        | none => simp only [g] at h
        | some xs =>
          simp only [g] at h
          obtain ⟨vs, t, r⟩ := getL_ok R1 g
          exact ⟨_, rfl, ⟨vs, t⟩, h rho1 H1 _ x1 R1 (jr_list hi)⟩
      | _ => exact h.elim
theorem i_rng (G : Good cl T call k N sc W X) {tg e : Expr} {x : Str} {p q : Pos} {c : E} (hx : x = "range") (hg : glB sc x = true) (hn : nostar e = true) (he : PE X e (tI X.K cl W T call c)) : PI X tg (.Call (.Name x p) [e] [] q) (tII X.K cl W T call (.irng c)) := by
  have hm : X.mg x = none := G.facts.blt x (by rw [hx]; decide +kernel)
  obtain ⟨g1, _⟩ := glB_ok G hg
  subst hx
  refine PI_imp (pi_range1 g1 hm (pa_cons he pa_nil (nostar_ok hn)) (nostar_ok hn)) fun σ H R ⟨rho, s, sl, RS, S, h⟩ => ?_
  simp only [evI] at h
  refine ⟨rho, s, sl, RS, S, ?_⟩
  cases e1 : ev T call c sl s with
  | bad => simp only [e1, Res.bind] at h
  | exc d fs s1 => simp only [e1, Res.bind] at h; exact h
  | ok p s1 =>
    simp only [e1, Res.bind] at h
    intro rho1 H1 v x1 R1 V1
    cases p with
    | int j =>
      simp only [VR] at V1
      subst V1
      dsimp only at h
      by_cases hb : (decide (-1000000 ≤ j) && decide (j ≤ 1000000)) = true
      · rw [if_pos hb] at h
        simp only [Bool.and_eq_true, decide_eq_true_eq] at hb
        exact ⟨j, rfl, by omega, by omega, h rho1 H1 _ x1 R1 jr_rng⟩
      · rw [if_neg hb] at h
        exact h.elim
    | _ => exact h.elim
end
end FI

namespace FI
open PySem PySem.Spec PyProof.Rows L2

/-! ### targets -/
def slotsT : E → List Nat
  | .tn i => [i]
  | .tt a => slotsT a
  | .cons a r => slotsT a ++ slotsT r
  | _ => []
def tG (K : PySem.W.Frag) (c : E) : TG := fun v σ H Q => ∃ rho s sl p sl', RSt K rho H s ∧ SlR K s.n rho H sl σ ∧ VR K s.n rho H p v ∧ lay c p sl = some sl' ∧
  ∀ σ', SlR K s.n rho H sl' σ' → σ'.length = σ.length → (∀ i, i ∉ slotsT c → σ'[i]? = σ[i]?) → Q σ' H
def tGs (K : PySem.W.Frag) (c : E) : TGs := fun vs σ H Q => ∃ rho s sl ps sl', RSt K rho H s ∧ SlR K s.n rho H sl σ ∧ VRs K s.n rho H ps vs ∧ lay c (.tup ps) sl = some sl' ∧
  ∀ σ', SlR K s.n rho H sl' σ' → σ'.length = σ.length → (∀ i, i ∉ slotsT c → σ'[i]? = σ[i]?) → Q σ' H
theorem slR_set {K : PySem.W.Frag} {n : Nat} {rho : Nat → Addr} {H : Hp} {sl : Sl} {σ : L2.St} {i : Nat} {p : PV} {v : V} (S : SlR K n rho H sl σ) (h : VR K n rho H p v) : SlR K n rho H (sl.set i (some p)) (σ.set i (some v)) := by
  refine ⟨by rw [List.length_set, List.length_set]; exact S.1, fun j q e => ?_⟩
  by_cases hj : i = j
  · subst hj
    by_cases hl : i < sl.length
    · rw [List.getElem?_set_self hl] at e
      cases e
      exact ⟨v, List.getElem?_set_self (by rw [← S.1]; exact hl), h⟩
    · rw [List.getElem?_eq_none (by simpa using hl)] at e
      cases e
  · rw [List.getElem?_set_ne hj] at e
    obtain ⟨u, e1, e2⟩ := S.2 j q e
    exact ⟨u, by rw [List.getElem?_set_ne hj]; exact e1, e2⟩
section
variable {cl : Cls0} {T : Tab} {call : Nat → List PV → Sto → Res PV} {k : Nat} {N : List Str} {sc : Scope} {W : WX} {X : Cx}
theorem PG_imp {e : Expr} {t t' : TG} (h : PG X e t) (i : ∀ v σ H Q, t' v σ H Q → t v σ H Q) : PG X e t' := ⟨fun pins s σ H v u Q I r q => h.run pins s σ H v u Q I r (i v σ H Q q)⟩
theorem PGs_imp {e : List Expr} {t t' : TGs} (h : PGs X e t) (i : ∀ v σ H Q, t' v σ H Q → t v σ H Q) : PGs X e t' := ⟨fun pins s σ H v u Q I r q => h.run pins s σ H v u Q I r (i v σ H Q q)⟩
theorem g_tn (G : Good cl T call k N sc W X) {i : Nat} {x : Str} {p : Pos} (h1 : N[i]? = some x) (h2 : Loc sc x) (h3 : X.fn x = true ∨ sc.names.lookup x = some .local) : PG X (.Name x p) (tG X.K (.tn i)) :=
  PG_imp (pg_name (i := i) (by rw [G.hN]; exact G.nd) (by rw [G.hN]; exact h1) (by rw [G.hsc]; exact h2) (by rw [G.hsc]; exact h3)) fun v σ H Q ⟨rho, s, sl, q, sl', R, S, V1, e, h⟩ => by
    simp only [lay] at e
    cases e
    refine h _ (slR_set S V1) (by rw [List.length_set]) fun j hj => ?_
    simp only [slotsT, List.mem_singleton] at hj
    rw [List.getElem?_set_ne (fun z => hj z.symm)]
theorem g_tnil : PGs X [] (tGs X.K .nil) :=
  PGs_imp pgs_nil fun vs σ H Q ⟨rho, s, sl, ps, sl', R, S, V1, e, h⟩ => by
    cases ps with
    | nil =>
      simp only [lay] at e
      cases e
      simp only [VRs] at V1
      exact ⟨V1, h σ S rfl fun _ _ => rfl⟩
    | cons q qs => simp [lay] at e
theorem g_tcons {e : Expr} {es : List Expr} {a r : E} (hn : nostar e = true) (h1 : PG X e (tG X.K a)) (h2 : PGs X es (tGs X.K r)) : PGs X (e :: es) (tGs X.K (.cons a r)) := by
  have hs : (assignEach (e :: es) X.env).map (·.2) = assign e X.env :: (assignEach es X.env).map (·.2) := by cases e <;> first | rfl | cases hn
  refine PGs_imp (pgs_cons h1 h2 hs) fun vs σ H Q ⟨rho, s, sl, ps, sl', R, S, V1, e, h⟩ => ?_
  cases ps with
  | nil => simp [lay] at e
  | cons q qs =>
    simp only [lay] at e
    simp only [VRs] at V1
    obtain ⟨v, vr, rfl, V2, V3⟩ := V1
    split at e
    · rename_i sl1 e1
      refine ⟨v, vr, rfl, rho, s, sl, q, sl1, R, S, V2, e1, fun σ1 S1 l1 o1 => ?_⟩
      refine ⟨rho, s, sl1, qs, sl', R, S1, V3, e, fun σ2 S2 l2 o2 => h σ2 S2 (l2.trans l1) fun i hi => ?_⟩
      simp only [slotsT, List.mem_append, not_or] at hi
      rw [o2 i hi.2, o1 i hi.1]
    · cases e
theorem assign_len {env : Env} : ∀ es : List Expr, (assignEach es env).length = es.length
  | [] => rfl
  | e :: es => by cases e <;> (simp only [assignEach, List.length_cons, assign_len es])
theorem assign_star {env : Env} : ∀ es : List Expr, es.all nostar = true → (assignEach es env).findIdx? (·.1) = none
  | [], _ => rfl
  | e :: es, h => by
    simp only [List.all_cons, Bool.and_eq_true] at h
    have ih := assign_star (env := env) es h.2
    have hs : assignEach (e :: es) env = (false, assign e env) :: assignEach es env := by
      cases e <;> first | rfl | cases h.1
    rw [hs, List.findIdx?_cons]
    simp [ih]
/-- how many targets -/
def many : E → Nat
  | .cons _ r => many r + 1
  | _ => 0
def isLst : E → Bool
  | .nil => true
  | .cons _ r => isLst r
  | _ => false
theorem lay_many : ∀ (c : E) (ps : List PV) (sl sl' : Sl), isLst c = true → lay c (.tup ps) sl = some sl' → ps.length = many c := by
  intro c
  induction c with
  | nil =>
    intro ps sl sl' _ e
    cases ps with
    | nil => rfl
    | cons q qs => simp [lay] at e
  | cons a r iha ihr =>
    intro ps sl sl' hl e
    cases ps with
    | nil => simp [lay] at e
    | cons q qs =>
      simp only [lay] at e
      split at e
      · rename_i sl1 e1
        simp only [isLst] at hl
        rw [List.length_cons, ihr qs sl1 sl' hl e]
        rfl
      · cases e
  | _ => intro ps sl sl' hl e; cases hl
theorem g_tt (G : Good cl T call k N sc W X) {es : List Expr} {c : E} {j : Nat} {p : Pos} (hl : isLst c = true) (hm : es.length = many c) (hn : es.all nostar = true) (h : PGs X es (tGs X.K c)) : PG X (.Tuple es j p) (tG X.K (.tt c)) :=
  PG_imp (pg_tup (n := many c) G.calm h (by rw [assign_len]; exact hm) (assign_star es hn)) fun v σ H Q ⟨rho, s, sl, q, sl', R, S, V1, e, h⟩ => by
    cases q with
    | tup xs =>
      simp only [lay] at e
      simp only [VR] at V1
      obtain ⟨a, vs, rfl, t, r⟩ := V1
      exact ⟨a, vs, rfl, t, by rw [← r.len]; exact lay_many c xs sl sl' hl e, rho, s, sl, xs, sl', R, S, r, e, h⟩
    | _ => simp [lay] at e
end
end FI

namespace FI
open PySem PySem.Spec PyProof.Rows L2

abbrev WF : WX := fun _ _ _ _ => False
theorem slR_wipe {K : PySem.W.Frag} {n : Nat} {rho : Nat → Addr} {H : Hp} {sl : Sl} {σ : L2.St} (S : SlR K n rho H sl σ) : ∀ vs : List Nat, SlR K n rho H (wipeP sl vs) (wipe σ vs)
  | [] => S
  | v :: vs => by
    have ih := slR_wipe S vs
    unfold wipeP wipe
    refine ⟨by rw [List.length_set, List.length_set]; exact ih.1, fun j q e => ?_⟩
    by_cases hj : v = j
    · subst hj
      by_cases hl : v < (wipeP sl vs).length
      · rw [List.getElem?_set_self hl] at e; cases e
      · rw [List.getElem?_eq_none (by simpa using hl)] at e; cases e
    · rw [List.getElem?_set_ne hj] at e
      obtain ⟨u, e1, e2⟩ := ih.2 j q e
      exact ⟨u, by rw [List.getElem?_set_ne hj]; exact e1, e2⟩
theorem wipe_get (σ : L2.St) (i : Nat) : ∀ vs : List Nat, (wipe σ vs)[i]? = if i ∈ vs then (if i < σ.length then some none else none) else σ[i]?
  | [] => by simp [wipe]
  | v :: vs => by
    unfold wipe
    have ih := wipe_get σ i vs
    by_cases hj : v = i
    · subst hj
      rw [if_pos List.mem_cons_self]
      by_cases hl : v < σ.length
      · rw [if_pos hl, List.getElem?_set_self (by rw [wipe_length]; exact hl)]
      · rw [if_neg hl, List.getElem?_eq_none (by rw [List.length_set, wipe_length]; omega)]
    · rw [List.getElem?_set_ne hj, ih]
      have e : (i ∈ v :: vs) = (i ∈ vs) := by
        apply propext
        rw [List.mem_cons]
        exact ⟨fun h => h.elim (fun z => absurd z.symm hj) id, .inr⟩
      simp only [e]
/-- slots of the block's own alone are laid -/
theorem wipe_laid {σ σ2 : L2.St} {vs : List Nat} {ts : List Nat} (hl : σ2.length = (wipe σ vs).length) (ho : ∀ i, i ∉ ts → σ2[i]? = (wipe σ vs)[i]?) (sub : ∀ i ∈ ts, i ∈ vs) : wipe σ2 vs = wipe σ vs := by
  rw [wipe_length] at hl
  apply List.ext_getElem?
  intro i
  rw [wipe_get, wipe_get σ]
  by_cases hi : i ∈ vs
  · rw [if_pos hi, if_pos hi, hl]
  · rw [if_neg hi, if_neg hi]
    rw [ho i fun z => hi (sub i z), wipe_get, if_neg hi]
def noSet : Expr → Bool
  | .Set .. => false
  | _ => true
theorem noSet_ok {e : Expr} {env : Env} (h : noSet e = true) : ∀ x, foldedSetIterable e env x = pure x := by
  intro x
  cases e <;> first | rfl | cases h

/-- an object of the store is not the one that is being made -/
theorem soNe {H : Hp} {D b : Addr} {o w : HO} {t : Bool} (eD : H D = some o) (e : H b = some w) (k : t = true ∨ ∃ q x, w = .frz q x) (lv : t = true → b ≠ D) (of : ∀ x y, o ≠ .frz x y := by intro _ _ z; cases z) : b ≠ D := by
  rcases k with k | ⟨q, x, rfl⟩
  · exact lv k
  · intro z
    rw [z, eD] at e
    exact of q x (Option.some.inj e)
section
variable {cl : Cls0} {T : Tab} {call : Nat → List PV → Sto → Res PV} {k : Nat} {N : List Str} {sc : Scope} {W : WX} {X : Cx}
theorem good_blk (G : Good cl T call k N sc W X) (s : Shared) (H : Hp) (scope : Scope) (C : Addr) (cls : List (Str × Addr)) (fp : List Addr) : Good cl T call k N (relS scope sc) WF (X.blk s H scope (compEnvC scope cls C X.env) fp) where
  hN := G.hN
  nd := G.nd
  hsc := by rw [← G.hsc]; rfl
  calm := G.calm
  room := G.room
  facts := G.facts
  pass := fun σ pins H s e s' I c => by
    obtain ⟨a, B, H', cls, d, _, _, _, _, _, _, _, z⟩ := c
    exact z.elim
/-- a comprehension's turn -/
def bodyC (T : Tab) (call : Nat → List PV → Sto → Res PV) (tg c elt : E) (σ0 : Sl) (x : PV) (s2 : Sto) : Res (Option PV) := match lay tg x σ0 with
  | none => .bad
  | some σ1 => match ev T call c σ1 s2 with
    | .ok (.bl true) s3 => match ev T call elt σ1 s3 with
      | .ok y s4 => .ok (some y) s4
      | _ => .bad
    | .ok (.bl false) s3 => .ok none s3
    | _ => .bad
def finC (ys : List PV) (s5 : Sto) : Res PV := if ys.length ≤ cap then .ok (.lst s5.n) (s5.new (.lst ys)) else .bad

theorem turns_ok {own : List (Str × Nat)} {tg c elt : E} {σ : L2.St} {sl : Sl} {rho1 : Nat → Addr} {s1 : Sto} {H1 : Hp} {Q : VK} {J : L2.It} {j : It} {D : Addr} (sub : ∀ i ∈ slotsT tg, i ∈ own.map (·.2))
    (R1 : RSt X.K rho1 H1 s1) (S1 : SlR X.K s1.n rho1 H1 sl σ) (jr : JR X.K s1 rho1 H1 J j) (hD : H1 D = none)
    (h : Post X.K cl W σ rho1 s1 H1 ((turns j (bodyC T call tg c elt (wipeP sl (own.map (·.2)))) (j.most s1) 0 [] s1).bind finC) Q) :
    ∃ Wi : Nat → Nat → Hp → Prop, (∃ m, Wi 0 m (upd H1 D (.lst []))) ∧ ∀ i m H, Wi i m H →
      (J.stop i H ∧ Q (.ref D) H) ∨ (J.go i H ∧ ∃ Nx : Hp → Prop, (∀ H', Nx H' → ∃ m', m' < m ∧ Wi (i + 1) m' H') ∧ ∀ x H', J.yld i H x H' → tG X.K tg x (wipe σ (own.map (·.2))) H' fun σ2 H2 => wipe σ2 (own.map (·.2)) = wipe σ (own.map (·.2)) ∧
        tIT X.K cl WF T call c σ2 H2 fun b H3 => if b = true then tI X.K cl WF T call elt σ2 H3 fun y H4 => ∃ acc, H4 D = some (.lst acc) ∧ acc.length < sizeLine ∧ Nx (upd H4 D (.lst (acc ++ [y]))) else Nx H3) := by
  let Wi : Nat → Nat → Hp → Prop := fun i m H => ∃ rho s acc accP, Ext s1 rho1 rho H1 H s ∧ RSt X.K rho H s ∧ H D = some (.lst acc) ∧ (∀ q u, look q s.os = some u → tr u = true → rho q ≠ D) ∧ VRs X.K s.n rho H accP acc ∧
    Post X.K cl W σ rho1 s1 H1 ((turns j (bodyC T call tg c elt (wipeP sl (own.map (·.2)))) m i accP s).bind finC) Q
  have live1 : ∀ q u, look q s1.os = some u → tr u = true → rho1 q ≠ D := fun q u hq ht z => by
    obtain ⟨w, e, _⟩ := (R1.ok q u hq).there ht
    rw [z, hD] at e; cases e
  refine ⟨Wi, ⟨j.most s1, rho1, s1, [], [], .upd hD, R1.upd hD, upd_same, live1, by simp only [VRs], h⟩, fun i m H hW => ?_⟩
  obtain ⟨rho, s, acc, accP, x, R, eD, lv, V1, hp⟩ := hW
  obtain ⟨jgo, jstop⟩ := jr rho H s x R
  -- the end
  have fin : Post X.K cl W σ rho1 s1 H1 (finC accP s) Q → Q (.ref D) H := fun g => by
    unfold finC at g
    split at g
    · have hn : rhoNew rho s.n D s.n = D := rhoNew_at
      refine g (rhoNew rho s.n D) H (.ref D) ⟨Nat.le_trans x.le (Nat.le_succ _), fun q hq => by rw [rhoNew_lt (Nat.lt_of_lt_of_le hq x.le)]; exact x.eq q hq, x.fr, fun q u hq => ?_, fun q u hq => ?_⟩ ⟨fun q u hq => ?_, fun q u hq => ?_, fun q q' u u' hq hq' t1 t2 e => ?_⟩ (by simp only [VR]; exact ⟨Nat.lt_succ_self _, by rw [hn]⟩)
      · obtain ⟨w, hw, hwt⟩ := x.st q u hq
        exact ⟨w, look_new_old (Nat.ne_of_lt (R.lt q w hw)) hw, hwt⟩
      · rcases look_new hq with ⟨z, _⟩ | ⟨_, z⟩
        · exact .inr ⟨by rw [z]; exact x.le, by rw [z, hn]; exact hD⟩
        · rcases x.nw q u z with z1 | ⟨z1, z2⟩
          · exact .inl z1
          · exact .inr ⟨z1, by rw [rhoNew_lt (R.lt q u z)]; exact z2⟩
      · rcases look_new hq with ⟨z, z2⟩ | ⟨_, z⟩
        · subst z; subst z2
          exact ⟨acc, by rw [hn]; exact eD, VRs.mono (Nat.le_succ _) (fun i h => rhoNew_lt h) (fun _ _ t => t) _ _ V1⟩
        · exact sok_mono (Nat.le_succ _) (fun i h => rhoNew_lt h) (fun _ _ t => t) (R.lt q u z) (fun _ e _ => e) (R.ok q u z)
      · rcases look_new hq with ⟨z, _⟩ | ⟨_, z⟩
        · rw [z]; exact Nat.lt_succ_self _
        · exact Nat.lt_succ_of_lt (R.lt q u z)
      · rcases look_new hq with ⟨z, _⟩ | ⟨_, z⟩
        · rcases look_new hq' with ⟨z', _⟩ | ⟨_, z'⟩
          · rw [z, z']
          · rw [z, hn, rhoNew_lt (R.lt q' u' z')] at e
            exact absurd e.symm (lv q' u' z' t2)
        · rcases look_new hq' with ⟨z', _⟩ | ⟨_, z'⟩
          · rw [z', hn, rhoNew_lt (R.lt q u z)] at e
            exact absurd e (lv q u z t1)
          · rw [rhoNew_lt (R.lt q u z), rhoNew_lt (R.lt q' u' z')] at e
            exact R.inj q q' u u' z z' t1 t2 e
    · exact g.elim
  cases m with
  | zero =>
    simp only [turns] at hp
    split at hp
    · rename_i e
      exact .inl ⟨jstop i e, fin hp⟩
    · exact hp.elim
  | succ m =>
    simp only [turns] at hp
    split at hp
    · rename_i v e
      obtain ⟨go, yl⟩ := jgo i v e
      refine .inr ⟨go, Wi (i + 1) m, fun H' hN => ⟨m, Nat.lt_succ_self _, hN⟩, fun y H' hy => ?_⟩
      obtain ⟨x2, R2, V2⟩ := yl y H' hy
      have eD2 : H' D = some (.lst acc) := x2.fr D _ eD lv
      have S2 : SlR X.K s.n rho H' sl σ := (S1.mono x R1).mono x2 R
      cases el : lay tg v (wipeP sl (own.map (·.2))) with
      | none => simp only [bodyC, el] at hp; exact hp.elim
      | some sl1 =>
        simp only [bodyC, el] at hp
        refine ⟨rho, s, wipeP sl (own.map (·.2)), v, sl1, R2, slR_wipe S2 _, V2, el, fun σ2 S3 l2 o2 => ?_⟩
        refine ⟨wipe_laid l2 o2 sub, ?_⟩
        have x12 := x.trans x2 R1 R
        refine ⟨rho, s, sl1, R2, S3, ?_⟩
        cases ec : ev T call c sl1 s with
        | bad => simp only [ec] at hp; exact hp.elim
        | exc d fs s3 => simp only [ec] at hp; exact hp.elim
        | ok b s3 =>
          simp only [ec] at hp
          intro rho3 H3 u x3 R3 V3
          have eD3 : H3 D = some (.lst acc) := x3.fr D _ eD2 lv
          have lv3 : ∀ q w, look q s3.os = some w → tr w = true → rho3 q ≠ D := fun q w hq ht => by
            rcases x3.nw q w hq with ⟨w', hw', ht'⟩ | ⟨_, z⟩
            · rw [x3.eq q (R2.lt q w' hw')]; exact lv q w' hw' (by rw [ht']; exact ht)
            · exact fun z2 => by rw [z2, eD2] at z; cases z
          cases b with
          | bl b =>
            simp only [VR] at V3
            refine ⟨b, V3, ?_⟩
            cases b with
            | false =>
              rw [if_neg Bool.false_ne_true]
              exact ⟨rho3, s3, acc, accP, x12.trans x3 R1 R2, R3, eD3, lv3, x3.vrs R2 (x2.vrs R V1), hp⟩
            | true =>
              rw [if_pos rfl]
              refine ⟨rho3, s3, sl1, R3, S3.mono x3 R2, ?_⟩
              cases ee : ev T call elt sl1 s3 with
              | bad => simp only [ee] at hp; exact hp.elim
              | exc d fs s4 => simp only [ee] at hp; exact hp.elim
              | ok z s4 =>
                simp only [ee] at hp
                by_cases hcap : accP.length < cap
                case neg => rw [if_neg hcap] at hp; exact hp.elim
                rw [if_pos hcap] at hp
                intro rho4 H4 zv x4 R4 V4
                have eD4 : H4 D = some (.lst acc) := x4.fr D _ eD3 lv3
                have lv4 : ∀ q w, look q s4.os = some w → tr w = true → rho4 q ≠ D := fun q w hq ht => by
                  rcases x4.nw q w hq with ⟨w', hw', ht'⟩ | ⟨_, z⟩
                  · rw [x4.eq q (R3.lt q w' hw')]; exact lv3 q w' hw' (by rw [ht']; exact ht)
                  · exact fun z2 => by rw [z2, eD3] at z; cases z
                have xx := (x12.trans x3 R1 R2).trans x4 R1 R3
                have tu : ∀ (a : Addr) (vs : List V), SqT X.K H4 a vs → SqT X.K (upd H4 D (.lst (acc ++ [zv]))) a vs := fun a vs t => by
                  rcases t with t | t
                  · rcases t with t | ⟨o, t⟩
                    · exact .inl (.inl (by rw [upd_ne (ne_of t eD4 (by intro z; cases z))]; exact t))
                    · exact .inl (.inr ⟨o, by rw [upd_ne (ne_of t eD4 (by intro z; cases z))]; exact t⟩)
                  · exact .inr t
                have V1' := x4.vrs R3 (x3.vrs R2 (x2.vrs R V1))
                refine ⟨acc, eD4, ?_, rho4, s4, acc ++ [zv], accP ++ [z], ⟨xx.le, xx.eq, fun b o e nb => ?_, xx.st, xx.nw⟩, ⟨fun q w hq => ?_, R4.lt, R4.inj⟩, upd_same, lv4, VRs.mono (Nat.le_refl _) (fun _ _ => rfl) tu _ _ (V1'.app (by simp only [VRs]; exact ⟨zv, [], rfl, V4, rfl⟩)), hp⟩
                · rw [← V1'.len]; exact Nat.lt_of_lt_of_le hcap (cap_line (Nat.le_refl _))
                · have ne : b ≠ D := fun z => by rw [z, hD] at e; cases e
                  rw [upd_ne ne]
                  exact xx.fr b o e nb
                · exact sok_mono (Nat.le_refl _) (fun _ _ => rfl) tu (R4.lt q w hq) (fun u e k => by rw [upd_ne (soNe eD4 e k (lv4 q w hq))]; exact e) (R4.ok q w hq)
          | _ => exact hp.elim
    · rename_i e
      exact .inl ⟨jstop i e, fin hp⟩
    · exact hp.elim
end
end FI

namespace FI
open PySem PySem.Spec PyProof.Rows L2

/-- the cells that a comprehension's block may store -/
def fnC (scope : Scope) : Str → Bool := fun x => scope.names.lookup x == some .cell
section
variable {cl : Cls0} {T : Tab} {call : Nat → List PV → Sto → Res PV} {k : Nat} {N : List Str} {sc : Scope} {W : WX} {X : Cx}
theorem PTs_imp {ifs : List Expr} {t t' : TT} (h : PTs X ifs t) (i : ∀ σ H Q, t' σ H Q → t σ H Q) : PTs X ifs t' := ⟨fun pins s σ H Q I q => h.run pins s σ H Q I (i σ H Q q)⟩
/-- what does not stand in the way -/
theorem g_never {e : Expr} : PE X e (tI X.K cl W T call .never) := ⟨fun _ _ _ _ _ _ ⟨_, _, _, _, _, h⟩ => by simp only [ev] at h; exact h.elim⟩
theorem g_neverT {e : Expr} : PT X e (tIT X.K cl W T call .never) := ⟨fun _ _ _ _ _ _ ⟨_, _, _, _, _, h⟩ => by simp only [ev] at h; exact h.elim⟩
theorem pts_yes : PTs X [] (tIT X.K cl W T call (.bl true)) :=
  PTs_imp pts_nil fun σ H Q ⟨rho, s, sl, R, S, h⟩ => by
    simp only [ev] at h
    obtain ⟨b, e, q⟩ := h.same (v := .bl true) R (by simp only [VR])
    cases e
    exact q
/-- the reading of a comprehension -/
theorem comp_read {own : List (Str × Nat)} {tg it c elt : E} (sub : ∀ i ∈ slotsT tg, i ∈ own.map (·.2)) {σ : L2.St} {H : Hp} {Q : VK} (h : tI X.K cl W T call (.comp own tg it c elt) σ H Q) :
    tLc (tII X.K cl W T call it) (tG X.K tg) (tIT X.K cl WF T call c) (tI X.K cl WF T call elt) (own.map (·.2)) σ H Q := by
  obtain ⟨rho, s, sl, R, S, h⟩ := h
  simp only [ev] at h
  refine ⟨rho, s, sl, R, S, ?_⟩
  cases e : evI T call it sl s with
  | bad => simp only [e, Res.bind] at h; exact h
  | exc d fs s1 => simp only [e, Res.bind] at h; exact h
  | ok j s1 =>
    simp only [e, Res.bind] at h
    intro rho1 H1 J x1 R1 jr D hD
    have h1 : Post X.K cl W σ rho1 s1 H1 ((turns j (bodyC T call tg c elt (wipeP sl (own.map (·.2)))) (j.most s1) 0 [] s1).bind finC) Q := Post.later (s' := s1) h x1 R R1
    exact turns_ok sub R1 (S.mono x1 R) jr hD h1
theorem g_comp (G : Good cl T call k N sc W X) {own : List (Str × Nat)} {tg it c elt : E} {tge itere elte : Expr} {ifs : List Expr} {scope : Scope} {pos : Pos} (sub : ∀ i ∈ slotsT tg, i ∈ own.map (·.2))
    (hi : PI X tge itere (tII X.K cl W T call it)) (ok : BlkOk N sc scope own) (hs : noSet itere = true)
    (hg : ∀ (Y : Cx), Good cl T call k N (relS scope sc) WF Y → Y.K = X.K → Y.fn = fnC scope → PG Y tge (tG X.K tg)) (ht : ∀ (Y : Cx), Good cl T call k N (relS scope sc) WF Y → Y.K = X.K → Y.fn = fnC scope → PTs Y ifs (tIT X.K cl WF T call c))
    (he : ∀ (Y : Cx), Good cl T call k N (relS scope sc) WF Y → Y.K = X.K → Y.fn = fnC scope → PE Y elte (tI X.K cl WF T call elt)) :
    PE X (.ListComp elte [⟨tge, itere, ifs, 0⟩] scope pos) (tI X.K cl W T call (.comp own tg it c elt)) := by
  have ok' : BlkOk X.N X.env.scope scope own := by rw [G.hN, G.hsc]; exact ok
  exact PE_imp (pe_lc G.calm (by rw [G.hN]; exact G.nd) hi ok' (fun s H C cls fp => hg _ (good_blk G s H scope C cls fp) rfl rfl) (fun s H C cls fp => ht _ (good_blk G s H scope C cls fp) rfl rfl) (fun s H C cls fp => he _ (good_blk G s H scope C cls fp) rfl rfl) (noSet_ok hs)) fun σ H Q h => comp_read sub h
/-- name = [..] on one line -/
theorem g_setC (G : Good cl T call k N sc W X) {own : List (Str × Nat)} {tg it c elt : E} {tge itere elte : Expr} {ifs : List Expr} {scope : Scope} {pos spos py : Pos} {i : Nat} {y : Str} (hy : N[i]? = some y) (hyl : sc.names.lookup y = some .local) (hk : sc.kind = .function) (hl : (py.line == pos.line) = true)
    (hn : (scope.names.any fun (n, k) => n == y && (k == .local || k == .cell)) = false) (sub : ∀ i ∈ slotsT tg, i ∈ own.map (·.2))
    (hi : PI X tge itere (tII X.K cl W T call it)) (ok : BlkOk N sc scope own) (hs : noSet itere = true)
    (hg : ∀ (Y : Cx), Good cl T call k N (relS scope sc) WF Y → Y.K = X.K → Y.fn = fnC scope → PG Y tge (tG X.K tg)) (ht : ∀ (Y : Cx), Good cl T call k N (relS scope sc) WF Y → Y.K = X.K → Y.fn = fnC scope → PTs Y ifs (tIT X.K cl WF T call c))
    (he : ∀ (Y : Cx), Good cl T call k N (relS scope sc) WF Y → Y.K = X.K → Y.fn = fnC scope → PE Y elte (tI X.K cl WF T call elt)) :
    PS X (.Assign [.Name y py] (.ListComp elte [⟨tge, itere, ifs, 0⟩] scope pos) spos) (tAsg (tI X.K cl W T call (.comp own tg it c elt)) (gName i)) := by
  have ok' : BlkOk X.N X.env.scope scope own := by rw [G.hN, G.hsc]; exact ok
  have h := ps_setLc (spos := spos) (pos := pos) (py := py) (i := i) G.calm (by rw [G.hN]; exact G.nd) (by rw [G.hN]; exact hy) (by rw [G.hsc]; exact hyl) (sw_true (by rw [G.hsc]; exact hk) (by rw [G.hsc]; exact hyl) hl hn) hi ok' (fun s H C cls fp => hg _ (good_blk G s H scope C cls fp) rfl rfl) (fun s H C cls fp => ht _ (good_blk G s H scope C cls fp) rfl rfl) (fun s H C cls fp => he _ (good_blk G s H scope C cls fp) rfl rfl) (noSet_ok hs)
  exact ⟨fun pins s σ H D I q => h.run pins s σ H D I (comp_read sub q)⟩
/-! ### stars, dicts -/
theorem a_star {e : Expr} {es : List Expr} {ca cr : E} {p : Pos} (he : PE X e (tI X.K cl W T call ca)) (hr : PA X es (tIA X.K cl W T call cr)) : PA X (.Starred e p :: es) (tIA X.K cl W T call (.star ca cr)) :=
  PA_imp (StX.pa_star he hr) fun σ H Q ⟨rho, s, sl, R, S, h⟩ => by
    simp only [ev] at h
    refine ⟨rho, s, sl, R, S, ?_⟩
    cases e1 : ev T call ca sl s with
    | bad => simp only [e1, Res.bind] at h
    | exc c fs s1 => simp only [e1, Res.bind] at h; exact h
    | ok p s1 =>
      simp only [e1, Res.bind] at h
      intro rho1 H1 v x1 R1 V1
      cases es : seqOf s1 p with
      | none => simp only [es] at h
      | some xs =>
        simp only [es] at h
        obtain ⟨a, us, rfl, t, r⟩ := seqOf_ok R1 es V1
        refine ⟨a, us, rfl, t.symm, rho1, s1, sl, R1, S.mono x1 R, ?_⟩
        cases e2 : ev T call cr sl s1 with
        | bad => simp only [e2] at h
        | exc c fs s2 => simp only [e2] at h; exact Post.later (s' := s1) h x1 R R1
        | ok q s2 =>
          simp only [e2] at h
          cases q with
          | tup ps => exact fun rho2 H2 vs x2 R2 V2 => h rho2 H2 (us ++ vs) (x1.trans x2 R R1) R2 ((x2.vrs R1 r).app V2)
          | _ => exact h
theorem keyOf_ok {K : PySem.W.Frag} {n : Nat} {rho : Nat → Addr} {H : Hp} {p : PV} {v : V} {kk : Key} (e : keyOf p = some kk) (h : VR K n rho H p v) : v = kV kk := by
  cases p with
  | int i => simp only [keyOf] at e; cases e; simp only [VR] at h; exact h
  | str i => simp only [keyOf] at e; cases e; simp only [VR] at h; exact h
  | _ => simp [keyOf] at e
theorem valP_ok {K : PySem.W.Frag} {n : Nat} {rho : Nat → Addr} {H : Hp} {kk : Key} : ∀ {kvs : List (Key × PV)} {ws : List (Key × V)} {p : PV}, ws.map (·.1) = kvs.map (·.1) → VRs K n rho H (kvs.map (·.2)) (ws.map (·.2)) → valP kk kvs = some p → ∃ v, valV ws kk = some v ∧ VR K n rho H p v
  | [], ws, p, _, _, e => by simp [valP] at e
  | (j, u) :: r, ws, p, hk, hv, e => by
    cases ws with
    | nil => simp at hk
    | cons w ws =>
      obtain ⟨j', w⟩ := w
      simp only [List.map_cons, List.cons.injEq] at hk
      simp only [List.map_cons, VRs] at hv
      obtain ⟨v, rr, e2, h1, h2⟩ := hv
      obtain ⟨rfl, rfl⟩ := List.cons.inj e2
      obtain ⟨rfl, hk⟩ := hk
      simp only [valP] at e
      by_cases z : j' = kk
      · rw [if_pos (decide_eq_true z)] at e
        cases e
        exact ⟨_, valV_pos (p := (j', w)) z, h1⟩
      · rw [if_neg (by simpa using z)] at e
        obtain ⟨v, e1, e2⟩ := valP_ok hk h2 e
        exact ⟨v, by rw [valV_neg (p := (j', w)) z]; exact e1, e2⟩
theorem getD_ok {K : PySem.W.Frag} {rho : Nat → Addr} {H : Hp} {s : Sto} {i : Nat} {kvs : List (Key × PV)} (R : RSt K rho H s) (h : getD s i = some kvs) : ∃ ws, H (rho i) = some (.dK ws) ∧ ws.map (·.1) = kvs.map (·.1) ∧ VRs K s.n rho H (kvs.map (·.2)) (ws.map (·.2)) := by
  unfold getD at h
  split at h
  · rename_i ys e
    cases h
    exact R.ok _ _ e
  · cases h
theorem noSl_ok {e : Expr} (h : plainIx e = true) : NoSl e := by
  intro o i
  cases e <;> first | rfl | cases h
theorem g_dix (G : Good cl T call k N sc W X) {a b : Expr} {ca cb : E} {p : Pos} (hs : plainIx b = true) (ha : PE X a (tI X.K cl W T call ca)) (hb : PE X b (tI X.K cl W T call cb)) : PE X (.Subscript a b p) (tI X.K cl W T call (.dix ca cb)) :=
  PE_imp (pe_dget (by have := G.un; omega) ha hb (noSl_ok hs)) fun σ H Q ⟨rho, s, sl, R, S, h⟩ => by
    simp only [ev] at h
    refine tI_imp (tI_seq R S h) fun v H1 ⟨rho1, s1, p, x1, R1, S1, V1, h1⟩ => ?_
    refine tI_imp (tI_seq R1 S1 h1) fun u H2 ⟨rho2, s2, q, x2, R2, S2, V2, h2⟩ => ?_
    have V1' := x2.vr R1 V1
    cases p with
    | dct i =>
      simp only [VR] at V1'
      obtain ⟨_, rfl⟩ := V1'
      dsimp only at h2
      split at h2
      · rename_i kvs kk e1 e2
        split at h2
        · rename_i y e3
          obtain ⟨ws, d1, d2, d3⟩ := getD_ok R2 e1
          obtain ⟨v, d4, d5⟩ := valP_ok d2 d3 e3
          have := keyOf_ok e2 V2
          subst this
          exact ⟨_, v, rfl, by rw [← d4]; exact DGet.k d1, h2.same R2 d5⟩
        · exact h2.elim
      · exact h2.elim
    | _ => exact h2.elim
end
end FI

namespace FI
open PySem PySem.Spec PyProof.Rows L2

section
variable {K : PySem.W.Frag} {rho : Nat → Addr} {H : Hp} {s : Sto}
theorem look_put {i j : Nat} {o : SO} : ∀ {os : List (Nat × SO)} {w : SO}, look j (put i o os) = some w → (j = i ∧ w = o) ∨ (j ≠ i ∧ look j os = some w)
  | [], w, h => by simp [put, look] at h
  | (n, u) :: r, w, h => by
    simp only [put] at h
    split at h
    · rename_i e
      have e := Nat.eq_of_beq_eq_true e
      subst e
      simp only [look] at h ⊢
      split at h
      · rename_i e2
        exact .inl ⟨Nat.eq_of_beq_eq_true e2, (Option.some.inj h).symm⟩
      · rename_i e2
        refine .inr ⟨fun z => e2 (by rw [z]; exact Nat.beq_refl _), ?_⟩
        rw [if_neg e2]; exact h
    · rename_i e
      simp only [look] at h ⊢
      split at h
      · rename_i e2
        have e2' := Nat.eq_of_beq_eq_true e2
        refine .inr ⟨fun z => e (by rw [← e2', z]; exact Nat.beq_refl _), ?_⟩
        rw [if_pos e2]; exact h
      · rename_i e2
        rcases look_put h with z | ⟨z1, z2⟩
        · exact .inl z
        · exact .inr ⟨z1, by rw [if_neg e2]; exact z2⟩
theorem put_look {i j : Nat} {o x : SO} (ht : tr o = tr x) : ∀ {os : List (Nat × SO)} {w : SO}, look i os = some x → look j os = some w → ∃ u, look j (put i o os) = some u ∧ tr u = tr w
  | [], w, hx, h => by simp [look] at h
  | (n, u) :: r, w, hx, h => by
    simp only [put]
    split
    · rename_i e0
      simp only [look] at h hx ⊢
      rw [if_pos e0] at hx
      split
      · rename_i e
        rw [if_pos e] at h
        cases h; cases hx
        exact ⟨o, rfl, ht⟩
      · rename_i e; rw [if_neg e] at h; exact ⟨w, h, rfl⟩
    · rename_i e0
      simp only [look] at h hx ⊢
      rw [if_neg e0] at hx
      split
      · rename_i e
        rw [if_pos e] at h
        cases h
        exact ⟨_, rfl, rfl⟩
      · rename_i e; rw [if_neg e] at h; exact put_look ht hx h
/-- an object of the store is written -/
theorem put_obj {i : Nat} {o u : SO} {w : HO} (R : RSt K rho H s) (hi : look i s.os = some u) (hu : tr u = true) (ho1 : tr o = true) (of1 : ∀ q xs, H (rho i) ≠ some (.frz q xs)) (nt : ∀ xs, w ≠ .tup xs) (ot : ∀ xs, H (rho i) ≠ some (.tup xs)) (of : ∀ q xs, H (rho i) ≠ some (.frz q (.tup xs)))
    (ho : (∀ a vs, SqT K H a vs → SqT K (upd H (rho i) w) a vs) → SOk K s.n rho (upd H (rho i) w) i o) :
    Ext s rho rho H (upd H (rho i) w) ⟨s.n, put i o s.os⟩ ∧ RSt K rho (upd H (rho i) w) ⟨s.n, put i o s.os⟩ := by
  have tu : ∀ (a : Addr) (vs : List V), SqT K H a vs → SqT K (upd H (rho i) w) a vs := fun a vs t => by
    rcases t with t | t
    · rcases t with t | ⟨q, t⟩
      · exact .inl (.inl (by rw [upd_ne (fun z => ot vs (by rw [← z]; exact t))]; exact t))
      · exact .inl (.inr ⟨q, by rw [upd_ne (fun z => of q vs (by rw [← z]; exact t))]; exact t⟩)
    · exact .inr t
  refine ⟨⟨Nat.le_refl _, fun _ _ => rfl, fun b x e nb => ?_, fun j x h => put_look (by rw [hu, ho1]) hi h, fun j x h => ?_⟩, ⟨fun j x h => ?_, fun j x h => ?_, fun j k x y h h' t1 t2 e => ?_⟩⟩
  · rw [upd_ne (fun z => nb i u hi hu z.symm)]; exact e
  · rcases look_put h with ⟨z, z2⟩ | ⟨_, z⟩
    · exact .inl ⟨u, by rw [z]; exact hi, by rw [z2, hu, ho1]⟩
    · exact .inl ⟨x, z, rfl⟩
  · rcases look_put h with ⟨z, z2⟩ | ⟨z1, z⟩
    · subst z; subst z2; exact ho tu
    · refine sok_mono (Nat.le_refl _) (fun _ _ => rfl) tu (R.lt j x z) (fun y e k => ?_) (R.ok j x z)
      rw [upd_ne (fun q => ?_)]; exact e
      rcases k with k | ⟨f1, f2, k⟩
      · exact z1 (R.inj j i x u z hi k hu q)
      · rw [q, k] at e; exact of1 _ _ e
  · rcases look_put h with ⟨z, _⟩ | ⟨_, z⟩
    · rw [z]; exact R.lt i u hi
    · exact R.lt j x z
  · have g : ∀ {j : Nat} {x : SO}, look j (put i o s.os) = some x → tr x = true → ∃ y, look j s.os = some y ∧ tr y = true := fun {j x} h ht => by
      rcases look_put h with ⟨z, _⟩ | ⟨_, z⟩
      · exact ⟨u, by rw [z]; exact hi, hu⟩
      · exact ⟨x, z, ht⟩
    obtain ⟨x', hx, tx⟩ := g h t1
    obtain ⟨y', hy, ty⟩ := g h' t2
    exact R.inj j k x' y' hx hy tx ty e
theorem getW_look {i : Nat} {xs : List PV} (h : getW s i = some xs) : look i s.os = some (.lst xs) := by
  unfold getW at h
  split at h
  · rename_i e; cases h; exact e
  · cases h
theorem getD_look {i : Nat} {xs : List (Key × PV)} (h : getD s i = some xs) : look i s.os = some (.dct xs) := by
  unfold getD at h
  split at h
  · rename_i e; cases h; exact e
  · cases h
theorem put_lst {i : Nat} {xs ys : List PV} {us : List V} (R : RSt K rho H s) (h : getW s i = some xs) (e : VRs K s.n rho H ys us) :
    Ext s rho rho H (upd H (rho i) (.lst us)) ⟨s.n, put i (.lst ys) s.os⟩ ∧ RSt K rho (upd H (rho i) (.lst us)) ⟨s.n, put i (.lst ys) s.os⟩ := by
  obtain ⟨vs, h1, _⟩ := getW_ok R h
  exact put_obj R (getW_look h) rfl rfl (fun _ _ z => by rw [h1] at z; cases z) (fun _ z => nomatch z) (fun _ z => by rw [h1] at z; cases z) (fun _ _ z => by rw [h1] at z; cases z) fun tu => ⟨us, upd_same, VRs.mono (Nat.le_refl _) (fun _ _ => rfl) tu _ _ e⟩
theorem put_dct {i : Nat} {xs ys : List (Key × PV)} {us : List (Key × V)} (R : RSt K rho H s) (h : getD s i = some xs) (ek : us.map (·.1) = ys.map (·.1)) (e : VRs K s.n rho H (ys.map (·.2)) (us.map (·.2))) :
    Ext s rho rho H (upd H (rho i) (.dK us)) ⟨s.n, put i (.dct ys) s.os⟩ ∧ RSt K rho (upd H (rho i) (.dK us)) ⟨s.n, put i (.dct ys) s.os⟩ := by
  obtain ⟨vs, h1, _⟩ := getD_ok R h
  exact put_obj R (getD_look h) rfl rfl (fun _ _ z => by rw [h1] at z; cases z) (fun _ z => nomatch z) (fun _ z => by rw [h1] at z; cases z) (fun _ _ z => by rw [h1] at z; cases z) fun tu => ⟨us, upd_same, ek, VRs.mono (Nat.le_refl _) (fun _ _ => rfl) tu _ _ e⟩
end
section
variable {cl : Cls0} {T : Tab} {call : Nat → List PV → Sto → Res PV} {k : Nat} {N : List Str} {sc : Scope} {W : WX} {X : Cx}
def plainBase : Expr → Bool
  | .Name .. => true
  | .Subscript .. => true
  | _ => false
/-- xs.append(e) -/
theorem g_app {o e : Expr} {ca cb : E} {apos cpos : Pos} {nm : Str} (hn : nm = "append") (hb : attributeBase o nm X.env (eval o X.env) = eval o X.env) (hl : (apos.endLine == cpos.line) = true) (h1 : nostar e = true)
    (ho : PE X o (tI X.K cl W T call ca)) (he : PE X e (tI X.K cl W T call cb)) : PE X (.Call (.Attribute o nm apos) [e] [] cpos) (tI X.K cl W T call (.app ca cb)) := by
  subst hn
  have hs : starEach [e] X.env = [(false, eval e X.env)] := nostar_ok h1
  refine PE_imp (pe_bm PySem.F.plainAttrs_list PySem.F.slot_list_append PySem.F.type_list_append mt_append ho (pa_cons he pa_nil hs) hb (by rw [hs]; rfl) hl hs (by rfl)) fun σ H Q ⟨rho, s, sl, R, S, h⟩ => ?_
  simp only [ev] at h
  refine tI_imp (tI_seq R S h) fun v H1 ⟨rho1, s1, p, x1, R1, S1, V1, g1⟩ => ?_
  cases p with
  | lst i =>
    simp only [VR] at V1
    obtain ⟨hi, rfl⟩ := V1
    dsimp only at g1
    split at g1
    · rename_i xs0 e0
      obtain ⟨vs0, t0, _⟩ := getW_ok R1 e0
      refine ⟨.inl ⟨rfl, vs0, .inl (.inl t0)⟩, ?_⟩
      refine tI_imp (tI_seq R1 S1 g1) fun u H2 ⟨rho2, s2, q, x2, R2, S2, V2, g2⟩ => ?_
      split at g2
      · rename_i xs e1
        split at g2
        · rename_i hc
          obtain ⟨vs, t, r⟩ := getW_ok R2 e1
          rw [x2.eq i hi] at t
          have hr : rho2 i = rho1 i := x2.eq i hi
          refine ⟨_, vs, u, rfl, rfl, t, ?_, ?_⟩
          · rw [← r.len]; exact Nat.lt_of_lt_of_le hc (cap_line (Nat.le_refl _))
          · obtain ⟨y1, y2⟩ := put_lst (ys := xs ++ [q]) (us := vs ++ [u]) R2 e1 (r.app (by simp only [VRs]; exact ⟨u, [], rfl, V2, rfl⟩))
            rw [hr] at y1 y2
            exact g2 rho2 _ .non y1 y2 (by simp only [VR])
        · exact g2.elim
      · exact g2.elim
    · exact g1.elim
  | _ => exact g1.elim
/-! ### a dict's display -/
/-- keys and values in turn -/
inductive PP (X : Cx) (cl : Cls0) (W : WX) (T : Tab) (call : Nat → List PV → Sto → Res PV) : List (Option Expr) → List Expr → E → Prop
  | nil : PP X cl W T call [] [] .nil
  | cons {k v : Expr} {ks : List (Option Expr)} {vs : List Expr} {ck cv cr : E} : PE X k (tI X.K cl W T call ck) → PE X v (tI X.K cl W T call cv) → PP X cl W T call ks vs cr → PP X cl W T call (some k :: ks) (v :: vs) (.cons ck (.cons cv cr))
theorem pairs_read {K : PySem.W.Frag} {σ : L2.St} {sl : Sl} {Q : List (V × V) → Hp → Prop} : ∀ (c : E) (trs : List (TE × TE)), True → True := fun _ _ _ => trivial
def trsOf (K : PySem.W.Frag) (cl : Cls0) (W : WX) (T : Tab) (call : Nat → List PV → Sto → Res PV) : E → List (TE × TE)
  | .cons ck (.cons cv cr) => (tI K cl W T call ck, tI K cl W T call cv) :: trsOf K cl W T call cr
  | _ => []
theorem pps_of {pos : Pos} {ks : List (Option Expr)} {vs : List Expr} {c : E} (h : PP X cl W T call ks vs c) : PPs X pos ks vs (trsOf X.K cl W T call c) ∧ ks.all (·.isSome) = true ∧ ks.length = vs.length := by
  induction h with
  | nil => exact ⟨pps_nil, rfl, rfl⟩
  | cons hk hv _ ih => exact ⟨pps_cons hk hv ih.1, by rw [List.all_cons, ih.2.1]; rfl, by rw [List.length_cons, List.length_cons, ih.2.2]⟩
def flatPairs : List (V × V) → List V
  | [] => []
  | (x, y) :: r => x :: y :: flatPairs r
theorem trs_read {σ : L2.St} {sl : Sl} {ks : List (Option Expr)} {vs : List Expr} {c : E} (hp : PP X cl W T call ks vs c) : ∀ {rho : Nat → Addr} {s : Sto} {H : Hp} {Q : List (V × V) → Hp → Prop}, RSt X.K rho H s → SlR X.K s.n rho H sl σ →
    (match ev T call c sl s with
      | .ok (.tup ps) s' => ∀ rho' H' us, Ext s rho rho' H H' s' → RSt X.K rho' H' s' → VRs X.K s'.n rho' H' ps (flatPairs us) → Q us H'
      | .ok _ _ => False
      | .exc c fs s' => Post X.K cl W σ rho s H (.exc c fs s') (fun _ _ => False)
      | .bad => False) → tPairs (trsOf X.K cl W T call c) σ H Q := by
  induction hp with
  | nil =>
    intro rho s H Q R S h
    simp only [ev] at h
    exact h rho H [] .refl R (by simp only [flatPairs, VRs])
  | @cons k v ks vs ck cv cr hk hv hr ih =>
    intro rho s H Q R S h
    show tI X.K cl W T call ck σ H fun x H1 => tI X.K cl W T call cv σ H1 fun y H2 => tPairs (trsOf X.K cl W T call cr) σ H2 fun ps H3 => Q ((x, y) :: ps) H3
    simp only [ev] at h
    refine ⟨rho, s, sl, R, S, ?_⟩
    cases e1 : ev T call ck sl s with
    | bad => simp only [e1] at h
    | exc c fs s1 => simp only [e1] at h; exact h
    | ok p s1 =>
      simp only [e1] at h
      intro rho1 H1 x x1 R1 V1
      refine ⟨rho1, s1, sl, R1, S.mono x1 R, ?_⟩
      cases e2 : ev T call cv sl s1 with
      | bad => simp only [e2] at h
      | exc c fs s2 => simp only [e2] at h; exact Post.later (s' := s1) h x1 R R1
      | ok q s2 =>
        simp only [e2] at h
        intro rho2 H2 y x2 R2 V2
        have x12 := x1.trans x2 R R1
        refine ih R2 ((S.mono x1 R).mono x2 R1) ?_
        cases e3 : ev T call cr sl s2 with
        | bad => simp only [e3] at h
        | exc c fs s3 => simp only [e3] at h; exact Post.later (s' := s2) h x12 R R2
        | ok r s3 =>
          simp only [e3] at h
          cases r with
          | tup ps =>
            intro rho3 H3 us x3 R3 V3
            exact h rho3 H3 ((x, y) :: us) (x12.trans x3 R R2) R3 (by simp only [flatPairs, VRs]; exact ⟨x, _, rfl, x3.vr R2 (x2.vr R1 V1), y, _, rfl, x3.vr R2 V2, V3⟩)
          | _ => exact h
theorem pairsP_ok {K : PySem.W.Frag} {n : Nat} {rho : Nat → Addr} {H : Hp} : ∀ {us : List (V × V)} {ps : List PV} {kvs : List (Key × PV)}, pairsP ps = some kvs → VRs K n rho H ps (flatPairs us) →
    ∃ ws : List (Key × V), us = ws.map (fun kv => (kV kv.1, kv.2)) ∧ ws.map (·.1) = kvs.map (·.1) ∧ VRs K n rho H (kvs.map (·.2)) (ws.map (·.2))
  | [], ps, kvs, e, h => by
    cases ps with
    | nil => simp only [pairsP] at e; cases e; exact ⟨[], rfl, rfl, by simp only [List.map_nil, VRs]⟩
    | cons p ps => simp only [flatPairs, VRs] at h; obtain ⟨_, _, z, _⟩ := h; cases z
  | (x, y) :: us, ps, kvs, e, h => by
    cases ps with
    | nil => simp [flatPairs, VRs] at h
    | cons p ps =>
      cases ps with
      | nil => simp [flatPairs, VRs] at h
      | cons q ps =>
        simp only [flatPairs, VRs] at h
        obtain ⟨_, _, z, h1, _, _, z2, h2, h3⟩ := h
        obtain ⟨rfl, rfl⟩ := List.cons.inj z
        obtain ⟨rfl, rfl⟩ := List.cons.inj z2
        simp only [pairsP] at e
        split at e
        · rename_i kk kvs' e1 e2
          cases e
          obtain ⟨ws, g1, g2, g3⟩ := pairsP_ok e2 h3
          have := keyOf_ok e1 h1
          subst this
          exact ⟨(kk, y) :: ws, by rw [List.map_cons, ← g1], by rw [List.map_cons, List.map_cons, g2], by simp only [List.map_cons, VRs]; exact ⟨y, _, rfl, h2, g3⟩⟩
        · cases e
theorem valP_none {kk : Key} : ∀ {kvs : List (Key × PV)}, (valP kk kvs).isNone = true → kk ∉ kvs.map (·.1)
  | [], _, h => by simp at h
  | (j, u) :: r, e, h => by
    simp only [valP] at e
    split at e
    · cases e
    · rename_i z
      rcases List.mem_cons.mp h with q | q
      · exact z (by simpa using q.symm)
      · exact valP_none e q
theorem noTwice_ok : ∀ {kvs : List (Key × PV)}, noTwice kvs = true → (kvs.map (·.1)).Nodup
  | [], _ => List.nodup_nil
  | (j, u) :: r, e => by
    simp only [noTwice, Bool.and_eq_true] at e
    exact List.nodup_cons.mpr ⟨valP_none e.1, noTwice_ok e.2⟩
theorem putK_new {acc : List (Key × V)} {kk : Key} {v : V} (h : kk ∉ acc.map (·.1)) : putK acc kk v = acc ++ [(kk, v)] := by
  unfold putK
  rw [if_neg]
  intro z
  rw [List.any_eq_true] at z
  obtain ⟨p, hp, e⟩ := z
  exact h (List.mem_map.mpr ⟨p, hp, by simpa using e⟩)
theorem merge_new : ∀ (ws acc : List (Key × V)), (acc.map (·.1) ++ ws.map (·.1)).Nodup → mergeK acc ws = acc ++ ws
  | [], acc, _ => by simp [mergeK]
  | (kk, v) :: ws, acc, h => by
    show mergeK (putK acc kk v) ws = _
    rw [putK_new (fun z => by
      rw [List.nodup_append] at h
      exact h.2.2 kk z kk (by simp) rfl), merge_new ws (acc ++ [(kk, v)]) (by simpa using h)]
    simp
theorem g_ddisp {ks : List (Option Expr)} {vs : List Expr} {c : E} {pos : Pos} (hp : PP X cl W T call ks vs c) (h0 : ks ≠ []) (h15 : ks.length ≤ 15) : PE X (.Dict ks vs pos) (tI X.K cl W T call (.ddisp c)) := by
  obtain ⟨p1, p2, p3⟩ := pps_of (pos := pos) hp
  refine PE_imp (pe_disp p1 p2 p3 h0 h15) fun σ H Q ⟨rho, s, sl, R, S, h⟩ => ?_
  simp only [ev] at h
  intro D hD
  have lv : ∀ q u, look q s.os = some u → tr u = true → rho q ≠ D := fun q u hq ht z => by
    obtain ⟨w, e, _⟩ := (R.ok q u hq).there ht
    rw [z, hD] at e; cases e
  have xD : Ext s rho rho H (upd H D (.dK [])) s := .upd hD
  refine trs_read (sl := sl) hp (R.upd hD) (S.mono xD R) ?_
  cases e : ev T call c sl s with
  | bad => simp only [e, Res.bind] at h; exact h
  | exc d fs s1 => simp only [e, Res.bind] at h; exact Post.later (s' := s) h xD R (R.upd hD)
  | ok p s1 =>
    simp only [e, Res.bind] at h
    cases p with
    | tup ps =>
      intro rho1 H1 us x1 R1 V1
      dsimp only at h
      split at h
      · rename_i kvs e1
        split at h
        · rename_i hc
          simp only [Bool.and_eq_true, decide_eq_true_eq] at hc
          obtain ⟨ws, g1, g2, g3⟩ := pairsP_ok e1 V1
          have eD : H1 D = some (.dK []) := x1.fr D _ upd_same lv
          have lv1 : ∀ q w, look q s1.os = some w → tr w = true → rho1 q ≠ D := fun q w hq ht => by
            rcases x1.nw q w hq with ⟨w', hw', ht'⟩ | ⟨_, z⟩
            · rw [x1.eq q (R.lt q w' hw')]; exact lv q w' hw' (by rw [ht']; exact ht)
            · exact fun z2 => by rw [z2, upd_same] at z; cases z
          refine ⟨eD, ws, g1, ?_, ?_⟩
          · have := congrArg List.length g2
            simp only [List.length_map] at this
            omega
          · rw [merge_new ws [] (by rw [List.map_nil, List.nil_append, g2]; exact noTwice_ok hc.1), List.nil_append]
            have tu : ∀ (a : Addr) (vs : List V), SqT X.K H1 a vs → SqT X.K (upd H1 D (.dK ws)) a vs := fun a vs t => by
              rcases t with t | t
              · rcases t with t | ⟨o, t⟩
                · exact .inl (.inl (by rw [upd_ne (ne_of t eD (by intro z; cases z))]; exact t))
                · exact .inl (.inr ⟨o, by rw [upd_ne (ne_of t eD (by intro z; cases z))]; exact t⟩)
              · exact .inr t
            have hn : rhoNew rho1 s1.n D s1.n = D := rhoNew_at
            have le : s.n ≤ s1.n := x1.le
            refine h (rhoNew rho1 s1.n D) (upd H1 D (.dK ws)) (.ref D) ⟨Nat.le_trans le (Nat.le_succ _), fun q hq => by rw [rhoNew_lt (Nat.lt_of_lt_of_le hq le)]; exact x1.eq q hq, fun b o eb nb => ?_, fun q u hq => ?_, fun q u hq => ?_⟩ ⟨fun q u hq => ?_, fun q u hq => ?_, fun q q' u u' hq hq' t1 t2 ee => ?_⟩ (by simp only [VR]; exact ⟨Nat.lt_succ_self _, by rw [hn]⟩)
            · have ne : b ≠ D := fun z => by rw [z, hD] at eb; cases eb
              rw [upd_ne ne]
              exact x1.fr b o (by rw [upd_ne ne]; exact eb) nb
            · obtain ⟨w, hw, hwt⟩ := x1.st q u hq
              exact ⟨w, look_new_old (Nat.ne_of_lt (R1.lt q w hw)) hw, hwt⟩
            · rcases look_new hq with ⟨z, _⟩ | ⟨_, z⟩
              · exact .inr ⟨by rw [z]; exact le, by rw [z, hn]; exact hD⟩
              · rcases x1.nw q u z with z1 | ⟨z1, z2⟩
                · exact .inl z1
                · refine .inr ⟨z1, ?_⟩
                  rw [rhoNew_lt (R1.lt q u z)]
                  by_cases hq : rho1 q = D
                  · rw [hq]; exact hD
                  · rw [upd_ne hq] at z2; exact z2
            · rcases look_new hq with ⟨z, z2⟩ | ⟨_, z⟩
              · subst z; subst z2
                exact ⟨ws, by rw [hn]; exact upd_same, g2, VRs.mono (Nat.le_succ _) (fun i h => rhoNew_lt h) tu _ _ g3⟩
              · exact sok_mono (Nat.le_succ _) (fun i h => rhoNew_lt h) tu (R1.lt q u z) (fun w e k => by rw [upd_ne (soNe eD e k (lv1 q u z))]; exact e) (R1.ok q u z)
            · rcases look_new hq with ⟨z, _⟩ | ⟨_, z⟩
              · rw [z]; exact Nat.lt_succ_self _
              · exact Nat.lt_succ_of_lt (R1.lt q u z)
            · rcases look_new hq with ⟨z, _⟩ | ⟨_, z⟩
              · rcases look_new hq' with ⟨z', _⟩ | ⟨_, z'⟩
                · rw [z, z']
                · rw [z, hn, rhoNew_lt (R1.lt q' u' z')] at ee
                  exact absurd ee.symm (lv1 q' u' z' t2)
              · rcases look_new hq' with ⟨z', _⟩ | ⟨_, z'⟩
                · rw [z', hn, rhoNew_lt (R1.lt q u z)] at ee
                  exact absurd ee (lv1 q u z t1)
                · rw [rhoNew_lt (R1.lt q u z), rhoNew_lt (R1.lt q' u' z')] at ee
                  exact R1.inj q q' u u' z z' t1 t2 ee
        · exact h.elim
      · exact h.elim
    | _ => exact h
end
end FI

namespace FI
open PySem PySem.Spec PyProof.Rows L2

/-- what is walked by its number or its values, as the layer has it -/
def SeqJ (K : PySem.W.Frag) (s0 : Sto) (rho0 : Nat → Addr) (H0 : Hp) (j : It) (b : Bool) (a : Addr) : Prop :=
  ∀ rho H s xs, Ext s0 rho0 rho H0 H s → RSt K rho H s → j.items s = some xs → ∃ vs, SqK K H b a vs ∧ VRs K s.n rho H xs vs
section
variable {K : PySem.W.Frag} {s : Sto} {rho : Nat → Addr} {H : Hp}
theorem seqJ_of {p : PV} {v : V} {j : It} (R : RSt K rho H s) (e : seqIt s p = some j) (V1 : VR K s.n rho H p v) : ∃ b a, v = .ref a ∧ SeqJ K s rho H j b a := by
  cases p with
  | tup xs =>
    simp only [seqIt] at e
    cases e
    simp only [VR] at V1
    obtain ⟨a, vs, rfl, t, r⟩ := V1
    refine ⟨false, a, rfl, fun rho1 H1 s1 ys x R1 e1 => ?_⟩
    simp only [It.items] at e1
    cases e1
    exact ⟨vs, x.tup R t, x.vrs R r⟩
  | lst i =>
    simp only [seqIt] at e
    split at e
    · cases e
      simp only [VR] at V1
      obtain ⟨hi, rfl⟩ := V1
      refine ⟨true, rho i, rfl, fun rho1 H1 s1 ys x R1 e1 => ?_⟩
      simp only [It.items] at e1
      obtain ⟨vs, t, r⟩ := getL_ok R1 e1
      rw [x.eq i hi] at t
      exact ⟨vs, t, r⟩
    · cases e
  | _ => simp [seqIt] at e
theorem new_tup {a : Addr} {xs : List V} {ps : List PV} (R : RSt K rho H s) (hn : H a = none) (r : VRs K s.n rho H ps xs) : Ext s rho rho H (upd H a (.tup xs)) s ∧ RSt K rho (upd H a (.tup xs)) s ∧ VR K s.n rho (upd H a (.tup xs)) (.tup ps) (.ref a) :=
  ⟨.upd hn, R.upd hn, by simp only [VR]; exact ⟨a, xs, rfl, .inl (.inl upd_same), vrs_upd hn r⟩⟩
theorem jr_en {j : It} {b : Bool} {a : Addr} (J : SeqJ K s rho H j b a) : JR K s rho H (IteK K b a) (.en j) := by
  intro rho1 H1 s1 x R
  refine ⟨fun k p h => ?_, fun k h => ?_⟩
  · simp only [It.at] at h
    split at h
    · cases h
    · rename_i xs e
      obtain ⟨vs, t, r⟩ := J rho1 H1 s1 xs x R e
      split at h
      · rename_i q e1
        cases h
        obtain ⟨v, e2, e3⟩ := r.get e1
        refine ⟨⟨vs, v, t, e2⟩, fun y H' ⟨T, z, e4, hT, e5, e6⟩ => ?_⟩
        subst e4; subst e5
        have := e6 vs t
        rw [e2] at this
        cases this
        exact new_tup R hT (by simp only [VRs, VR]; exact ⟨_, _, rfl, rfl, v, [], rfl, e3, rfl⟩)
      · split at h <;> cases h
  · simp only [It.at] at h
    split at h
    · cases h
    · rename_i xs e
      obtain ⟨vs, t, r⟩ := J rho1 H1 s1 xs x R e
      split at h
      · cases h
      · split at h
        · rename_i e1
          exact ⟨vs, t, by rw [← r.len]; exact Nat.eq_of_beq_eq_true e1⟩
        · cases h
theorem jr_zp {j1 j2 : It} {b1 b2 : Bool} {a1 a2 : Addr} (J1 : SeqJ K s rho H j1 b1 a1) (J2 : SeqJ K s rho H j2 b2 a2) : JR K s rho H (Itz2K K b1 b2 a1 a2) (.zp j1 j2) := by
  intro rho1 H1 s1 x R
  refine ⟨fun k p h => ?_, fun k h => ?_⟩
  · simp only [It.at] at h
    split at h
    · rename_i xs ys e1 e2
      obtain ⟨vs, t, r⟩ := J1 rho1 H1 s1 xs x R e1
      obtain ⟨us, t2, r2⟩ := J2 rho1 H1 s1 ys x R e2
      split at h
      · rename_i q1 q2 g1 g2
        cases h
        obtain ⟨v, e3, e4⟩ := r.get g1
        obtain ⟨u, e5, e6⟩ := r2.get g2
        refine ⟨⟨vs, us, v, u, t, t2, e3, e5⟩, fun y H' ⟨T, z1, z2, f1, hT, f2, f3, f4⟩ => ?_⟩
        subst f1; subst f2
        have := f3 vs t
        rw [e3] at this
        cases this
        have := f4 us t2
        rw [e5] at this
        cases this
        exact new_tup R hT (by simp only [VRs]; exact ⟨_, _, rfl, e4, u, [], rfl, e6, rfl⟩)
      · split at h <;> cases h
    · cases h
  · simp only [It.at] at h
    split at h
    · rename_i xs ys e1 e2
      obtain ⟨vs, t, r⟩ := J1 rho1 H1 s1 xs x R e1
      obtain ⟨us, t2, r2⟩ := J2 rho1 H1 s1 ys x R e2
      split at h
      · cases h
      · split at h
        · rename_i e1
          exact ⟨vs, us, t, t2, by rw [← r.len, ← r2.len]; exact Nat.eq_of_beq_eq_true e1⟩
        · cases h
    · cases h
theorem jr_zp3 {j1 j2 j3 : It} {b1 b2 b3 : Bool} {a1 a2 a3 : Addr} (J1 : SeqJ K s rho H j1 b1 a1) (J2 : SeqJ K s rho H j2 b2 a2) (J3 : SeqJ K s rho H j3 b3 a3) : JR K s rho H (Itz3K K b1 b2 b3 a1 a2 a3) (.zp3 j1 j2 j3) := by
  intro rho1 H1 s1 x R
  refine ⟨fun k p h => ?_, fun k h => ?_⟩
  · simp only [It.at] at h
    split at h
    · rename_i xs ys zs e1 e2 e3
      obtain ⟨vs, t, r⟩ := J1 rho1 H1 s1 xs x R e1
      obtain ⟨us, t2, r2⟩ := J2 rho1 H1 s1 ys x R e2
      obtain ⟨ws, t3, r3⟩ := J3 rho1 H1 s1 zs x R e3
      split at h
      · rename_i q1 q2 q3 g1 g2 g3
        cases h
        obtain ⟨v, e4, e5⟩ := r.get g1
        obtain ⟨u, e6, e7⟩ := r2.get g2
        obtain ⟨w, e8, e9⟩ := r3.get g3
        refine ⟨⟨vs, us, ws, v, u, w, t, t2, t3, e4, e6, e8⟩, fun y H' ⟨T, z1, z2, z3, f1, hT, f2, f3, f4, f5⟩ => ?_⟩
        subst f1; subst f2
        have := f3 vs t
        rw [e4] at this
        cases this
        have := f4 us t2
        rw [e6] at this
        cases this
        have := f5 ws t3
        rw [e8] at this
        cases this
        exact new_tup R hT (by simp only [VRs]; exact ⟨_, _, rfl, e5, u, _, rfl, e7, w, [], rfl, e9, rfl⟩)
      · split at h <;> cases h
    · cases h
  · simp only [It.at] at h
    split at h
    · rename_i xs ys zs e1 e2 e3
      obtain ⟨vs, t, r⟩ := J1 rho1 H1 s1 xs x R e1
      obtain ⟨us, t2, r2⟩ := J2 rho1 H1 s1 ys x R e2
      obtain ⟨ws, t3, r3⟩ := J3 rho1 H1 s1 zs x R e3
      split at h
      · cases h
      · split at h
        · rename_i e1
          exact ⟨vs, us, ws, t, t2, t3, by rw [← r.len, ← r2.len, ← r3.len]; exact Nat.eq_of_beq_eq_true e1⟩
        · cases h
    · cases h
theorem seqK_any {j : It} {b : Bool} {a : Addr} {p : PV} {v : V} (R : RSt K rho H s) (e : seqIt s p = some j) (J : SeqJ K s rho H j b a) : ∃ xs, SqK K H b a xs := by
  have : ∃ xs, j.items s = some xs := by
    cases p with
    | tup xs => simp only [seqIt] at e; cases e; exact ⟨xs, rfl⟩
    | lst i =>
      simp only [seqIt] at e
      split at e
      · rename_i xs g; cases e; exact ⟨xs, g⟩
      · cases e
    | _ => simp [seqIt] at e
  obtain ⟨xs, h⟩ := this
  obtain ⟨vs, t, _⟩ := J rho H s xs .refl R h
  exact ⟨vs, t⟩
end
section
variable {cl : Cls0} {T : Tab} {call : Nat → List PV → Sto → Res PV} {k : Nat} {N : List Str} {sc : Scope} {W : WX} {X : Cx}
theorem i_enum (G : Good cl T call k N sc W X) {elts : List Expr} {kk : Nat} {tpos : Pos} {e : Expr} {x : Str} {p q : Pos} {c : E} (hx : x = "enumerate") (hg : glB sc x = true) (hn : nostar e = true) (he : PE X e (tI X.K cl W T call c)) : PI X (.Tuple elts kk tpos) (.Call (.Name x p) [e] [] q) (tII X.K cl W T call (.ienum c)) := by
  have hm : X.mg x = none := G.facts.blt x (by rw [hx]; decide +kernel)
  obtain ⟨g1, _⟩ := glB_ok G hg
  subst hx
  refine PI_imp (pi_enumK g1 hm (pa_cons he pa_nil (nostar_ok hn)) (nostar_ok hn)) fun σ H R ⟨rho, s, sl, RS, S, h⟩ => ?_
  simp only [evI] at h
  refine ⟨rho, s, sl, RS, S, ?_⟩
  cases e1 : ev T call c sl s with
  | bad => simp only [e1, Res.bind] at h
  | exc d fs s1 => simp only [e1, Res.bind] at h; exact h
  | ok p s1 =>
    simp only [e1, Res.bind] at h
    intro rho1 H1 v x1 R1 V1
    cases e2 : seqIt s1 p with
    | none => simp only [e2] at h
    | some j =>
      simp only [e2] at h
      obtain ⟨b, a, rfl, J⟩ := seqJ_of R1 e2 V1
      obtain ⟨xs, t⟩ := seqK_any (v := .non) R1 e2 J
      exact ⟨b, a, xs, rfl, t, h rho1 H1 _ x1 R1 (jr_en J)⟩
theorem i_zip2 (G : Good cl T call k N sc W X) {elts : List Expr} {kk : Nat} {tpos : Pos} {e e2 : Expr} {x : Str} {p q : Pos} {c : E} (hx : x = "zip") (hg : glB sc x = true) (hn : [e, e2].all nostar = true) (ha : PA X [e, e2] (tIA X.K cl W T call c)) : PI X (.Tuple elts kk tpos) (.Call (.Name x p) [e, e2] [] q) (tII X.K cl W T call (.izip c)) := by
  have hm : X.mg x = none := G.facts.blt x (by rw [hx]; decide +kernel)
  obtain ⟨g1, _⟩ := glB_ok G hg
  subst hx
  simp only [List.all_cons, Bool.and_eq_true] at hn
  refine PI_imp (pi_zip2K g1 hm ha (nostar_ok hn.1) (nostar_all (by simp [hn.2.1]))) fun σ H R ⟨rho, s, sl, RS, S, h⟩ => ?_
  simp only [evI] at h
  refine ⟨rho, s, sl, RS, S, ?_⟩
  cases e1 : ev T call c sl s with
  | bad => simp only [e1, Res.bind] at h
  | exc d fs s1 => simp only [e1, Res.bind] at h; exact h
  | ok p s1 =>
    simp only [e1, Res.bind] at h
    cases p with
    | tup ps =>
      intro rho1 H1 vs x1 R1 V1
      cases ps with
      | nil => exact h.elim
      | cons p1 ps =>
        cases ps with
        | nil => exact h.elim
        | cons p2 ps =>
          cases ps with
          | nil =>
            dsimp only at h
            simp only [VRs] at V1
            obtain ⟨v1, _, rfl, V1, v2, _, rfl, V2, rfl⟩ := V1
            cases ez : zip2 s1 p1 p2 with
            | none => simp only [ez] at h
            | some j =>
              simp only [ez] at h
              unfold zip2 at ez
              split at ez
              · rename_i j1 j2 f1 f2
                cases ez
                obtain ⟨b1, a1, rfl, J1⟩ := seqJ_of R1 f1 V1
                obtain ⟨b2, a2, rfl, J2⟩ := seqJ_of R1 f2 V2
                obtain ⟨xs, t1⟩ := seqK_any (v := .non) R1 f1 J1
                obtain ⟨ys, t2⟩ := seqK_any (v := .non) R1 f2 J2
                exact ⟨b1, b2, a1, a2, xs, ys, rfl, t1, t2, h rho1 H1 _ x1 R1 (jr_zp J1 J2)⟩
              · cases ez
          | cons p3 ps => exact h.elim
    | _ => exact h.elim
theorem i_zip3 (G : Good cl T call k N sc W X) {elts : List Expr} {kk : Nat} {tpos : Pos} {e e2 e3 : Expr} {x : Str} {p q : Pos} {c : E} (hx : x = "zip") (hg : glB sc x = true) (hn : [e, e2, e3].all nostar = true) (ha : PA X [e, e2, e3] (tIA X.K cl W T call c)) : PI X (.Tuple elts kk tpos) (.Call (.Name x p) [e, e2, e3] [] q) (tII X.K cl W T call (.izip3 c)) := by
  have hm : X.mg x = none := G.facts.blt x (by rw [hx]; decide +kernel)
  obtain ⟨g1, _⟩ := glB_ok G hg
  subst hx
  simp only [List.all_cons, Bool.and_eq_true] at hn
  refine PI_imp (pi_zip3K g1 hm ha (nostar_ok hn.1) (nostar_all (by simp [hn.2.1, hn.2.2.1]))) fun σ H R ⟨rho, s, sl, RS, S, h⟩ => ?_
  simp only [evI] at h
  refine ⟨rho, s, sl, RS, S, ?_⟩
  cases e1 : ev T call c sl s with
  | bad => simp only [e1, Res.bind] at h
  | exc d fs s1 => simp only [e1, Res.bind] at h; exact h
  | ok p s1 =>
    simp only [e1, Res.bind] at h
    cases p with
    | tup ps =>
      intro rho1 H1 vs x1 R1 V1
      cases ps with
      | nil => exact h.elim
      | cons p1 ps =>
        cases ps with
        | nil => exact h.elim
        | cons p2 ps =>
          cases ps with
          | nil => exact h.elim
          | cons p3 ps =>
            cases ps with
            | cons p4 ps => exact h.elim
            | nil =>
              dsimp only at h
              simp only [VRs] at V1
              obtain ⟨v1, _, rfl, V1, v2, _, rfl, V2, v3, _, rfl, V3, rfl⟩ := V1
              cases ez : zip3 s1 p1 p2 p3 with
              | none => simp only [ez] at h
              | some j =>
                simp only [ez] at h
                unfold zip3 at ez
                split at ez
                · rename_i j1 j2 j3 f1 f2 f3
                  cases ez
                  obtain ⟨b1, a1, rfl, J1⟩ := seqJ_of R1 f1 V1
                  obtain ⟨b2, a2, rfl, J2⟩ := seqJ_of R1 f2 V2
                  obtain ⟨b3, a3, rfl, J3⟩ := seqJ_of R1 f3 V3
                  obtain ⟨xs, t1⟩ := seqK_any (v := .non) R1 f1 J1
                  obtain ⟨ys, t2⟩ := seqK_any (v := .non) R1 f2 J2
                  obtain ⟨zs, t3⟩ := seqK_any (v := .non) R1 f3 J3
                  exact ⟨b1, b2, b3, a1, a2, a3, xs, ys, zs, rfl, t1, t2, t3, h rho1 H1 _ x1 R1 (jr_zp3 J1 J2 J3)⟩
                · cases ez
    | _ => exact h.elim
/-! ### t[::-1] -/
theorem pick_rev (items : Array Value) : ((List.range items.size).filterMap fun (k : Nat) => items[(((items.size : Int) - 1) + (k : Int) * (-1)).toNat]?).toArray = items.toList.reverse.toArray := by
  congr 1
  apply List.ext_getElem?
  intro i
  have e : ∀ k ∈ List.range items.size, items[(((items.size : Int) - 1) + (k : Int) * (-1)).toNat]? = some (items.toList.reverse.getD k .none) := fun k hk => by
    have hk := List.mem_range.mp hk
    have e1 : (((items.size : Int) - 1) + (k : Int) * (-1)).toNat = items.size - 1 - k := by omega
    rw [e1, List.getD_eq_getElem?_getD, List.getElem?_reverse (by simpa using hk), Array.length_toList, Array.getElem?_toList]
    have : items.size - 1 - k < items.size := by omega
    simp [this]
  have e2 : (List.range items.size).filterMap (fun (k : Nat) => items[(((items.size : Int) - 1) + (k : Int) * (-1)).toNat]?) = (List.range items.size).map fun k => items.toList.reverse.getD k .none := by
    generalize List.range items.size = l at e
    induction l with
    | nil => rfl
    | cons a l ih =>
      rw [List.filterMap_cons, e a List.mem_cons_self, List.map_cons, ih fun k hk => e k (List.mem_cons_of_mem _ hk)]
  rw [e2, List.getElem?_map]
  by_cases h : i < items.size
  · rw [List.getElem?_range h, Option.map_some, List.getD_eq_getElem?_getD]
    have : i < items.toList.reverse.length := by simpa using h
    rw [List.getElem?_eq_getElem this]; rfl
  · rw [List.getElem?_eq_none (by simpa using h), List.getElem?_eq_none (by simpa using h)]; rfl
theorem sliceApplied_rev {prog : Program} {w : World} {A : Around} {E : Value → Shared → Prop} {s : Shared} {sl : Addr} {vl vu vs : Value} {n : Nat} {Q : Int × Int × Nat → Shared → Prop} (hs : s.heap.IsSliceOf sl vl vu vs) (pl : IsPart vl none) (pu : IsPart vu none) (ps : IsPart vs (some (-1)))
    (h : Q ((n : Int) - 1, -1, n) s) : wpAny (model prog w) A (Builtin.Slice.sliceApplied (.ref sl) (pure (n : Int))) Q E s := by
  obtain ⟨os, hos, hcs, hds⟩ := id hs
  unfold Builtin.Slice.sliceApplied Builtin.Slice.sliceFields
  refine wpAny_bind (wpAny_bind (wpAny_field hos hds (x := vl) rfl (wpAny_bind (wpAny_field hos hds (x := vu) rfl (wpAny_bind (wpAny_field hos hds (x := vs) rfl (wpAny_pure ?_)))))))
  refine wpAny_bind (HT.slicePart_ ps ?_)
  show wpAny _ _ (if ((-1 : Int) == 0) = true then _ else _) _ _ s
  rw [if_neg (by decide)]
  refine wpAny_bind (HT.slicePart_ pl (wpAny_bind (HT.slicePart_ pu (wpAny_bind (wpAny_pure ?_)))))
  have e : Builtin.Slice.slicePlaces ((n : Int) - 1) (-1) (-1) = n := by
    unfold Builtin.Slice.slicePlaces
    rw [if_neg (by decide)]
    by_cases h : (n : Int) - 1 > -1
    · rw [if_pos h, show (- -1 : Int) = 1 by decide, Int.ediv_one]; omega
    · rw [if_neg h]; omega
  show wpAny _ _ (pure ((n : Int) - 1, (-1 : Int), Builtin.Slice.slicePlaces ((n : Int) - 1) (-1) (-1))) _ _ s
  rw [e]
  exact wpAny_pure h
theorem getItem_tuple_rev {prog : Program} {w : World} {A : Around} {E : Value → Shared → Prop} {s : Shared} {t sl : Addr} {items : Array Value} {vl vu vs : Value} {Q : Value → Shared → Prop} (ht : IsTup s.heap t items) (hs : s.heap.IsSliceOf sl vl vu vs) (pl : IsPart vl none) (pu : IsPart vu none) (ps : IsPart vs (some (-1)))
    (h : Q (.ref s.heap.objs.size) { s with heap := s.heap.push { cls := .type "tuple", data := .seq items.toList.reverse.toArray } }) (hz : items.size ≤ sizeLine) : wpAny (model prog w) A (getItem (.ref t) (.ref sl)) Q E s := by
  obtain ⟨os, hos, hcs, hds⟩ := id hs
  have hTs : s.TypeIs (.ref sl) "slice" := ⟨os, hos, hcs⟩
  unfold getItem
  try with_reducible refine wpAny_holding ?_
  first | refine wpAny_bind (wpAny_pure ?_) | skip
  refine wpAny_bind (wpAny_sequenceKey ht.typeIs (by decide) ?_)
  refine wpAny_bind (wpAny_callSpecial?_slot (name := Str.ofString "__getitem__") ht.typeIs PyProof.Rows.slot_tuple_getitem
    (wpAny_call_entry PyProof.Rows.slot_tuple_getitem ht.typeIs entry_tuple_getitem ?_ (args_tuple_getitem _ _)))
  show wpAny _ _ (Builtin.Tuple.tupleItemsOf (.ref t) >>= _) _ _ s
  refine wpAny_bind (tupleItemsOf_ ht ?_)
  refine wpAny_bind (wpAny_typeOf hTs ?_)
  rw [if_pos (by decide)]
  refine wpAny_bind (sliceApplied_rev hs pl pu ps ?_)
  show wpAny _ _ (if (((items.size : Int) - 1 == 0 && (-1 : Int) == 1 && items.size == items.size) = true) then _ else _) _ _ s
  rw [if_neg (by simp), pick_rev]
  have htake : items.toList.reverse.toArray.size ≤ sizeLine := by simpa using hz
  first
    | exact wpAny_bind (m := Builtin.Tuple.tupleExact _) (wpAny_newObj_type (wpAny_pure ⟨_, rfl, wpAny_pure h⟩) htake)
    | exact wpAny_bind (m := Builtin.Tuple.tupleExact _) (wpAny_newObj_type (wpAny_bind (wpAny_pure (wpAny_pure ⟨_, rfl, wpAny_pure h⟩))) htake)
    | exact wpAny_bind (wpAny_bind (m := Builtin.Tuple.tupleExact _) (wpAny_newObj_type (wpAny_pure (wpAny_pure ⟨_, rfl, wpAny_pure h⟩)) htake))
    | exact wpAny_bind (wpAny_bind (m := Builtin.Tuple.tupleExact _) (wpAny_newObj_type (wpAny_pure ⟨_, rfl, wpAny_pure h⟩) htake))
def tRevT (K : PySem.W.Frag) (te : TE) : TE := fun σ H Q => te σ H fun x H1 => ∃ a xs, x = .ref a ∧ SqT K H1 a xs ∧ ∀ p, H1 p = none → Q (.ref p) (upd H1 p (.tup xs.reverse))
theorem pe_revT {e : Expr} {te : TE} {k : Nat} {p1 p2 p3 pos : Pos} (he : PE X e te) : PE X (.Subscript e (.Slice none none (some (.UnaryOp .USub (.Constant (.int 1) k p1) p2)) p3) pos) (tRevT X.K te) := by
  refine ⟨fun pins s σ H Q I h => ?_⟩
  refine Subscript_ (thn (he.run pins s σ H _ I h) fun v s1 ⟨x, H1, I1, r1, q1⟩ => ?_)
  obtain ⟨a, xs, ex, hx, q⟩ := q1
  subst ex
  cases r1
  have hst : PO X (some (.UnaryOp .USub (.Constant (.int 1) k p1) p2)) (tPart (tUn (rU fun i => .int (-i)) (tC (.int 1)))) := po_some (pe_un un_neg pe_int)
  refine wpAny_Slice (thn (po_none.run pins s1 σ H1 (fun o H2 => o = none ∧ H2 = H1) I1 ⟨rfl, rfl⟩) fun vl s2 ⟨l, H2, I2, pl, el, e2⟩ => ?_)
  subst el e2
  refine thn (po_none.run pins s2 σ H2 (fun o H3 => o = none ∧ H3 = H2) I2 ⟨rfl, rfl⟩) fun vu s3 ⟨u, H3, I3, pu, eu, e3⟩ => ?_
  subst eu e3
  refine thn (hst.run pins s3 σ H3 (fun o H4 => o = some (-1) ∧ H4 = H3) I3 ⟨1, rfl, -1, rfl, rfl, rfl⟩) fun vs s4 ⟨o, H4, I4, ps, eo, e4⟩ => ?_
  subst eo e4
  have I5 : Inv X pins σ H4 { s4 with heap := s4.heap.push { cls := .type "slice", data := .fields #[vl, vu, vs] } } := I4.kept (t' := s4.toks) fun b ob q => Heap.get?_push_of_some _ q
  obtain ⟨its, r, ht, hz⟩ := I5.tuple hx
  have hlen := r.length
  show wpAny (model X.prog X.w) X.A (subscriptTail e (.Slice none none (some (.UnaryOp .USub (.Constant (.int 1) k p1) p2)) p3) (.ref a) (.ref s4.heap.objs.size)) (EP X pins σ Q) X.xe { s4 with heap := s4.heap.push { cls := .type "slice", data := .fields #[vl, vu, vs] } }
  refine tail_any (ops := [.ref a, .ref s4.heap.objs.size]) ht.typeIs (PyProof.Rows.slot_tuple_getitem.lookup) ?_ (by with_unfolding_all rfl)
  refine getItem_tuple_rev ht (Heap.IsSliceOf.new _ vl vu vs) pl pu ps ?_ (by rw [List.size_toArray]; omega)
  refine ⟨.ref _, _, I5.laid (t' := s4.toks) (o := .tup xs.reverse) (fun b ob q => Heap.get?_push_of_some _ q) (Nat.le_refl _) ?_, rfl, q _ (I5.hok.fresh (Nat.le_refl _))⟩
  exact ⟨by rw [List.length_reverse]; exact hz, _, r.reverse, IsTup.new _ _⟩
theorem VRs.rev {K : PySem.W.Frag} {n : Nat} {rho : Nat → Addr} {H : Hp} : ∀ {ps : List PV} {vs : List V}, VRs K n rho H ps vs → VRs K n rho H ps.reverse vs.reverse
  | [], vs, h => by simp only [VRs] at h; subst h; simp [VRs]
  | p :: ps, vs, h => by
    simp only [VRs] at h
    obtain ⟨v, r, rfl, h1, h2⟩ := h
    rw [List.reverse_cons, List.reverse_cons]
    exact (VRs.rev h2).app (by simp only [VRs]; exact ⟨v, [], rfl, h1, rfl⟩)
theorem g_rev {e : Expr} {c : E} {k : Nat} {p1 p2 p3 pos : Pos} (he : PE X e (tI X.K cl W T call c)) : PE X (.Subscript e (.Slice none none (some (.UnaryOp .USub (.Constant (.int 1) k p1) p2)) p3) pos) (tI X.K cl W T call (.rev c)) :=
  PE_imp (pe_revT he) fun σ H Q ⟨rho, s, sl, R, S, h⟩ => by
    simp only [ev] at h
    refine tI_imp (tI_seq R S h) fun v H1 ⟨rho1, s1, p, x1, R1, S1, V1, g1⟩ => ?_
    cases p with
    | tup xs =>
      dsimp only at g1
      split at g1
      · simp only [VR] at V1
        obtain ⟨a, vs, rfl, t, r⟩ := V1
        exact ⟨a, vs, rfl, t, fun q hq => g1.tup R1 r.rev hq⟩
      · exact g1.elim
    | _ => exact g1.elim
end
end FI

namespace FI
open PySem PySem.Spec PyProof.Rows L2

theorem VRs.set {K : PySem.W.Frag} {n : Nat} {rho : Nat → Addr} {H : Hp} {p : PV} {v : V} : ∀ {ps : List PV} {vs : List V} (_ : VRs K n rho H ps vs) (j : Nat) (_ : VR K n rho H p v), VRs K n rho H (ps.set j p) (vs.set j v)
  | [], vs, h, j, _ => by simp only [VRs] at h; subst h; simp [VRs]
  | q :: ps, vs, h, 0, hv => by
    simp only [VRs] at h
    obtain ⟨u, r, rfl, h1, h2⟩ := h
    simp only [List.set_cons_zero, VRs]
    exact ⟨v, r, rfl, hv, h2⟩
  | q :: ps, vs, h, j + 1, hv => by
    simp only [VRs] at h
    obtain ⟨u, r, rfl, h1, h2⟩ := h
    simp only [List.set_cons_succ, VRs]
    exact ⟨u, r.set j v, rfl, h1, VRs.set h2 j hv⟩
/-- what is wanted of a statement's end -/
def PostS (K : PySem.W.Frag) (cl : Cls0) (W : WX) (rho : Nat → Addr) (s : Sto) (H : Hp) (r : Res Fl) (D : Ends) : Prop := match r with
  | .ok (.nx sl) s' => ∀ rho' H' σ', Ext s rho rho' H H' s' → RSt K rho' H' s' → SlR K s'.n rho' H' sl σ' → D.nx σ' H'
  | .ok (.bk sl) s' => ∀ rho' H' σ', Ext s rho rho' H H' s' → RSt K rho' H' s' → SlR K s'.n rho' H' sl σ' → D.bk σ' H'
  | .ok (.ct sl) s' => ∀ rho' H' σ', Ext s rho rho' H H' s' → RSt K rho' H' s' → SlR K s'.n rho' H' sl σ' → D.ct σ' H'
  | .ok (.rt p) s' => ∀ rho' H' v, Ext s rho rho' H H' s' → RSt K rho' H' s' → VR K s'.n rho' H' p v → D.rt v H'
  | .exc c fs s' => ∃ C names, cl c = some (C, names) ∧ ∀ rho' H' d vs σ', Ext s rho rho' H H' s' → RSt K rho' H' s' → H' d = some (.xd (names.zip vs)) → VRs K s'.n rho' H' fs vs → W (.ref C) (some d) σ' H'
  | .bad => False
def tS (K : PySem.W.Frag) (cl : Cls0) (W : WX) (T : Tab) (call : Nat → List PV → Sto → Res PV) (c : E) : TS := fun D σ H =>
  ∃ rho s sl, RSt K rho H s ∧ SlR K s.n rho H sl σ ∧ PostS K cl W rho s H (ex T call c sl s) D
section
variable {K : PySem.W.Frag} {cl : Cls0} {W : WX} {σ : L2.St} {rho rho' : Nat → Addr} {s s' : Sto} {H H' : Hp} {D D' : Ends} {sl : Sl} {T : Tab} {call : Nat → List PV → Sto → Res PV}
theorem PostS.later {r : Res Fl} (h : PostS K cl W rho s H r D) (x : Ext s rho rho' H H' s') (R : RSt K rho H s) (R' : RSt K rho' H' s') : PostS K cl W rho' s' H' r D := by
  cases r with
  | ok f s2 =>
    cases f with
    | nx sl => exact fun rho2 H2 v y r2 vr => h rho2 H2 v (x.trans y R R') r2 vr
    | bk sl => exact fun rho2 H2 v y r2 vr => h rho2 H2 v (x.trans y R R') r2 vr
    | ct sl => exact fun rho2 H2 v y r2 vr => h rho2 H2 v (x.trans y R R') r2 vr
    | rt p => exact fun rho2 H2 v y r2 vr => h rho2 H2 v (x.trans y R R') r2 vr
  | exc c fs s2 =>
    obtain ⟨C, names, e, h⟩ := h
    exact ⟨C, names, e, fun rho2 H2 d vs σ' y r2 => h rho2 H2 d vs σ' (x.trans y R R') r2⟩
  | bad => exact h
/-- an expression, then the rest -/
theorem tS_seq {c : E} {f : PV → Sto → Res Fl} {Q : VK} (R : RSt K rho H s) (S : SlR K s.n rho H sl σ) (h : PostS K cl W rho s H ((ev T call c sl s).bind f) D)
    (i : ∀ v H1 rho1 s1 p, Ext s rho rho1 H H1 s1 → RSt K rho1 H1 s1 → SlR K s1.n rho1 H1 sl σ → VR K s1.n rho1 H1 p v → PostS K cl W rho1 s1 H1 (f p s1) D → Q v H1) : tI K cl W T call c σ H Q := by
  refine ⟨rho, s, sl, R, S, ?_⟩
  cases e : ev T call c sl s with
  | ok p s1 =>
    rw [e] at h
    exact fun rho1 H1 v x r vr => i v H1 rho1 s1 p x r (S.mono x R) vr (h.later x R r)
  | exc d fs s1 =>
    rw [e] at h
    obtain ⟨C, names, e1, h⟩ := h
    exact ⟨C, names, e1, fun rho1 H1 d vs x r => h rho1 H1 d vs σ x r⟩
  | bad => rw [e] at h; exact h
theorem tSA_seq {c : E} {f : List PV → Sto → Res Fl} {Q : List V → Hp → Prop} (R : RSt K rho H s) (S : SlR K s.n rho H sl σ) (h : PostS K cl W rho s H ((ev T call c sl s).bind fun x s1 => match x with | .tup vs => f vs s1 | _ => .bad) D)
    (i : ∀ vs H1 rho1 s1 ps, Ext s rho rho1 H H1 s1 → RSt K rho1 H1 s1 → SlR K s1.n rho1 H1 sl σ → VRs K s1.n rho1 H1 ps vs → PostS K cl W rho1 s1 H1 (f ps s1) D → Q vs H1) : tIA K cl W T call c σ H Q := by
  refine ⟨rho, s, sl, R, S, ?_⟩
  cases e : ev T call c sl s with
  | ok p s1 =>
    rw [e] at h
    cases p with
    | tup ps => exact fun rho1 H1 vs x r vr => i vs H1 rho1 s1 ps x r (S.mono x R) vr (PostS.later (s' := s1) h x R r)
    | _ => exact h
  | exc d fs s1 =>
    rw [e] at h
    obtain ⟨C, names, e1, h⟩ := h
    exact ⟨C, names, e1, fun rho1 H1 d vs x r => h rho1 H1 d vs σ x r⟩
  | bad => rw [e] at h; exact h
end

section
variable {cl : Cls0} {T : Tab} {call : Nat → List PV → Sto → Res PV} {k : Nat} {N : List Str} {sc : Scope} {W : WX} {X : Cx}
theorem PS_imp {st : Stmt} {t t' : TS} (h : PS X st t) (i : ∀ D σ H, t' D σ H → t D σ H) : PS X st t' := ⟨fun pins s σ H D I q => h.run pins s σ H D I (i D σ H q)⟩
theorem PSs_imp {st : List Stmt} {t t' : TS} (h : PSs X st t) (i : ∀ D σ H, t' D σ H → t D σ H) : PSs X st t' := ⟨fun pins s σ H D I q => h.run pins s σ H D I (i D σ H q)⟩
theorem b_nil : PSs X [] (tS X.K cl W T call .skip) :=
  PSs_imp pss_nil fun D σ H ⟨rho, s, sl, R, S, h⟩ => by
    simp only [ex] at h
    exact h rho H σ .refl R S
theorem b_cons {st : Stmt} {rest : List Stmt} {a r : E} (h1 : PS X st (tS X.K cl W T call a)) (h2 : PSs X rest (tS X.K cl W T call r)) : PSs X (st :: rest) (tS X.K cl W T call (.seq a r)) :=
  PSs_imp (pss_cons h1 h2) fun D σ H ⟨rho, s, sl, R, S, h⟩ => by
    simp only [ex] at h
    refine ⟨rho, s, sl, R, S, ?_⟩
    cases e : ex T call a sl s with
    | bad => simp only [e] at h; exact h
    | exc c fs s1 => simp only [e] at h; exact h
    | ok f s1 =>
      cases f with
      | nx sl1 =>
        simp only [e] at h
        exact fun rho1 H1 σ1 x R1 S1 => ⟨rho1, s1, sl1, R1, S1, PostS.later (s' := s1) h x R R1⟩
      | rt p => simp only [e] at h; exact h
      | bk sl1 => simp only [e] at h; exact h
      | ct sl1 => simp only [e] at h; exact h
theorem s_never {st : Stmt} : PS X st (tS X.K cl W T call .never) := PS_imp ps_never fun D σ H ⟨rho, s, sl, R, S, h⟩ => by simp only [ex] at h; exact h
theorem s_ret {e : Expr} {c : E} {p : Pos} (he : PE X e (tI X.K cl W T call c)) : PS X (.Return (some e) p) (tS X.K cl W T call (.ret c)) :=
  PS_imp (ps_ret he) fun D σ H ⟨rho, s, sl, R, S, h⟩ => by
    simp only [ex] at h
    exact tS_seq R S h fun v H1 rho1 s1 p x1 R1 S1 V1 g => g rho1 H1 v .refl R1 V1
theorem s_retN {p : Pos} : PS X (.Return none p) (tS X.K cl W T call .retN) :=
  PS_imp ps_retN fun D σ H ⟨rho, s, sl, R, S, h⟩ => by
    simp only [ex] at h
    exact h rho H .non .refl R (by simp only [VR])
theorem s_pass {p : Pos} : PS X (.Pass p) (tS X.K cl W T call .pass) :=
  PS_imp ps_pass fun D σ H ⟨rho, s, sl, R, S, h⟩ => by simp only [ex] at h; exact h rho H σ .refl R S
theorem s_cont {p : Pos} : PS X (.Continue p) (tS X.K cl W T call .cont) :=
  PS_imp ps_continue fun D σ H ⟨rho, s, sl, R, S, h⟩ => by simp only [ex] at h; exact h rho H σ .refl R S
theorem s_brk {p : Pos} : PS X (.Break p) (tS X.K cl W T call .brk) :=
  PS_imp ps_break fun D σ H ⟨rho, s, sl, R, S, h⟩ => by simp only [ex] at h; exact h rho H σ .refl R S
def noComp : Expr → Bool
  | .ListComp .. => false
  | .SetComp .. => false
  | .DictComp .. => false
  | _ => true
theorem noComp_ok {e : Expr} {t : Option Expr} {l : Nat} {env : Env} (h : noComp e = true) : swapsWith e t l env = pure false := by
  cases e <;> first | rfl | cases h
theorem noComp_sole {e : Expr} {t : Expr} {l : Nat} {env : Env} (h : noComp e = true) : swapsWithSole [t] e l env = pure false := by
  unfold swapsWithSole
  exact noComp_ok h
theorem s_expr {e : Expr} {c : E} {p : Pos} (hn : noComp e = true) (he : PE X e (tI X.K cl W T call c)) : PS X (.Expr e p) (tS X.K cl W T call (.expr c)) :=
  PS_imp (ps_expr he (noComp_ok hn)) fun D σ H ⟨rho, s, sl, R, S, h⟩ => by
    simp only [ex] at h
    exact tS_seq R S h fun v H1 rho1 s1 p x1 R1 S1 V1 g => g rho1 H1 σ .refl R1 S1
theorem s_if {t : Expr} {a b : List Stmt} {cc ca cb : E} {p : Pos} (ht : PT X t (tIT X.K cl W T call cc)) (ha : PSs X a (tS X.K cl W T call ca)) (hb : PSs X b (tS X.K cl W T call cb)) : PS X (.If t a b p) (tS X.K cl W T call (.sif cc ca cb)) :=
  PS_imp (ps_if ht ha hb) fun D σ H ⟨rho, s, sl, R, S, h⟩ => by
    simp only [ex] at h
    refine tS_seq R S h fun v H1 rho1 s1 p x1 R1 S1 V1 g => ?_
    cases p with
    | bl b =>
      simp only [VR] at V1
      refine ⟨b, V1, ?_⟩
      cases b with
      | true => exact ⟨rho1, s1, sl, R1, S1, g⟩
      | false => exact ⟨rho1, s1, sl, R1, S1, g⟩
    | _ => exact g.elim
/-! ### stores -/
theorem swC_ok {y : Str} {elt : Expr} {gs : List Comprehension} {scope : Scope} {pos py : Pos} {l : Nat} {env : Env} (h : env.scope.names.lookup y = some .cell) : swapsWith (.ListComp elt gs scope pos) (some (.Name y py)) l env = pure false := by
  have ky : env.kindOf y = some .cell := h
  unfold swapsWith
  simp only [ky]
  have e : (some NameKind.cell == some NameKind.local) = false := by decide
  rw [e]
  simp only [Bool.and_false, Bool.false_and]
theorem tS_set {g e : E} {D : Ends} {σ : L2.St} {H : Hp} (h : tS X.K cl W T call (.set g e) D σ H) : tAsg (tI X.K cl W T call e) (tG X.K g) D σ H := by
  obtain ⟨rho, s, sl, R, S, h⟩ := h
  simp only [ex] at h
  refine tS_seq R S h fun v H1 rho1 s1 p x1 R1 S1 V1 q => ?_
  split at q
  · rename_i sl1 e1
    exact ⟨rho1, s1, sl, p, sl1, R1, S1, V1, e1, fun σ' S' _ _ => q rho1 H1 σ' .refl R1 S'⟩
  · exact q.elim
def isTup : Expr → Bool
  | .Tuple .. => true
  | .List .. => true
  | _ => false
theorem swN_ok {tg e : Expr} {env : Env} (h : (isTup tg && isTup e) = false) : swappedStores [tg] e env = pure none := by
  cases tg <;> cases e <;> first | rfl | cases h
theorem one_store {tg : Expr} {env : Env} (h : nostar tg = true) : (assignEach [tg] env).map (·.2) = [assign tg env] := by
  cases tg <;> first | rfl | cases h
theorem s_set {tg e : Expr} {cg ce : E} {p : Pos} (hn : noComp e = true) (hw : swappedStores [tg] e X.env = pure none) (hs : nostar tg = true) (he : PE X e (tI X.K cl W T call ce)) (hg : PG X tg (tG X.K cg)) : PS X (.Assign [tg] e p) (tS X.K cl W T call (.set cg ce)) :=
  PS_imp (ps_asg he hg (noComp_ok hn) hw (one_store hs)) fun D σ H h => tS_set h
/-- name = [..], the name a cell -/
theorem s_setX {y : Str} {elt : Expr} {gs : List Comprehension} {scope : Scope} {cg ce : E} {p py pos : Pos} (hc : X.env.scope.names.lookup y = some .cell) (he : PE X (.ListComp elt gs scope pos) (tI X.K cl W T call ce)) (hg : PG X (.Name y py) (tG X.K cg)) : PS X (.Assign [.Name y py] (.ListComp elt gs scope pos) p) (tS X.K cl W T call (.set cg ce)) :=
  PS_imp (ps_asg he hg (swC_ok (l := p.line) hc) rfl rfl) fun D σ H h => tS_set h
theorem s_setC {st : Stmt} {i : Nat} {c : E} (h : PS X st (tAsg (tI X.K cl W T call c) (gName i))) : PS X st (tS X.K cl W T call (.setC i c)) :=
  PS_imp h fun D σ H ⟨rho, s, sl, R, S, h⟩ => by
    simp only [ex] at h
    exact tS_seq R S h fun v H1 rho1 s1 p x1 R1 S1 V1 q => q rho1 H1 _ .refl R1 (slR_set S1 V1)
/-! a, b = x, y -/
def nameIn (sc : Scope) (ts : List Expr) : Expr → Option Str
  | .Name id pos => if sc.names.lookup id == some .local && pos.line == (ts.head?.map (·.pos.line)).getD 0 then some id else none
  | _ => none
def namesIn (sc : Scope) (ts : List Expr) : List Str := ts.filterMap (nameIn sc ts)
def swP (sc : Scope) (ts vs : List Expr) : Option (Option (List Str)) :=
  if sc.kind != .function then none else
  if !(ts.length == 2 || ts.length == 3) || vs.length != ts.length then some none else
  if vs.any (fun e => !nostar e) then some none else
  if (namesIn sc ts).length != ts.length || (namesIn sc ts).eraseDups.length != (namesIn sc ts).length then some none else
  if vs.all (foldedForSure 8) then some none else
  if vs.all (constantsAlone 8) then none else some (some (namesIn sc ts))
theorem swP_ok {ts vs : List Expr} {env : Env} {r : Option (List Str)} {a c : Nat} {b d : Pos} (h : swP env.scope ts vs = some r) : swappedStores [.Tuple ts a b] (.Tuple vs c d) env = pure r := by
  unfold swP at h
  split at h
  · cases h
  · rename_i h1
    have hk : env.blockKind = .function := by
      have : env.scope.kind = .function := by simpa using h1
      unfold Env.blockKind
      rw [this]
      rfl
    have hn : ∀ f : Expr → Option Str, (∀ e, f e = nameIn env.scope ts e) → ts.filterMap f = namesIn env.scope ts := fun f hf => by
      unfold namesIn
      congr 1
      funext e
      exact hf e
    have hst : ∀ f : Expr → Bool, (∀ e, f e = !nostar e) → vs.any f = vs.any (fun e => !nostar e) := fun f hf => by
      congr 1
      funext e
      exact hf e
    unfold swappedStores
    simp only [hk]
    rw [hst _ (by intro e; cases e <;> rfl)]
    split at h
    · rename_i h2
      cases h
      have : (!(ts.length == 2 || ts.length == 3) || vs.length != ts.length || ScopeKind.function != ScopeKind.function) = true := by
        rw [h2]; rfl
      simp only [this, if_true]
      try rfl
    · rename_i h2
      have : ¬ ((!(ts.length == 2 || ts.length == 3) || vs.length != ts.length || ScopeKind.function != ScopeKind.function) = true) := by
        intro z
        rw [Bool.or_eq_true] at z
        rcases z with z | z
        · exact h2 z
        · exact absurd z (by decide)
      rw [if_neg this]
      split at h
      · rename_i h3
        cases h
        rw [if_pos h3]
        try rfl
      · rename_i h3
        rw [if_neg h3]
        rw [hn _ (by intro e; cases e <;> rfl)]
        split at h
        · rename_i h4
          cases h
          rw [if_pos h4]
          try rfl
        · rename_i h4
          rw [if_neg h4]
          split at h
          · rename_i h5
            cases h
            rw [if_pos h5]
            try rfl
          · rename_i h5
            rw [if_neg h5]
            split at h
            · cases h
            · rename_i h6
              rw [if_neg h6]
              cases h
              rfl
theorem sing_sw {ts vs : List Expr} {env : Env} {a c l : Nat} {b d : Pos} : swapsWithSole [.Tuple ts a b] (.Tuple vs c d) l env = pure false := rfl
theorem s_par2 (G : Good cl T call k N sc W X) {i j : Nat} {x y : Str} {e1 e2 : Expr} {px py p b d : Pos} {a c0 : Nat} {c : E} (hi : N[i]? = some x) (hj : N[j]? = some y) (hij : i ≠ j) (hx : sc.names.lookup x = some .local) (hy : sc.names.lookup y = some .local)
    (ha : PA X [e1, e2] (tIA X.K cl W T call c)) (hw : swP sc [.Name x px, .Name y py] [e1, e2] = some (some [x, y])) : PS X (.Assign [.Tuple [.Name x px, .Name y py] a b] (.Tuple [e1, e2] c0 d) p) (tS X.K cl W T call (.par [i, j] c)) :=
  PS_imp (ps_par G.calm (by rw [G.hN]; exact G.nd) (by rw [G.hN]; exact hi) (by rw [G.hN]; exact hj) hij (by rw [G.hsc]; exact hx) (by rw [G.hsc]; exact hy) ha (swP_ok (by rw [G.hsc]; exact hw)) rfl) fun D σ H ⟨rho, s, sl, R, S, h⟩ => by
    simp only [ex] at h
    refine tSA_seq (f := fun vs s1 => match layN [i, j] vs sl with | some σ1 => .ok (.nx σ1) s1 | none => .bad) R S h fun vs H1 rho1 s1 ps x1 R1 S1 V1 q => ?_
    cases ps with
    | nil => simp only [layN] at q; exact q.elim
    | cons p1 ps =>
      cases ps with
      | nil => simp only [layN] at q; exact q.elim
      | cons p2 ps =>
        cases ps with
        | cons p3 ps => simp only [layN] at q; exact q.elim
        | nil =>
          simp only [layN] at q
          simp only [VRs] at V1
          obtain ⟨v1, _, rfl, V1, v2, _, rfl, V2, rfl⟩ := V1
          exact ⟨v1, v2, rfl, q rho1 H1 _ .refl R1 (slR_set (slR_set S1 V1) V2)⟩
theorem s_par3 (G : Good cl T call k N sc W X) {i j l : Nat} {x y z : Str} {e1 e2 e3 : Expr} {px py pz p b d : Pos} {a c0 : Nat} {c : E} (hi : N[i]? = some x) (hj : N[j]? = some y) (hl : N[l]? = some z) (hij : i ≠ j) (hil : i ≠ l) (hjl : j ≠ l) (hx : sc.names.lookup x = some .local) (hy : sc.names.lookup y = some .local) (hz : sc.names.lookup z = some .local)
    (ha : PA X [e1, e2, e3] (tIA X.K cl W T call c)) (hw : swP sc [.Name x px, .Name y py, .Name z pz] [e1, e2, e3] = some (some [x, y, z])) : PS X (.Assign [.Tuple [.Name x px, .Name y py, .Name z pz] a b] (.Tuple [e1, e2, e3] c0 d) p) (tS X.K cl W T call (.par [i, j, l] c)) :=
  PS_imp (ps_par3 G.calm (by rw [G.hN]; exact G.nd) (by rw [G.hN]; exact hi) (by rw [G.hN]; exact hj) (by rw [G.hN]; exact hl) hij hil hjl (by rw [G.hsc]; exact hx) (by rw [G.hsc]; exact hy) (by rw [G.hsc]; exact hz) ha (swP_ok (by rw [G.hsc]; exact hw)) rfl) fun D σ H ⟨rho, s, sl, R, S, h⟩ => by
    simp only [ex] at h
    refine tSA_seq (f := fun vs s1 => match layN [i, j, l] vs sl with | some σ1 => .ok (.nx σ1) s1 | none => .bad) R S h fun vs H1 rho1 s1 ps x1 R1 S1 V1 q => ?_
    cases ps with
    | nil => simp only [layN] at q; exact q.elim
    | cons p1 ps =>
      cases ps with
      | nil => simp only [layN] at q; exact q.elim
      | cons p2 ps =>
        cases ps with
        | nil => simp only [layN] at q; exact q.elim
        | cons p3 ps =>
          cases ps with
          | cons p4 ps => simp only [layN] at q; exact q.elim
          | nil =>
            simp only [layN] at q
            simp only [VRs] at V1
            obtain ⟨v1, _, rfl, V1, v2, _, rfl, V2, v3, _, rfl, V3, rfl⟩ := V1
            exact ⟨v1, v2, v3, rfl, q rho1 H1 _ .refl R1 (slR_set (slR_set (slR_set S1 V1) V2) V3)⟩
/-! o[i] = e -/
def noSub : Expr → Bool
  | .Slice .. => false
  | _ => true
theorem asg_sub {o i : Expr} {p : Pos} {env : Env} (h : noSub i = true) : ∀ v, assign (.Subscript o i p) env v = (do
      let ov ← holding [v] (eval o env)
      let iv ← holding [v, ov] (eval i env)
      standAt p
      holding [v, ov, iv] (setItem ov iv v)
      release [v, ov, iv] []) := by
  intro v
  cases i <;> first | rfl | cases h
theorem s_stl {o i e : Expr} {co ci ce : E} {p p' : Pos} (hn : noComp e = true) (hi0 : noSub i = true) (ho : PE X o (tI X.K cl W T call co)) (hi : PE X i (tI X.K cl W T call ci)) (he : PE X e (tI X.K cl W T call ce)) : PS X (.Assign [.Subscript o i p'] e p) (tS X.K cl W T call (.stl co ci ce)) :=
  PS_imp (ps_asg he (pg_sub ho hi set_list (asg_sub hi0)) (noComp_sole hn) (swN_ok rfl) rfl) fun D σ H ⟨rho, s, sl, R, S, h⟩ => by
    simp only [ex] at h
    refine tS_seq R S h fun v H1 rho1 s1 p x1 R1 S1 V1 g1 => ?_
    refine tS_seq R1 S1 g1 fun ov H2 rho2 s2 q x2 R2 S2 V2 g2 => ?_
    refine tS_seq R2 S2 g2 fun iv H3 rho3 s3 r x3 R3 S3 V3 g3 => ?_
    have V2' := x3.vr R2 V2
    have V1' := x3.vr R2 (x2.vr R1 V1)
    cases q with
    | lst n =>
      cases r with
      | int kk =>
        simp only [VR] at V2' V3
        obtain ⟨hn, rfl⟩ := V2'
        subst V3
        dsimp only at g3
        split at g3
        · rename_i xs e1
          split at g3
          · rename_i ys e2
            unfold setAt at e2
            split at e2
            · rename_i j e3
              cases e2
              obtain ⟨us, t, r⟩ := getW_ok R3 e1
              refine ⟨_, us, kk, j, rfl, rfl, t, by rw [← r.len]; exact e3, ?_⟩
              have rs : VRs X.K s3.n rho3 H3 (xs.set j p) (us.set j v) := VRs.set r j V1'
              obtain ⟨y1, y2⟩ := put_lst R3 e1 rs
              exact g3 rho3 _ σ y1 y2 (S3.mono y1 R3)
            · cases e2
          · exact g3.elim
        · exact g3.elim
      | _ => exact g3.elim
    | _ => cases r <;> exact g3.elim
theorem putP_ok {K : PySem.W.Frag} {n : Nat} {rho : Nat → Addr} {H : Hp} {kk : Key} {p : PV} {v : V} (hv : VR K n rho H p v) {kvs : List (Key × PV)} {ws : List (Key × V)} (hk : ws.map (·.1) = kvs.map (·.1)) (h : VRs K n rho H (kvs.map (·.2)) (ws.map (·.2))) :
    (putK ws kk v).map (·.1) = (putP kk p kvs).map (·.1) ∧ VRs K n rho H ((putP kk p kvs).map (·.2)) ((putK ws kk v).map (·.2)) := by
  have any : (ws.any fun kv => decide (kv.1 = kk)) = kvs.any fun kv => decide (kv.1 = kk) := by
    have e : ∀ {α : Type} (l : List (Key × α)), (l.any fun kv => decide (kv.1 = kk)) = (l.map (·.1)).any fun j => decide (j = kk) := fun l => by rw [List.any_map]; rfl
    rw [e ws, e kvs, hk]
  have maps : ∀ (ws : List (Key × V)) (kvs : List (Key × PV)), ws.map (·.1) = kvs.map (·.1) → VRs K n rho H (kvs.map (·.2)) (ws.map (·.2)) →
      (ws.map (fun kv => if kv.1 = kk then (kv.1, v) else kv)).map (·.1) = (kvs.map (fun kv => if kv.1 = kk then (kv.1, p) else kv)).map (·.1) ∧
      VRs K n rho H ((kvs.map (fun kv => if kv.1 = kk then (kv.1, p) else kv)).map (·.2)) ((ws.map (fun kv => if kv.1 = kk then (kv.1, v) else kv)).map (·.2)) := by
    intro ws
    induction ws with
    | nil =>
      intro kvs hk h
      cases kvs with
      | nil => exact ⟨rfl, h⟩
      | cons q r => simp at hk
    | cons w ws ih =>
      intro kvs hk h
      cases kvs with
      | nil => simp at hk
      | cons q r =>
        obtain ⟨w1, w2⟩ := w
        obtain ⟨q1, q2⟩ := q
        simp only [List.map_cons, List.cons.injEq] at hk
        obtain ⟨rfl, hk⟩ := hk
        simp only [List.map_cons, VRs] at h
        obtain ⟨z, rr, e, h1, h2⟩ := h
        obtain ⟨rfl, rfl⟩ := List.cons.inj e
        obtain ⟨i1, i2⟩ := ih r hk h2
        by_cases z : w1 = kk
        · simp only [List.map_cons, if_pos z, VRs, List.cons.injEq, true_and]
          exact ⟨i1, v, _, ⟨rfl, rfl⟩, hv, i2⟩
        · simp only [List.map_cons, if_neg z, VRs, List.cons.injEq, true_and]
          exact ⟨i1, w2, _, ⟨rfl, rfl⟩, h1, i2⟩
  unfold putK putP
  rw [any]
  split
  · exact maps ws kvs hk h
  · refine ⟨by simp [hk], ?_⟩
    rw [List.map_append, List.map_append]
    exact h.app (by simp only [List.map_cons, List.map_nil, VRs]; exact ⟨v, [], rfl, hv, rfl⟩)
theorem s_std (G : Good cl T call k N sc W X) {o i e : Expr} {co ci ce : E} {p p' : Pos} (hn : noComp e = true) (ho : PE X o (tI X.K cl W T call co)) (hi : PE X i (tI X.K cl W T call ci)) (he : PE X e (tI X.K cl W T call ce)) : PS X (.Assign [.Subscript o i p'] e p) (tS X.K cl W T call (.std co ci ce)) :=
  PS_imp (ps_dput (by have := G.un; omega) ho hi he (noComp_ok hn)) fun D σ H ⟨rho, s, sl, R, S, h⟩ => by
    simp only [ex] at h
    refine tS_seq R S h fun v H1 rho1 s1 p x1 R1 S1 V1 g1 => ?_
    refine tS_seq R1 S1 g1 fun ov H2 rho2 s2 q x2 R2 S2 V2 g2 => ?_
    refine tS_seq R2 S2 g2 fun iv H3 rho3 s3 r x3 R3 S3 V3 g3 => ?_
    have V2' := x3.vr R2 V2
    have V1' := x3.vr R2 (x2.vr R1 V1)
    cases q with
    | dct n =>
      simp only [VR] at V2'
      obtain ⟨hn, rfl⟩ := V2'
      dsimp only at g3
      split at g3
      · rename_i kvs kk e1 e2
        split at g3
        · rename_i hc
          obtain ⟨ws, d1, d2, d3⟩ := getD_ok R3 e1
          have := keyOf_ok e2 V3
          subst this
          obtain ⟨f1, f2⟩ := putP_ok (kk := kk) V1' d2 d3
          refine ⟨_, _, rfl, DPut.k d1 ?_, ?_⟩
          · have := congrArg List.length d2
            simp only [List.length_map] at this
            rw [this]
            exact Nat.lt_of_lt_of_le hc (cap_line (Nat.le_refl _))
          · obtain ⟨y1, y2⟩ := put_dct R3 e1 f1 f2
            exact g3 rho3 _ σ y1 y2 (S3.mono y1 R3)
        · exact g3.elim
      · exact g3.elim
    | _ => exact g3.elim
/-! ### loops -/
theorem s_while {t : Expr} {b : List Stmt} {cc cb : E} {p : Pos} (hp : PassesOwn (model X.prog X.w) X.A X.env X.xe) (ht : PT X t (tIT X.K cl W T call cc)) (hb : PSs X b (tS X.K cl W T call cb)) : PS X (.While t b [] p) (tS X.K cl W T call (.whl cc cb)) :=
  PS_imp (ps_while hp ht hb) fun D σ H ⟨rho, s, sl, R, S, h⟩ => by
    simp only [ex] at h
    let Wi : Nat → L2.St → Hp → Prop := fun m σ H => ∃ rho s sl, RSt X.K rho H s ∧ SlR X.K s.n rho H sl σ ∧ PostS X.K cl W rho s H (whileF (fun σ s => ev T call cc σ s) (fun σ s => ex T call cb σ s) m sl s) D
    refine ⟨Wi, ⟨T.fuel, rho, s, sl, R, S, h⟩, fun m σ H ⟨rho, s, sl, R, S, h⟩ => ?_⟩
    cases m with
    | zero => simp only [whileF] at h; exact h.elim
    | succ m =>
      simp only [whileF] at h
      refine ⟨rho, s, sl, R, S, ?_⟩
      cases e : ev T call cc sl s with
      | bad => simp only [e] at h; exact h
      | exc c fs s1 =>
        simp only [e] at h
        obtain ⟨C, names, e1, h⟩ := h
        exact ⟨C, names, e1, fun rho1 H1 d vs x r => h rho1 H1 d vs σ x r⟩
      | ok q s1 =>
        simp only [e] at h
        intro rho1 H1 v x1 R1 V1
        cases q with
        | bl b =>
          simp only [VR] at V1
          refine ⟨b, V1, ?_⟩
          cases b with
          | false =>
            rw [if_neg Bool.false_ne_true]
            exact h rho1 H1 σ x1 R1 (S.mono x1 R)
          | true =>
            rw [if_pos rfl]
            refine ⟨Wi m, fun σ' H' hN => ⟨m, Nat.lt_succ_self _, hN⟩, rho1, s1, sl, R1, S.mono x1 R, ?_⟩
            have h' := PostS.later (s' := s1) h x1 R R1
            dsimp only at h'
            cases e2 : ex T call cb sl s1 with
            | bad => simp only [e2] at h'; exact h'
            | exc c fs s2 => simp only [e2] at h'; exact h'
            | ok f s2 =>
              cases f with
              | nx sl2 =>
                simp only [e2] at h'
                exact fun rho2 H2 σ2 x2 R2 S2 => ⟨rho2, s2, sl2, R2, S2, PostS.later (s' := s2) h' x2 R1 R2⟩
              | ct sl2 =>
                simp only [e2] at h'
                exact fun rho2 H2 σ2 x2 R2 S2 => ⟨rho2, s2, sl2, R2, S2, PostS.later (s' := s2) h' x2 R1 R2⟩
              | bk sl2 => simp only [e2] at h'; exact h'
              | rt v => simp only [e2] at h'; exact h'
        | _ => exact h.elim
theorem s_for (G : Good cl T call k N sc W X) {tg it : Expr} {b : List Stmt} {cg ci cb : E} {p : Pos} (hp : PassesOwn (model X.prog X.w) X.A X.env X.xe) (hs : noSet it = true) (hi : PI X tg it (tII X.K cl W T call ci)) (hg : PG X tg (tG X.K cg)) (hb : PSs X b (tS X.K cl W T call cb)) : PS X (.For tg it b [] p) (tS X.K cl W T call (.sfor cg ci cb)) :=
  PS_imp (ps_for hp G.calm hi hg hb (noSet_ok hs)) fun D σ H ⟨rho, s, sl, R, S, h⟩ => by
    simp only [ex] at h
    refine ⟨rho, s, sl, R, S, ?_⟩
    cases e : evI T call ci sl s with
    | bad => simp only [e, Res.bind] at h; exact h
    | exc d fs s1 =>
      simp only [e, Res.bind] at h
      obtain ⟨C, names, e1, h⟩ := h
      exact ⟨C, names, e1, fun rho1 H1 d vs x r => h rho1 H1 d vs σ x r⟩
    | ok j s1 =>
      simp only [e, Res.bind] at h
      intro rho1 H1 J x1 R1 jr
      have h1 := PostS.later (s' := s1) h x1 R R1
      let Wi : Nat → Nat → L2.St → Hp → Prop := fun i m σ H => ∃ rho s sl, Ext s1 rho1 rho H1 H s ∧ RSt X.K rho H s ∧ SlR X.K s.n rho H sl σ ∧ PostS X.K cl W rho s H (forF j (fun v σ => lay cg v σ) (fun σ s => ex T call cb σ s) m i sl s) D
      refine ⟨Wi, ⟨j.most s1, rho1, s1, sl, .refl, R1, S.mono x1 R, h1⟩, fun i m σ H ⟨rho, s, sl, x, R, S, h⟩ => ?_⟩
      obtain ⟨jgo, jstop⟩ := jr rho H s x R
      cases m with
      | zero =>
        simp only [forF] at h
        split at h
        · rename_i e1
          exact .inl ⟨jstop i e1, h rho H σ .refl R S⟩
        · exact h.elim
      | succ m =>
        simp only [forF] at h
        split at h
        · rename_i e1
          exact .inl ⟨jstop i e1, h rho H σ .refl R S⟩
        · exact h.elim
        · rename_i v e1
          obtain ⟨go, yl⟩ := jgo i v e1
          refine .inr ⟨go, Wi (i + 1) m, fun σ' H' hN => ⟨m, Nat.lt_succ_self _, hN⟩, fun y H' hy => ?_⟩
          obtain ⟨x2, R2, V2⟩ := yl y H' hy
          cases el : lay cg v sl with
          | none => simp only [el] at h; exact h.elim
          | some sl1 =>
            simp only [el] at h
            refine ⟨rho, s, sl, v, sl1, R2, S.mono x2 R, V2, el, fun σ2 S2 _ _ => ⟨rho, s, sl1, R2, S2, ?_⟩⟩
            have h' := PostS.later (s' := s) h x2 R R2
            have x12 := x.trans x2 R1 R
            cases e2 : ex T call cb sl1 s with
            | bad => simp only [e2] at h'; exact h'
            | exc c fs s2 => simp only [e2] at h'; exact h'
            | ok f s2 =>
              cases f with
              | nx sl2 =>
                simp only [e2] at h'
                exact fun rho2 H2 σ2 x3 R3 S3 => ⟨rho2, s2, sl2, x12.trans x3 R1 R2, R3, S3, PostS.later (s' := s2) h' x3 R2 R3⟩
              | ct sl2 =>
                simp only [e2] at h'
                exact fun rho2 H2 σ2 x3 R3 S3 => ⟨rho2, s2, sl2, x12.trans x3 R1 R2, R3, S3, PostS.later (s' := s2) h' x3 R2 R3⟩
              | bk sl2 => simp only [e2] at h'; exact h'
              | rt v => simp only [e2] at h'; exact h'
end
end FI

namespace FI
open PySem PySem.Spec PyProof.Rows L2

/-! ### the text fits the codes -/
def asCmpS : Expr → Option (Expr × Expr × List Comprehension × Scope × Pos) | .ListComp a gs sc p => some (a, a, gs, sc, p) | _ => none
def asComp : Expr → Option (Expr × Expr × Expr × List Expr × Scope × Pos) | .ListComp a [⟨t, i, fs, 0⟩] sc p => some (a, t, i, fs, sc, p) | _ => none
def asApp : Expr → Option (Expr × Str × Pos × Expr × Pos) | .Call (.Attribute o n ap) [e] [] cp => some (o, n, ap, e, cp) | _ => none
def asDict : Expr → Option (List (Option Expr) × List Expr × Pos) | .Dict k v p => some (k, v, p) | _ => none
def asRev : Expr → Option (Expr × Nat × Pos × Pos × Pos × Pos) | .Subscript e (.Slice none none (some (.UnaryOp .USub (.Constant (.int 1) k p1) p2)) p3) p4 => some (e, k, p1, p2, p3, p4) | _ => none
def asStar : Expr → Option (Expr × Pos) | .Starred e p => some (e, p) | _ => none
theorem asComp_ok {e : Expr} {r} (h : asComp e = some r) : e = .ListComp r.1 [⟨r.2.1, r.2.2.1, r.2.2.2.1, 0⟩] r.2.2.2.2.1 r.2.2.2.2.2 := by unfold asComp at h; split at h <;> cases h; rfl
theorem asApp_ok {e : Expr} {r} (h : asApp e = some r) : e = .Call (.Attribute r.1 r.2.1 r.2.2.1) [r.2.2.2.1] [] r.2.2.2.2 := by unfold asApp at h; split at h <;> cases h; rfl
theorem asDict_ok {e : Expr} {r} (h : asDict e = some r) : e = .Dict r.1 r.2.1 r.2.2 := by unfold asDict at h; split at h <;> cases h; rfl
theorem asRev_ok {e : Expr} {r} (h : asRev e = some r) : e = .Subscript r.1 (.Slice none none (some (.UnaryOp .USub (.Constant (.int 1) r.2.1 r.2.2.1) r.2.2.2.1)) r.2.2.2.2.1) r.2.2.2.2.2 := by unfold asRev at h; split at h <;> cases h; rfl
theorem asStar_ok {e : Expr} {r} (h : asStar e = some r) : e = .Starred r.1 r.2 := by unfold asStar at h; split at h <;> cases h; rfl
def asRet : Stmt → Option (Expr × Pos) | .Return (some e) p => some (e, p) | _ => none
def asRetN : Stmt → Option Pos | .Return none p => some p | _ => none
def asExpr : Stmt → Option (Expr × Pos) | .Expr e p => some (e, p) | _ => none
def asPass : Stmt → Option Pos | .Pass p => some p | _ => none
def asCont : Stmt → Option Pos | .Continue p => some p | _ => none
def asBrk : Stmt → Option Pos | .Break p => some p | _ => none
def asIfS : Stmt → Option (Expr × List Stmt × List Stmt × Pos) | .If t a b p => some (t, a, b, p) | _ => none
def asWh : Stmt → Option (Expr × List Stmt × Pos) | .While t a [] p => some (t, a, p) | _ => none
def asFor : Stmt → Option (Expr × Expr × List Stmt × Pos) | .For t i a [] p => some (t, i, a, p) | _ => none
def asAsg : Stmt → Option (Expr × Expr × Pos) | .Assign [t] e p => some (t, e, p) | _ => none
theorem asRet_ok {e : Stmt} {r} (h : asRet e = some r) : e = .Return (some r.1) r.2 := by unfold asRet at h; split at h <;> cases h; rfl
theorem asRetN_ok {e : Stmt} {r} (h : asRetN e = some r) : e = .Return none r := by unfold asRetN at h; split at h <;> cases h; rfl
theorem asExpr_ok {e : Stmt} {r} (h : asExpr e = some r) : e = .Expr r.1 r.2 := by unfold asExpr at h; split at h <;> cases h; rfl
theorem asPass_ok {e : Stmt} {r} (h : asPass e = some r) : e = .Pass r := by unfold asPass at h; split at h <;> cases h; rfl
theorem asCont_ok {e : Stmt} {r} (h : asCont e = some r) : e = .Continue r := by unfold asCont at h; split at h <;> cases h; rfl
theorem asBrk_ok {e : Stmt} {r} (h : asBrk e = some r) : e = .Break r := by unfold asBrk at h; split at h <;> cases h; rfl
theorem asIfS_ok {e : Stmt} {r} (h : asIfS e = some r) : e = .If r.1 r.2.1 r.2.2.1 r.2.2.2 := by unfold asIfS at h; split at h <;> cases h; rfl
theorem asWh_ok {e : Stmt} {r} (h : asWh e = some r) : e = .While r.1 r.2.1 [] r.2.2 := by unfold asWh at h; split at h <;> cases h; rfl
theorem asFor_ok {e : Stmt} {r} (h : asFor e = some r) : e = .For r.1 r.2.1 r.2.2.1 [] r.2.2.2 := by unfold asFor at h; split at h <;> cases h; rfl
theorem asAsg_ok {e : Stmt} {r} (h : asAsg e = some r) : e = .Assign [r.1] r.2.1 r.2.2 := by unfold asAsg at h; split at h <;> cases h; rfl
def asN2 : List Expr → Option (Str × Pos × Str × Pos) | [.Name x p, .Name y q] => some (x, p, y, q) | _ => none
def asN3 : List Expr → Option (Str × Pos × Str × Pos × Str × Pos) | [.Name x p, .Name y q, .Name z r] => some (x, p, y, q, z, r) | _ => none
def as2 : List Expr → Option (Expr × Expr) | [x, y] => some (x, y) | _ => none
def as3 : List Expr → Option (Expr × Expr × Expr) | [x, y, z] => some (x, y, z) | _ => none
theorem asN2_ok {e : List Expr} {r} (h : asN2 e = some r) : e = [.Name r.1 r.2.1, .Name r.2.2.1 r.2.2.2] := by unfold asN2 at h; split at h <;> cases h; rfl
theorem asN3_ok {e : List Expr} {r} (h : asN3 e = some r) : e = [.Name r.1 r.2.1, .Name r.2.2.1 r.2.2.2.1, .Name r.2.2.2.2.1 r.2.2.2.2.2] := by unfold asN3 at h; split at h <;> cases h; rfl
theorem as2_ok {e : List Expr} {r} (h : as2 e = some r) : e = [r.1, r.2] := by unfold as2 at h; split at h <;> cases h; rfl
theorem as3_ok {e : List Expr} {r} (h : as3 e = some r) : e = [r.1, r.2.1, r.2.2] := by unfold as3 at h; split at h <;> cases h; rfl
def copE (o : Cop) (p : CmpOp) : Bool := decide (copOf o = p)
/-- tests that are walked as values -/
def plainT : Expr → Bool
  | .UnaryOp .Not .. => false
  | .BoolOp .. => false
  | .IfExp .. => false
  | .Compare .. => false
  | _ => true
def isCell (sc : Scope) (x : Str) : Bool := match sc.names.lookup x with | some .cell => true | _ => false

mutual
def ckE (T : Tab) (N : List Str) : E → Scope → Expr → Bool
  | .never, _, _ => true
  | .int i, _, e => match asInt e with | some r => decide (i = r.1) | none => false
  | .bl i, _, e => match asBl e with | some r => decide (i = r.1) | none => false
  | .non, _, e => (asNon e).isSome
  | .str i, _, e => match asStr e with | some r => decide (i = r.1) | none => false
  | .var i, sc, e => match asName e with | some r => decide (N[i]? = some r.1) && visB sc r.1 && !(r.1 == ("__debug__" : Str)) && !(r.1 == ("__classdict__" : Str)) | none => false
  | .glob k, sc, e => match asName e with | some r => decide (T.cnames[k]? = some r.1) && glB sc r.1 | none => false
  | .bin o a b, sc, e => match asBin e with | some r => opB o r.2.1 && ckE T N a sc r.1 && ckE T N b sc r.2.2.1 | none => false
  | .cmp o a b, sc, e => match asCmp e with | some r => copE o r.2.1 && noSet r.2.2.1 && ckE T N a sc r.1 && ckE T N b sc r.2.2.1 | none => false
  | .chain o q a b c, sc, e => match asCmp2 e with | some r => copB o r.2.1 && copB q r.2.2.1 && ckE T N a sc r.1 && ckE T N b sc r.2.2.2.1 && ckE T N c sc r.2.2.2.2.1 | none => false
  | .neg a, sc, e => match asUn e with | some r => decide (r.1 = .USub) && ckE T N a sc r.2.1 | none => false
  | .not a, sc, e => match asUn e with | some r => decide (r.1 = .Not) && ckE T N a sc r.2.1 | none => false
  | .one a, sc, e => match asBo1 e with | some r => ckE T N a sc r.2.1 | none => false
  | .and a b, sc, e => match asBo2 e with | some r => decide (r.1 = .And) && ckE T N a sc r.2.1 && ckE T N b sc (.BoolOp r.1 (r.2.2.1 :: r.2.2.2.1) r.2.2.2.2) | none => false
  | .or a b, sc, e => match asBo2 e with | some r => decide (r.1 = .Or) && ckE T N a sc r.2.1 && ckE T N b sc (.BoolOp r.1 (r.2.2.1 :: r.2.2.2.1) r.2.2.2.2) | none => false
  | .ife c a b, sc, e => match asIf e with | some r => ckTe T N c sc r.1 && ckE T N a sc r.2.1 && ckE T N b sc r.2.2.1 | none => false
  | .idx a b, sc, e => match asSub e with | some r => plainIx r.2.1 && ckE T N a sc r.1 && ckE T N b sc r.2.1 | none => false
  | .dix a b, sc, e => match asSub e with | some r => plainIx r.2.1 && ckE T N a sc r.1 && ckE T N b sc r.2.1 | none => false
  | .slice a lo hi, sc, e => match asSub e with
    | some r => (match asSl r.2.1 with
      | some l => ckE T N a sc r.1 && (match l.1 with | none => isNo lo | some x => !isNo lo && ckE T N lo sc x) && (match l.2.1 with | none => isNo hi | some x => !isNo hi && ckE T N hi sc x)
      | none => false)
    | none => false
  | .rev a, sc, e => match asRev e with | some r => ckE T N a sc r.1 | none => false
  | .tup a, sc, e => match asTup e with | some r => ckA T N a sc r.1 | none => false
  | .lst a, sc, e => match asLst e with | some r => ckA T N a sc r.1 | none => false
  | .isi t a, sc, e => match asCall e with
    | some r => (match r.2.2.2.1 with
      | [y] => (match asName y with
        | some z => decide (r.1 = ("isinstance" : Str)) && decide (z.1 = tyStr t) && glB sc r.1 && glB sc z.1 && nostar r.2.2.1 && ckE T N a sc r.2.2.1
        | none => false)
      | _ => false)
    | none => false
  | .call f a, sc, e => match asCall e with | some r => decide (T.fns[f]? = some r.1) && glB sc r.1 && (r.2.2.1 :: r.2.2.2.1).all nostar && ckA T N a sc (r.2.2.1 :: r.2.2.2.1) | none => false
  | .blt b a, sc, e => match asCall e with | some r => decide (r.1 = bltName b) && glB sc r.1 && (r.2.2.1 :: r.2.2.2.1).all nostar && ckA T N a sc (r.2.2.1 :: r.2.2.2.1) | none => false
  | .app a b, sc, e => match asApp e with | some r => decide (r.2.1 = ("append" : Str)) && (asName r.1).isSome && (r.2.2.1.endLine == r.2.2.2.2.line) && nostar r.2.2.2.1 && ckE T N a sc r.1 && ckE T N b sc r.2.2.2.1 | none => false
  | .ddisp a, sc, e => match asDict e with | some r => !r.1.isEmpty && decide (r.1.length ≤ 15) && ckP T N a sc r.1 r.2.1 | none => false
  | .comp own tg it c elt, sc, e => match asComp e with
    | some r => (slotsT tg).all (fun i => (own.map (·.2)).contains i) && blkC N sc r.2.2.2.2.1 own && noSet r.2.2.1 && ckI T N it sc r.2.1 r.2.2.1 && ckT N (fnC r.2.2.2.2.1) tg (relS r.2.2.2.2.1 sc) r.2.1 &&
      (match r.2.2.2.1 with
        | [] => (match c with | .bl true => true | _ => false)
        | [t] => ckTe T N c (relS r.2.2.2.2.1 sc) t
        | _ => false) && ckE T N elt (relS r.2.2.2.2.1 sc) r.1
    | none => false
  | _, _, _ => false
def ckTe (T : Tab) (N : List Str) : E → Scope → Expr → Bool
  | .never, _, _ => true
  | .not a, sc, e => match asUn e with | some r => decide (r.1 = .Not) && ckTe T N a sc r.2.1 | none => false
  | .one a, sc, e => match asBo1 e with | some r => ckTe T N a sc r.2.1 | none => false
  | .and a b, sc, e => match asBo2 e with | some r => decide (r.1 = .And) && ckTe T N a sc r.2.1 && ckTe T N b sc (.BoolOp r.1 (r.2.2.1 :: r.2.2.2.1) r.2.2.2.2) | none => false
  | .or a b, sc, e => match asBo2 e with | some r => decide (r.1 = .Or) && ckTe T N a sc r.2.1 && ckTe T N b sc (.BoolOp r.1 (r.2.2.1 :: r.2.2.2.1) r.2.2.2.2) | none => false
  | .cmp o a b, sc, e => match asCmp e with | some r => copE o r.2.1 && noSet r.2.2.1 && ckE T N a sc r.1 && ckE T N b sc r.2.2.1 | none => false
  | .chain o q a b c, sc, e => match asCmp2 e with | some r => copB o r.2.1 && copB q r.2.2.1 && ckE T N a sc r.1 && ckE T N b sc r.2.2.2.1 && ckE T N c sc r.2.2.2.2.1 | none => false
  | .call f a, sc, e => match asCall e with | some r => decide (T.fns[f]? = some r.1) && glB sc r.1 && (r.2.2.1 :: r.2.2.2.1).all nostar && ckA T N a sc (r.2.2.1 :: r.2.2.2.1) | none => false
  | .blt b a, sc, e => match asCall e with | some r => decide (r.1 = bltName b) && glB sc r.1 && (r.2.2.1 :: r.2.2.2.1).all nostar && ckA T N a sc (r.2.2.1 :: r.2.2.2.1) | none => false
  | .isi t a, sc, e => match asCall e with
    | some r => (match r.2.2.2.1 with
      | [y] => (match asName y with
        | some z => decide (r.1 = ("isinstance" : Str)) && decide (z.1 = tyStr t) && glB sc r.1 && glB sc z.1 && nostar r.2.2.1 && ckE T N a sc r.2.2.1
        | none => false)
      | _ => false)
    | none => false
  | .var i, sc, e => match asName e with | some r => decide (N[i]? = some r.1) && visB sc r.1 && !(r.1 == ("__debug__" : Str)) && !(r.1 == ("__classdict__" : Str)) | none => false
  | _, _, _ => false
def ckA (T : Tab) (N : List Str) : E → Scope → List Expr → Bool
  | .nil, _, es => es.isEmpty
  | .cons a r, sc, es => match es with | e :: es => nostar e && ckE T N a sc e && ckA T N r sc es | [] => false
  | .star a r, sc, es => match es with | e :: es => (match asStar e with | some x => ckE T N a sc x.1 && ckA T N r sc es | none => false) | [] => false
  | _, _, _ => false
def ckP (T : Tab) (N : List Str) : E → Scope → List (Option Expr) → List Expr → Bool
  | .nil, _, ks, vs => ks.isEmpty && vs.isEmpty
  | .cons a (.cons b r), sc, ks, vs => match ks, vs with | some k :: ks, v :: vs => ckE T N a sc k && ckE T N b sc v && ckP T N r sc ks vs | _, _ => false
  | _, _, _, _ => false
def ckI (T : Tab) (N : List Str) : E → Scope → Expr → Expr → Bool
  | .iseq a, sc, _, e => ckE T N a sc e
  | .irng a, sc, _, e => match asCall e with | some r => (match r.2.2.2.1 with | [] => decide (r.1 = ("range" : Str)) && glB sc r.1 && nostar r.2.2.1 && ckE T N a sc r.2.2.1 | _ => false) | none => false
  | .ienum a, sc, tg, e => match asTup tg, asCall e with | some _, some r => (match r.2.2.2.1 with | [] => decide (r.1 = ("enumerate" : Str)) && glB sc r.1 && nostar r.2.2.1 && ckE T N a sc r.2.2.1 | _ => false) | _, _ => false
  | .izip a, sc, tg, e => match asTup tg, asCall e with | some _, some r => (match r.2.2.2.1 with | [y] => decide (r.1 = ("zip" : Str)) && glB sc r.1 && [r.2.2.1, y].all nostar && ckA T N a sc [r.2.2.1, y] | _ => false) | _, _ => false
  | .izip3 a, sc, tg, e => match asTup tg, asCall e with | some _, some r => (match r.2.2.2.1 with | [y, z] => decide (r.1 = ("zip" : Str)) && glB sc r.1 && [r.2.2.1, y, z].all nostar && ckA T N a sc [r.2.2.1, y, z] | _ => false) | _, _ => false
  | _, _, _, _ => false
def ckT (N : List Str) (fb : Str → Bool) : E → Scope → Expr → Bool
  | .tn i, sc, e => match asName e with | some r => decide (N[i]? = some r.1) && (locB sc r.1 || (isCell sc r.1 && fb r.1)) | none => false
  | .tt a, sc, e => match asTup e with | some r => isLst a && decide (r.1.length = many a) && r.1.all nostar && ckTs N fb a sc r.1 | none => false
  | _, _, _ => false
def ckTs (N : List Str) (fb : Str → Bool) : E → Scope → List Expr → Bool
  | .nil, _, es => es.isEmpty
  | .cons a r, sc, es => match es with | e :: es => nostar e && ckT N fb a sc e && ckTs N fb r sc es | [] => false
  | _, _, _ => false
end
end FI

namespace FI
open PySem PySem.Spec PyProof.Rows L2

theorem marks_ok {op : CmpOp} {b : Expr} (h : noSet b = true) : behindInMarks op b = false := by cases b <;> first | rfl | cases h
section
variable {cl : Cls0} {T : Tab} {call : Nat → List PV → Sto → Res PV} {k : Nat} {N : List Str}
theorem h_cmp {sc : Scope} {W : WX} {X : Cx} (G : Good cl T call k N sc W X) {o : Cop} {a b : Expr} {ca cb : E} {p : Pos} (n1 : noSet b = true) (ha : PE X a (tI X.K cl W T call ca)) (hb : PE X b (tI X.K cl W T call cb)) : PE X (.Compare a [copOf o] [b] p) (tI X.K cl W T call (.cmp o ca cb)) :=
  PE_imp (pe_cmpR (op_cmp G.room o) ha hb (marks_ok n1)) fun σ H Q h => cmp_read o h
theorem h_cmpT {sc : Scope} {W : WX} {X : Cx} (G : Good cl T call k N sc W X) {o : Cop} {a b : Expr} {ca cb : E} {p : Pos} (n1 : noSet b = true) (ha : PE X a (tI X.K cl W T call ca)) (hb : PE X b (tI X.K cl W T call cb)) : PT X (.Compare a [copOf o] [b] p) (tIT X.K cl W T call (.cmp o ca cb)) :=
  PT_imp (pt_cmpR (op_cmp G.room o) ha hb (marks_ok n1)) fun σ H Q h => cmp_read o h
/-- a plain expression as a test -/
theorem h_val {W : WX} {X : Cx} {e : Expr} {c : E} (h : PE X e (tI X.K cl W T call c)) (he : ∀ whole, isTrue e X.env whole = (do let v ← whole; standAt e.pos; holding [v] (truthy v))) : PT X e (tIT X.K cl W T call c) :=
  PT_imp (pt_val h he) fun σ H Q h => h
theorem attrName {x : Str} {p : Pos} {nm : Str} {env : Env} {v : Sem Value} : attributeBase (.Name x p) nm env v = v := rfl

theorem PW_imp {X : Cx} {e : Expr} {t t' : TT} (h : PW X e t) (i : ∀ σ H Q, t' σ H Q → t σ H Q) : PW X e t' := ⟨fun wh pins s σ H Q I q => h.run wh pins s σ H Q I (i σ H Q q)⟩
def isBo : E → Bool
  | .never => true
  | .one _ => true
  | .and _ _ => true
  | .or _ _ => true
  | _ => false

theorem bo_of {b : E} {sc : Scope} {o : BoolOp} {l : List Expr} {p : Pos} (h : ckTe T N b sc (.BoolOp o l p) = true) : isBo b = true := by
  cases b <;> first | rfl | (simp [ckTe, asUn, asCmp, asCmp2, asCall, asName] at h)
theorem and_fit {K : PySem.W.Frag} {W : WX} {b : E} {σ : L2.St} {Q : Bool → Hp → Prop} : ∀ (v : V) (H1 : Hp), (∃ c, v = .bl c ∧ if c = true then tI K cl W T call b σ H1 (fun v H' => ∃ b, v = .bl b ∧ Q b H') else (∃ b, V.bl false = .bl b ∧ Q b H1)) → ∃ c, v = .bl c ∧ if c = true then tIT K cl W T call b σ H1 Q else Q false H1 := by
  rintro v H1 ⟨c, rfl, q⟩
  refine ⟨c, rfl, ?_⟩
  cases c with
  | true => exact q
  | false =>
    obtain ⟨b, e, q⟩ : ∃ b, V.bl false = .bl b ∧ Q b H1 := q
    cases e
    exact q
theorem or_fit {K : PySem.W.Frag} {W : WX} {b : E} {σ : L2.St} {Q : Bool → Hp → Prop} : ∀ (v : V) (H1 : Hp), (∃ c, v = .bl c ∧ if c = true then (∃ b, V.bl true = .bl b ∧ Q b H1) else tI K cl W T call b σ H1 (fun v H' => ∃ b, v = .bl b ∧ Q b H')) → ∃ c, v = .bl c ∧ if c = true then Q true H1 else tIT K cl W T call b σ H1 Q := by
  rintro v H1 ⟨c, rfl, q⟩
  refine ⟨c, rfl, ?_⟩
  cases c with
  | false => exact q
  | true =>
    obtain ⟨b, e, q⟩ : ∃ b, V.bl true = .bl b ∧ Q b H1 := q
    cases e
    exact q

mutual
theorem sE : ∀ (c : E) (sc : Scope) (W : WX) (X : Cx) (e : Expr), Good cl T call k N sc W X → ckE T N c sc e = true → PE X e (tI X.K cl W T call c)
  | .never, sc, W, X, e, G, h => g_never
  | .int i, sc, W, X, e, G, h => by
    simp only [ckE] at h
    split at h
    · rename_i r hr; have := asInt_ok hr; subst this
      simp only [decide_eq_true_eq] at h; subst h
      exact PE_imp pe_int fun σ H Q ⟨rho, s, sl, R, S, h⟩ => by simp only [ev] at h; exact h.same R (by simp only [VR])
    · cases h
  | .bl i, sc, W, X, e, G, h => by
    simp only [ckE] at h
    split at h
    · rename_i r hr; have := asBl_ok hr; subst this
      simp only [decide_eq_true_eq] at h; subst h
      exact PE_imp pe_bl fun σ H Q ⟨rho, s, sl, R, S, h⟩ => by simp only [ev] at h; exact h.same R (by simp only [VR])
    · cases h
  | .non, sc, W, X, e, G, h => by
    simp only [ckE] at h
    obtain ⟨r, hr⟩ := Option.isSome_iff_exists.mp h
    have := asNon_ok hr; subst this
    exact PE_imp pe_non fun σ H Q ⟨rho, s, sl, R, S, h⟩ => by simp only [ev] at h; exact h.same R (by simp only [VR])
  | .str i, sc, W, X, e, G, h => by
    simp only [ckE] at h
    split at h
    · rename_i r hr; have := asStr_ok hr; subst this
      simp only [decide_eq_true_eq] at h; subst h
      exact PE_imp pe_str fun σ H Q ⟨rho, s, sl, R, S, h⟩ => by simp only [ev] at h; exact h.same R (by simp only [VR])
    · cases h
  | .var i, sc, W, X, e, G, h => by
    simp only [ckE] at h
    split at h
    · rename_i r hr; have := asName_ok hr; subst this
      simp only [Bool.and_eq_true, decide_eq_true_eq, Bool.not_eq_true'] at h
      exact g_var G h.1.1.1 (visB_ok h.1.1.2) h.1.2 h.2
    · cases h
  | .glob i, sc, W, X, e, G, h => by
    simp only [ckE] at h
    split at h
    · rename_i r hr; have := asName_ok hr; subst this
      simp only [Bool.and_eq_true, decide_eq_true_eq] at h
      exact g_glob G h.1 h.2
    · cases h
  | .bin o a b, sc, W, X, e, G, h => by
    simp only [ckE] at h
    split at h
    · rename_i r hr; have := asBin_ok hr; subst this
      simp only [Bool.and_eq_true, opB, decide_eq_true_eq] at h
      rw [← h.1.1]
      exact g_bin (sE a sc W X _ G h.1.2) (sE b sc W X _ G h.2)
    · cases h
  | .cmp o a b, sc, W, X, e, G, h => by
    simp only [ckE] at h
    split at h
    · rename_i r hr; have := asCmp_ok hr; subst this
      simp only [Bool.and_eq_true, copE, decide_eq_true_eq] at h
      rw [← h.1.1.1]
      exact h_cmp G h.1.1.2 (sE a sc W X _ G h.1.2) (sE b sc W X _ G h.2)
    · cases h
  | .chain o q a b c, sc, W, X, e, G, h => by
    simp only [ckE] at h
    split at h
    · rename_i r hr; have := asCmp2_ok hr; subst this
      simp only [Bool.and_eq_true] at h
      obtain ⟨⟨⟨⟨h1, h2⟩, h3⟩, h4⟩, h5⟩ := h
      obtain ⟨e1, n1, n2⟩ := copB_ok h1
      obtain ⟨e2, n3, n4⟩ := copB_ok h2
      rw [← e1, ← e2]
      exact g_chain G (by rw [e1]; exact n1) (by rw [e1]; exact n2) (by rw [e2]; exact n3) (by rw [e2]; exact n4) (sE a sc W X _ G h3) (sE b sc W X _ G h4) (sE c sc W X _ G h5)
    · cases h
  | .neg a, sc, W, X, e, G, h => by
    simp only [ckE] at h
    split at h
    · rename_i r hr; have := asUn_ok hr; subst this
      simp only [Bool.and_eq_true, decide_eq_true_eq] at h
      rw [h.1]
      exact g_neg (sE a sc W X _ G h.2)
    · cases h
  | .not a, sc, W, X, e, G, h => by
    simp only [ckE] at h
    split at h
    · rename_i r hr; have := asUn_ok hr; subst this
      simp only [Bool.and_eq_true, decide_eq_true_eq] at h
      rw [h.1]
      exact g_not (sE a sc W X _ G h.2)
    · cases h
  | .one a, sc, W, X, e, G, h => by
    simp only [ckE] at h
    split at h
    · rename_i r hr; have := asBo1_ok hr; subst this
      exact PE_imp (pe_one (sE a sc W X _ G h)) fun σ H Q h => one_read h
    · cases h
  | .and a b, sc, W, X, e, G, h => by
    simp only [ckE] at h
    split at h
    · rename_i r hr; have := asBo2_ok hr; subst this
      simp only [Bool.and_eq_true, decide_eq_true_eq] at h
      obtain ⟨⟨h1, h2⟩, h3⟩ := h
      rw [h1] at h3 ⊢
      exact PE_imp (pe_and (sE a sc W X _ G h2) (sE b sc W X _ G h3)) fun σ H Q h => and_read h
    · cases h
  | .or a b, sc, W, X, e, G, h => by
    simp only [ckE] at h
    split at h
    · rename_i r hr; have := asBo2_ok hr; subst this
      simp only [Bool.and_eq_true, decide_eq_true_eq] at h
      obtain ⟨⟨h1, h2⟩, h3⟩ := h
      rw [h1] at h3 ⊢
      exact PE_imp (pe_or (sE a sc W X _ G h2) (sE b sc W X _ G h3)) fun σ H Q h => or_read h
    · cases h
  | .ife c a b, sc, W, X, e, G, h => by
    simp only [ckE] at h
    split at h
    · rename_i r hr; have := asIf_ok hr; subst this
      simp only [Bool.and_eq_true] at h
      refine PE_imp (pe_ifExp (sT c sc W X _ G h.1.1) (sE a sc W X _ G h.1.2) (sE b sc W X _ G h.2)) fun σ H Q h => ?_
      exact tI_imp (ife_read h) fun v H1 ⟨b, e, q⟩ => ⟨b, e, q⟩
    · cases h
  | .idx a b, sc, W, X, e, G, h => by
    simp only [ckE] at h
    split at h
    · rename_i r hr; have := asSub_ok hr; subst this
      simp only [Bool.and_eq_true] at h
      exact g_idx (plainIx_ok h.1.1) (sE a sc W X _ G h.1.2) (sE b sc W X _ G h.2)
    · cases h
  | .dix a b, sc, W, X, e, G, h => by
    simp only [ckE] at h
    split at h
    · rename_i r hr; have := asSub_ok hr; subst this
      simp only [Bool.and_eq_true] at h
      exact g_dix G h.1.1 (sE a sc W X _ G h.1.2) (sE b sc W X _ G h.2)
    · cases h
  | .slice a lo hi, sc, W, X, e, G, h => by
    simp only [ckE] at h
    split at h
    · rename_i r hr; have := asSub_ok hr; subst this
      split at h
      · rename_i l hl
        have e2 := asSl_ok hl
        rw [e2]
        simp only [Bool.and_eq_true] at h
        obtain ⟨⟨h1, h2⟩, h3⟩ := h
        refine g_slice (sE a sc W X _ G h1) (po_pt (fun z => ?_) fun x z => ?_) (po_pt (fun z => ?_) fun x z => ?_)
        · rw [z] at h2; exact h2
        · rw [z] at h2
          simp only [Bool.and_eq_true, Bool.not_eq_true'] at h2
          exact ⟨h2.1, sE lo sc W X _ G h2.2⟩
        · rw [z] at h3; exact h3
        · rw [z] at h3
          simp only [Bool.and_eq_true, Bool.not_eq_true'] at h3
          exact ⟨h3.1, sE hi sc W X _ G h3.2⟩
      · cases h
    · cases h
  | .rev a, sc, W, X, e, G, h => by
    simp only [ckE] at h
    split at h
    · rename_i r hr; have := asRev_ok hr; subst this
      exact g_rev (sE a sc W X _ G h)
    · cases h
  | .tup a, sc, W, X, e, G, h => by
    simp only [ckE] at h
    split at h
    · rename_i r hr; have := asTup_ok hr; subst this
      exact g_tup (sA a sc W X _ G h)
    · cases h
  | .lst a, sc, W, X, e, G, h => by
    simp only [ckE] at h
    split at h
    · rename_i r hr; have := asLst_ok hr; subst this
      exact g_lst (sA a sc W X _ G h)
    · cases h
  | .isi t a, sc, W, X, e, G, h => by
    simp only [ckE] at h
    split at h
    · rename_i r hr; have := asCall_ok hr; subst this
      split at h
      · rename_i y hy
        split at h
        · rename_i z hz
          have := asName_ok hz
          rw [hy, this]
          simp only [Bool.and_eq_true, decide_eq_true_eq] at h
          obtain ⟨⟨⟨⟨⟨h1, h2⟩, h3⟩, h4⟩, h5⟩, h6⟩ := h
          exact g_isi G h1 h2 h3 h4 h5 (sE a sc W X _ G h6)
        · cases h
      · cases h
    · cases h
  | .call f a, sc, W, X, e, G, h => by
    simp only [ckE] at h
    split at h
    · rename_i r hr; have := asCall_ok hr; subst this
      simp only [Bool.and_eq_true, decide_eq_true_eq] at h
      exact g_call G h.1.1.1 h.1.1.2 h.1.2 (sA a sc W X _ G h.2)
    · cases h
  | .blt b a, sc, W, X, e, G, h => by
    simp only [ckE] at h
    split at h
    · rename_i r hr; have := asCall_ok hr; subst this
      simp only [Bool.and_eq_true, decide_eq_true_eq] at h
      exact g_blt G h.1.1.1 h.1.1.2 h.1.2 (sA a sc W X _ G h.2)
    · cases h
  | .app a b, sc, W, X, e, G, h => by
    simp only [ckE] at h
    split at h
    · rename_i r hr; have := asApp_ok hr; subst this
      simp only [Bool.and_eq_true, decide_eq_true_eq] at h
      obtain ⟨⟨⟨⟨⟨h1, h2⟩, h3⟩, h4⟩, h5⟩, h6⟩ := h
      obtain ⟨z, hz⟩ := Option.isSome_iff_exists.mp h2
      have e2 := asName_ok hz
      exact g_app h1 (by rw [e2]; exact attrName) h3 h4 (sE a sc W X _ G h5) (sE b sc W X _ G h6)
    · cases h
  | .ddisp a, sc, W, X, e, G, h => by
    simp only [ckE] at h
    split at h
    · rename_i r hr; have := asDict_ok hr; subst this
      simp only [Bool.and_eq_true, decide_eq_true_eq, Bool.not_eq_true'] at h
      exact g_ddisp (sP a sc W X _ _ G h.2) (fun z => by rw [z] at h; exact absurd h.1.1 (by decide)) h.1.2
    · cases h
  | .comp own tg it c elt, sc, W, X, e, G, h => by
    simp only [ckE] at h
    split at h
    · rename_i r hr; have := asComp_ok hr; subst this
      simp only [Bool.and_eq_true] at h
      obtain ⟨⟨⟨⟨⟨⟨h1, h2⟩, h3⟩, h4⟩, h5⟩, h6⟩, h7⟩ := h
      refine g_comp G (fun i hi => by simpa using List.all_eq_true.mp h1 i hi) (sI it sc W X _ _ G h4) (blkOk_by h2) h3 (fun Y GY e1 e2 => by rw [← e1]; exact sG tg _ WF Y _ _ GY e2 h5) (fun Y GY e1 _ => ?_) (fun Y GY e1 _ => by rw [← e1]; exact sE elt _ WF Y _ GY h7)
      rw [← e1]
      generalize r.2.2.2.1 = fs at h6
      cases fs with
      | nil =>
        dsimp only at h6
        split at h6
        · exact pts_yes
        · cases h6
      | cons t fs =>
        cases fs with
        | nil => exact pts_one (sT c _ WF Y _ GY h6)
        | cons _ _ => cases h6
    · cases h
  | .nil, sc, W, X, e, G, h => by simp [ckE] at h
  | .cons _ _, sc, W, X, e, G, h => by simp [ckE] at h
  | .no, sc, W, X, e, G, h => by simp [ckE] at h
  | .star _ _, sc, W, X, e, G, h => by simp [ckE] at h
  | .tn _, sc, W, X, e, G, h => by simp [ckE] at h
  | .tt _, sc, W, X, e, G, h => by simp [ckE] at h
  | .ts _ _, sc, W, X, e, G, h => by simp [ckE] at h
  | .iseq _, sc, W, X, e, G, h => by simp [ckE] at h
  | .irng _, sc, W, X, e, G, h => by simp [ckE] at h
  | .irng2 _ _, sc, W, X, e, G, h => by simp [ckE] at h
  | .ienum _, sc, W, X, e, G, h => by simp [ckE] at h
  | .izip _, sc, W, X, e, G, h => by simp [ckE] at h
  | .izip3 _, sc, W, X, e, G, h => by simp [ckE] at h
  | .skip, sc, W, X, e, G, h => by simp [ckE] at h
  | .seq _ _, sc, W, X, e, G, h => by simp [ckE] at h
  | .set _ _, sc, W, X, e, G, h => by simp [ckE] at h
  | .ret _, sc, W, X, e, G, h => by simp [ckE] at h
  | .retN, sc, W, X, e, G, h => by simp [ckE] at h
  | .expr _, sc, W, X, e, G, h => by simp [ckE] at h
  | .pass, sc, W, X, e, G, h => by simp [ckE] at h
  | .cont, sc, W, X, e, G, h => by simp [ckE] at h
  | .brk, sc, W, X, e, G, h => by simp [ckE] at h
  | .sif _ _ _, sc, W, X, e, G, h => by simp [ckE] at h
  | .whl _ _, sc, W, X, e, G, h => by simp [ckE] at h
  | .sfor _ _ _, sc, W, X, e, G, h => by simp [ckE] at h
  | .raise _ _, sc, W, X, e, G, h => by simp [ckE] at h
  | .stl _ _ _, sc, W, X, e, G, h => by simp [ckE] at h
  | .std _ _ _, sc, W, X, e, G, h => by simp [ckE] at h
  | .setC _ _, sc, W, X, e, G, h => by simp [ckE] at h
  | .par _ _, sc, W, X, e, G, h => by simp [ckE] at h
theorem sT : ∀ (c : E) (sc : Scope) (W : WX) (X : Cx) (e : Expr), Good cl T call k N sc W X → ckTe T N c sc e = true → PT X e (tIT X.K cl W T call c)
  | .never, sc, W, X, e, G, h => g_neverT
  | .not a, sc, W, X, e, G, h => by
    simp only [ckTe] at h
    split at h
    · rename_i r hr; have := asUn_ok hr; subst this
      simp only [Bool.and_eq_true, decide_eq_true_eq] at h
      rw [h.1]
      exact g_notT (sT a sc W X _ G h.2)
    · cases h
  | .one a, sc, W, X, e, G, h => (sW (.one a) sc W X e G h rfl).pt
  | .and a b, sc, W, X, e, G, h => (sW (.and a b) sc W X e G h rfl).pt
  | .or a b, sc, W, X, e, G, h => (sW (.or a b) sc W X e G h rfl).pt
  | .cmp o a b, sc, W, X, e, G, h => by
    simp only [ckTe] at h
    split at h
    · rename_i r hr; have := asCmp_ok hr; subst this
      simp only [Bool.and_eq_true, copE, decide_eq_true_eq] at h
      rw [← h.1.1.1]
      exact h_cmpT G h.1.1.2 (sE a sc W X _ G h.1.2) (sE b sc W X _ G h.2)
    · cases h
  | .chain o q a b c, sc, W, X, e, G, h => by
    simp only [ckTe] at h
    split at h
    · rename_i r hr; have := asCmp2_ok hr; subst this
      simp only [Bool.and_eq_true] at h
      obtain ⟨⟨⟨⟨h1, h2⟩, h3⟩, h4⟩, h5⟩ := h
      obtain ⟨e1, n1, n2⟩ := copB_ok h1
      obtain ⟨e2, n3, n4⟩ := copB_ok h2
      rw [← e1, ← e2]
      exact g_chainT G (by rw [e1]; exact n1) (by rw [e1]; exact n2) (by rw [e2]; exact n3) (by rw [e2]; exact n4) (sE a sc W X _ G h3) (sE b sc W X _ G h4) (sE c sc W X _ G h5)
    · cases h
  | .call f a, sc, W, X, e, G, h => by
    simp only [ckTe] at h
    split at h
    · rename_i r hr; have := asCall_ok hr; subst this
      simp only [Bool.and_eq_true, decide_eq_true_eq] at h
      exact h_val (g_call G h.1.1.1 h.1.1.2 h.1.2 (sA a sc W X _ G h.2)) (fun _ => rfl)
    · cases h
  | .blt b a, sc, W, X, e, G, h => by
    simp only [ckTe] at h
    split at h
    · rename_i r hr; have := asCall_ok hr; subst this
      simp only [Bool.and_eq_true, decide_eq_true_eq] at h
      exact h_val (g_blt G h.1.1.1 h.1.1.2 h.1.2 (sA a sc W X _ G h.2)) (fun _ => rfl)
    · cases h
  | .isi t a, sc, W, X, e, G, h => by
    simp only [ckTe] at h
    split at h
    · rename_i r hr; have := asCall_ok hr; subst this
      split at h
      · rename_i y hy
        split at h
        · rename_i z hz
          have := asName_ok hz
          rw [hy, this]
          simp only [Bool.and_eq_true, decide_eq_true_eq] at h
          obtain ⟨⟨⟨⟨⟨h1, h2⟩, h3⟩, h4⟩, h5⟩, h6⟩ := h
          exact h_val (g_isi G h1 h2 h3 h4 h5 (sE a sc W X _ G h6)) (fun _ => rfl)
        · cases h
      · cases h
    · cases h
  | .var i, sc, W, X, e, G, h => by
    simp only [ckTe] at h
    split at h
    · rename_i r hr; have := asName_ok hr; subst this
      simp only [Bool.and_eq_true, decide_eq_true_eq, Bool.not_eq_true'] at h
      exact h_val (g_var G h.1.1.1 (visB_ok h.1.1.2) h.1.2 h.2) (fun _ => rfl)
    · cases h
  | .int _, sc, W, X, e, G, h => by simp [ckTe] at h
  | .bl _, sc, W, X, e, G, h => by simp [ckTe] at h
  | .non, sc, W, X, e, G, h => by simp [ckTe] at h
  | .str _, sc, W, X, e, G, h => by simp [ckTe] at h
  | .glob _, sc, W, X, e, G, h => by simp [ckTe] at h
  | .nil, sc, W, X, e, G, h => by simp [ckTe] at h
  | .cons _ _, sc, W, X, e, G, h => by simp [ckTe] at h
  | .tup _, sc, W, X, e, G, h => by simp [ckTe] at h
  | .lst _, sc, W, X, e, G, h => by simp [ckTe] at h
  | .bin _ _ _, sc, W, X, e, G, h => by simp [ckTe] at h
  | .neg _, sc, W, X, e, G, h => by simp [ckTe] at h
  | .ife _ _ _, sc, W, X, e, G, h => by simp [ckTe] at h
  | .idx _ _, sc, W, X, e, G, h => by simp [ckTe] at h
  | .slice _ _ _, sc, W, X, e, G, h => by simp [ckTe] at h
  | .no, sc, W, X, e, G, h => by simp [ckTe] at h
  | .comp _ _ _ _ _, sc, W, X, e, G, h => by simp [ckTe] at h
  | .app _ _, sc, W, X, e, G, h => by simp [ckTe] at h
  | .star _ _, sc, W, X, e, G, h => by simp [ckTe] at h
  | .dix _ _, sc, W, X, e, G, h => by simp [ckTe] at h
  | .ddisp _, sc, W, X, e, G, h => by simp [ckTe] at h
  | .rev _, sc, W, X, e, G, h => by simp [ckTe] at h
  | .tn _, sc, W, X, e, G, h => by simp [ckTe] at h
  | .tt _, sc, W, X, e, G, h => by simp [ckTe] at h
  | .ts _ _, sc, W, X, e, G, h => by simp [ckTe] at h
  | .iseq _, sc, W, X, e, G, h => by simp [ckTe] at h
  | .irng _, sc, W, X, e, G, h => by simp [ckTe] at h
  | .irng2 _ _, sc, W, X, e, G, h => by simp [ckTe] at h
  | .ienum _, sc, W, X, e, G, h => by simp [ckTe] at h
  | .izip _, sc, W, X, e, G, h => by simp [ckTe] at h
  | .izip3 _, sc, W, X, e, G, h => by simp [ckTe] at h
  | .skip, sc, W, X, e, G, h => by simp [ckTe] at h
  | .seq _ _, sc, W, X, e, G, h => by simp [ckTe] at h
  | .set _ _, sc, W, X, e, G, h => by simp [ckTe] at h
  | .ret _, sc, W, X, e, G, h => by simp [ckTe] at h
  | .retN, sc, W, X, e, G, h => by simp [ckTe] at h
  | .expr _, sc, W, X, e, G, h => by simp [ckTe] at h
  | .pass, sc, W, X, e, G, h => by simp [ckTe] at h
  | .cont, sc, W, X, e, G, h => by simp [ckTe] at h
  | .brk, sc, W, X, e, G, h => by simp [ckTe] at h
  | .sif _ _ _, sc, W, X, e, G, h => by simp [ckTe] at h
  | .whl _ _, sc, W, X, e, G, h => by simp [ckTe] at h
  | .sfor _ _ _, sc, W, X, e, G, h => by simp [ckTe] at h
  | .raise _ _, sc, W, X, e, G, h => by simp [ckTe] at h
  | .stl _ _ _, sc, W, X, e, G, h => by simp [ckTe] at h
  | .std _ _ _, sc, W, X, e, G, h => by simp [ckTe] at h
  | .setC _ _, sc, W, X, e, G, h => by simp [ckTe] at h
  | .par _ _, sc, W, X, e, G, h => by simp [ckTe] at h
theorem sA : ∀ (c : E) (sc : Scope) (W : WX) (X : Cx) (es : List Expr), Good cl T call k N sc W X → ckA T N c sc es = true → PA X es (tIA X.K cl W T call c)
  | .nil, sc, W, X, es, G, h => by
    simp only [ckA] at h
    cases es with
    | nil => exact a_nil
    | cons _ _ => cases h
  | .cons a r, sc, W, X, es, G, h => by
    simp only [ckA] at h
    cases es with
    | nil => cases h
    | cons e es =>
      simp only [Bool.and_eq_true] at h
      exact a_cons h.1.1 (sE a sc W X _ G h.1.2) (sA r sc W X _ G h.2)
  | .star a r, sc, W, X, es, G, h => by
    simp only [ckA] at h
    cases es with
    | nil => cases h
    | cons e es =>
      dsimp only at h
      split at h
      · rename_i x hx; have := asStar_ok hx; subst this
        simp only [Bool.and_eq_true] at h
        exact a_star (sE a sc W X _ G h.1) (sA r sc W X _ G h.2)
      · cases h
  | .int _, sc, W, X, e, G, h => by simp [ckA] at h
  | .bl _, sc, W, X, e, G, h => by simp [ckA] at h
  | .non, sc, W, X, e, G, h => by simp [ckA] at h
  | .str _, sc, W, X, e, G, h => by simp [ckA] at h
  | .var _, sc, W, X, e, G, h => by simp [ckA] at h
  | .glob _, sc, W, X, e, G, h => by simp [ckA] at h
  | .tup _, sc, W, X, e, G, h => by simp [ckA] at h
  | .lst _, sc, W, X, e, G, h => by simp [ckA] at h
  | .bin _ _ _, sc, W, X, e, G, h => by simp [ckA] at h
  | .cmp _ _ _, sc, W, X, e, G, h => by simp [ckA] at h
  | .chain _ _ _ _ _, sc, W, X, e, G, h => by simp [ckA] at h
  | .neg _, sc, W, X, e, G, h => by simp [ckA] at h
  | .not _, sc, W, X, e, G, h => by simp [ckA] at h
  | .and _ _, sc, W, X, e, G, h => by simp [ckA] at h
  | .or _ _, sc, W, X, e, G, h => by simp [ckA] at h
  | .one _, sc, W, X, e, G, h => by simp [ckA] at h
  | .ife _ _ _, sc, W, X, e, G, h => by simp [ckA] at h
  | .idx _ _, sc, W, X, e, G, h => by simp [ckA] at h
  | .slice _ _ _, sc, W, X, e, G, h => by simp [ckA] at h
  | .no, sc, W, X, e, G, h => by simp [ckA] at h
  | .isi _ _, sc, W, X, e, G, h => by simp [ckA] at h
  | .call _ _, sc, W, X, e, G, h => by simp [ckA] at h
  | .blt _ _, sc, W, X, e, G, h => by simp [ckA] at h
  | .comp _ _ _ _ _, sc, W, X, e, G, h => by simp [ckA] at h
  | .app _ _, sc, W, X, e, G, h => by simp [ckA] at h
  | .never, sc, W, X, e, G, h => by simp [ckA] at h
  | .dix _ _, sc, W, X, e, G, h => by simp [ckA] at h
  | .ddisp _, sc, W, X, e, G, h => by simp [ckA] at h
  | .rev _, sc, W, X, e, G, h => by simp [ckA] at h
  | .tn _, sc, W, X, e, G, h => by simp [ckA] at h
  | .tt _, sc, W, X, e, G, h => by simp [ckA] at h
  | .ts _ _, sc, W, X, e, G, h => by simp [ckA] at h
  | .iseq _, sc, W, X, e, G, h => by simp [ckA] at h
  | .irng _, sc, W, X, e, G, h => by simp [ckA] at h
  | .irng2 _ _, sc, W, X, e, G, h => by simp [ckA] at h
  | .ienum _, sc, W, X, e, G, h => by simp [ckA] at h
  | .izip _, sc, W, X, e, G, h => by simp [ckA] at h
  | .izip3 _, sc, W, X, e, G, h => by simp [ckA] at h
  | .skip, sc, W, X, e, G, h => by simp [ckA] at h
  | .seq _ _, sc, W, X, e, G, h => by simp [ckA] at h
  | .set _ _, sc, W, X, e, G, h => by simp [ckA] at h
  | .ret _, sc, W, X, e, G, h => by simp [ckA] at h
  | .retN, sc, W, X, e, G, h => by simp [ckA] at h
  | .expr _, sc, W, X, e, G, h => by simp [ckA] at h
  | .pass, sc, W, X, e, G, h => by simp [ckA] at h
  | .cont, sc, W, X, e, G, h => by simp [ckA] at h
  | .brk, sc, W, X, e, G, h => by simp [ckA] at h
  | .sif _ _ _, sc, W, X, e, G, h => by simp [ckA] at h
  | .whl _ _, sc, W, X, e, G, h => by simp [ckA] at h
  | .sfor _ _ _, sc, W, X, e, G, h => by simp [ckA] at h
  | .raise _ _, sc, W, X, e, G, h => by simp [ckA] at h
  | .stl _ _ _, sc, W, X, e, G, h => by simp [ckA] at h
  | .std _ _ _, sc, W, X, e, G, h => by simp [ckA] at h
  | .setC _ _, sc, W, X, e, G, h => by simp [ckA] at h
  | .par _ _, sc, W, X, e, G, h => by simp [ckA] at h
theorem sP : ∀ (c : E) (sc : Scope) (W : WX) (X : Cx) (ks : List (Option Expr)) (vs : List Expr), Good cl T call k N sc W X → ckP T N c sc ks vs = true → PP X cl W T call ks vs c
  | .nil, sc, W, X, ks, vs, G, h => by
    simp only [ckP, Bool.and_eq_true] at h
    cases ks with
    | nil =>
      cases vs with
      | nil => exact .nil
      | cons _ _ => cases h.2
    | cons _ _ => cases h.1
  | .cons a (.cons b r), sc, W, X, ks, vs, G, h => by
    simp only [ckP] at h
    split at h
    · simp only [Bool.and_eq_true] at h
      exact .cons (sE a sc W X _ G h.1.1) (sE b sc W X _ G h.1.2) (sP r sc W X _ _ G h.2)
    · cases h
  | .cons _ (.int _), sc, W, X, ks, vs, G, h => by simp [ckP] at h
  | .cons _ (.bl _), sc, W, X, ks, vs, G, h => by simp [ckP] at h
  | .cons _ (.non), sc, W, X, ks, vs, G, h => by simp [ckP] at h
  | .cons _ (.str _), sc, W, X, ks, vs, G, h => by simp [ckP] at h
  | .cons _ (.var _), sc, W, X, ks, vs, G, h => by simp [ckP] at h
  | .cons _ (.glob _), sc, W, X, ks, vs, G, h => by simp [ckP] at h
  | .cons _ (.nil), sc, W, X, ks, vs, G, h => by simp [ckP] at h
  | .cons _ (.tup _), sc, W, X, ks, vs, G, h => by simp [ckP] at h
  | .cons _ (.lst _), sc, W, X, ks, vs, G, h => by simp [ckP] at h
  | .cons _ (.bin _ _ _), sc, W, X, ks, vs, G, h => by simp [ckP] at h
  | .cons _ (.cmp _ _ _), sc, W, X, ks, vs, G, h => by simp [ckP] at h
  | .cons _ (.chain _ _ _ _ _), sc, W, X, ks, vs, G, h => by simp [ckP] at h
  | .cons _ (.neg _), sc, W, X, ks, vs, G, h => by simp [ckP] at h
  | .cons _ (.not _), sc, W, X, ks, vs, G, h => by simp [ckP] at h
  | .cons _ (.and _ _), sc, W, X, ks, vs, G, h => by simp [ckP] at h
  | .cons _ (.or _ _), sc, W, X, ks, vs, G, h => by simp [ckP] at h
  | .cons _ (.one _), sc, W, X, ks, vs, G, h => by simp [ckP] at h
  | .cons _ (.ife _ _ _), sc, W, X, ks, vs, G, h => by simp [ckP] at h
  | .cons _ (.idx _ _), sc, W, X, ks, vs, G, h => by simp [ckP] at h
  | .cons _ (.slice _ _ _), sc, W, X, ks, vs, G, h => by simp [ckP] at h
  | .cons _ (.no), sc, W, X, ks, vs, G, h => by simp [ckP] at h
  | .cons _ (.isi _ _), sc, W, X, ks, vs, G, h => by simp [ckP] at h
  | .cons _ (.call _ _), sc, W, X, ks, vs, G, h => by simp [ckP] at h
  | .cons _ (.blt _ _), sc, W, X, ks, vs, G, h => by simp [ckP] at h
  | .cons _ (.comp _ _ _ _ _), sc, W, X, ks, vs, G, h => by simp [ckP] at h
  | .cons _ (.app _ _), sc, W, X, ks, vs, G, h => by simp [ckP] at h
  | .cons _ (.never), sc, W, X, ks, vs, G, h => by simp [ckP] at h
  | .cons _ (.star _ _), sc, W, X, ks, vs, G, h => by simp [ckP] at h
  | .cons _ (.dix _ _), sc, W, X, ks, vs, G, h => by simp [ckP] at h
  | .cons _ (.ddisp _), sc, W, X, ks, vs, G, h => by simp [ckP] at h
  | .cons _ (.rev _), sc, W, X, ks, vs, G, h => by simp [ckP] at h
  | .cons _ (.tn _), sc, W, X, ks, vs, G, h => by simp [ckP] at h
  | .cons _ (.tt _), sc, W, X, ks, vs, G, h => by simp [ckP] at h
  | .cons _ (.ts _ _), sc, W, X, ks, vs, G, h => by simp [ckP] at h
  | .cons _ (.iseq _), sc, W, X, ks, vs, G, h => by simp [ckP] at h
  | .cons _ (.irng _), sc, W, X, ks, vs, G, h => by simp [ckP] at h
  | .cons _ (.irng2 _ _), sc, W, X, ks, vs, G, h => by simp [ckP] at h
  | .cons _ (.ienum _), sc, W, X, ks, vs, G, h => by simp [ckP] at h
  | .cons _ (.izip _), sc, W, X, ks, vs, G, h => by simp [ckP] at h
  | .cons _ (.izip3 _), sc, W, X, ks, vs, G, h => by simp [ckP] at h
  | .cons _ (.skip), sc, W, X, ks, vs, G, h => by simp [ckP] at h
  | .cons _ (.seq _ _), sc, W, X, ks, vs, G, h => by simp [ckP] at h
  | .cons _ (.set _ _), sc, W, X, ks, vs, G, h => by simp [ckP] at h
  | .cons _ (.ret _), sc, W, X, ks, vs, G, h => by simp [ckP] at h
  | .cons _ (.retN), sc, W, X, ks, vs, G, h => by simp [ckP] at h
  | .cons _ (.expr _), sc, W, X, ks, vs, G, h => by simp [ckP] at h
  | .cons _ (.pass), sc, W, X, ks, vs, G, h => by simp [ckP] at h
  | .cons _ (.cont), sc, W, X, ks, vs, G, h => by simp [ckP] at h
  | .cons _ (.brk), sc, W, X, ks, vs, G, h => by simp [ckP] at h
  | .cons _ (.sif _ _ _), sc, W, X, ks, vs, G, h => by simp [ckP] at h
  | .cons _ (.whl _ _), sc, W, X, ks, vs, G, h => by simp [ckP] at h
  | .cons _ (.sfor _ _ _), sc, W, X, ks, vs, G, h => by simp [ckP] at h
  | .cons _ (.raise _ _), sc, W, X, ks, vs, G, h => by simp [ckP] at h
  | .cons _ (.stl _ _ _), sc, W, X, ks, vs, G, h => by simp [ckP] at h
  | .cons _ (.std _ _ _), sc, W, X, ks, vs, G, h => by simp [ckP] at h
  | .cons _ (.setC _ _), sc, W, X, ks, vs, G, h => by simp [ckP] at h
  | .cons _ (.par _ _), sc, W, X, ks, vs, G, h => by simp [ckP] at h
  | .int _, sc, W, X, ks, vs, G, h => by simp [ckP] at h
  | .bl _, sc, W, X, ks, vs, G, h => by simp [ckP] at h
  | .non, sc, W, X, ks, vs, G, h => by simp [ckP] at h
  | .str _, sc, W, X, ks, vs, G, h => by simp [ckP] at h
  | .var _, sc, W, X, ks, vs, G, h => by simp [ckP] at h
  | .glob _, sc, W, X, ks, vs, G, h => by simp [ckP] at h
  | .tup _, sc, W, X, ks, vs, G, h => by simp [ckP] at h
  | .lst _, sc, W, X, ks, vs, G, h => by simp [ckP] at h
  | .bin _ _ _, sc, W, X, ks, vs, G, h => by simp [ckP] at h
  | .cmp _ _ _, sc, W, X, ks, vs, G, h => by simp [ckP] at h
  | .chain _ _ _ _ _, sc, W, X, ks, vs, G, h => by simp [ckP] at h
  | .neg _, sc, W, X, ks, vs, G, h => by simp [ckP] at h
  | .not _, sc, W, X, ks, vs, G, h => by simp [ckP] at h
  | .and _ _, sc, W, X, ks, vs, G, h => by simp [ckP] at h
  | .or _ _, sc, W, X, ks, vs, G, h => by simp [ckP] at h
  | .one _, sc, W, X, ks, vs, G, h => by simp [ckP] at h
  | .ife _ _ _, sc, W, X, ks, vs, G, h => by simp [ckP] at h
  | .idx _ _, sc, W, X, ks, vs, G, h => by simp [ckP] at h
  | .slice _ _ _, sc, W, X, ks, vs, G, h => by simp [ckP] at h
  | .no, sc, W, X, ks, vs, G, h => by simp [ckP] at h
  | .isi _ _, sc, W, X, ks, vs, G, h => by simp [ckP] at h
  | .call _ _, sc, W, X, ks, vs, G, h => by simp [ckP] at h
  | .blt _ _, sc, W, X, ks, vs, G, h => by simp [ckP] at h
  | .comp _ _ _ _ _, sc, W, X, ks, vs, G, h => by simp [ckP] at h
  | .app _ _, sc, W, X, ks, vs, G, h => by simp [ckP] at h
  | .never, sc, W, X, ks, vs, G, h => by simp [ckP] at h
  | .star _ _, sc, W, X, ks, vs, G, h => by simp [ckP] at h
  | .dix _ _, sc, W, X, ks, vs, G, h => by simp [ckP] at h
  | .ddisp _, sc, W, X, ks, vs, G, h => by simp [ckP] at h
  | .rev _, sc, W, X, ks, vs, G, h => by simp [ckP] at h
  | .tn _, sc, W, X, ks, vs, G, h => by simp [ckP] at h
  | .tt _, sc, W, X, ks, vs, G, h => by simp [ckP] at h
  | .ts _ _, sc, W, X, ks, vs, G, h => by simp [ckP] at h
  | .iseq _, sc, W, X, ks, vs, G, h => by simp [ckP] at h
  | .irng _, sc, W, X, ks, vs, G, h => by simp [ckP] at h
  | .irng2 _ _, sc, W, X, ks, vs, G, h => by simp [ckP] at h
  | .ienum _, sc, W, X, ks, vs, G, h => by simp [ckP] at h
  | .izip _, sc, W, X, ks, vs, G, h => by simp [ckP] at h
  | .izip3 _, sc, W, X, ks, vs, G, h => by simp [ckP] at h
  | .skip, sc, W, X, ks, vs, G, h => by simp [ckP] at h
  | .seq _ _, sc, W, X, ks, vs, G, h => by simp [ckP] at h
  | .set _ _, sc, W, X, ks, vs, G, h => by simp [ckP] at h
  | .ret _, sc, W, X, ks, vs, G, h => by simp [ckP] at h
  | .retN, sc, W, X, ks, vs, G, h => by simp [ckP] at h
  | .expr _, sc, W, X, ks, vs, G, h => by simp [ckP] at h
  | .pass, sc, W, X, ks, vs, G, h => by simp [ckP] at h
  | .cont, sc, W, X, ks, vs, G, h => by simp [ckP] at h
  | .brk, sc, W, X, ks, vs, G, h => by simp [ckP] at h
  | .sif _ _ _, sc, W, X, ks, vs, G, h => by simp [ckP] at h
  | .whl _ _, sc, W, X, ks, vs, G, h => by simp [ckP] at h
  | .sfor _ _ _, sc, W, X, ks, vs, G, h => by simp [ckP] at h
  | .raise _ _, sc, W, X, ks, vs, G, h => by simp [ckP] at h
  | .stl _ _ _, sc, W, X, ks, vs, G, h => by simp [ckP] at h
  | .std _ _ _, sc, W, X, ks, vs, G, h => by simp [ckP] at h
  | .setC _ _, sc, W, X, ks, vs, G, h => by simp [ckP] at h
  | .par _ _, sc, W, X, ks, vs, G, h => by simp [ckP] at h
theorem sI : ∀ (c : E) (sc : Scope) (W : WX) (X : Cx) (tg e : Expr), Good cl T call k N sc W X → ckI T N c sc tg e = true → PI X tg e (tII X.K cl W T call c)
  | .iseq a, sc, W, X, tg, e, G, h => by
    simp only [ckI] at h
    exact i_seq (sE a sc W X _ G h)
  | .irng a, sc, W, X, tg, e, G, h => by
    simp only [ckI] at h
    split at h
    · rename_i r hr; have := asCall_ok hr; subst this
      split at h
      · rename_i hn
        rw [hn]
        simp only [Bool.and_eq_true, decide_eq_true_eq] at h
        exact i_rng G h.1.1.1 h.1.1.2 h.1.2 (sE a sc W X _ G h.2)
      · cases h
    · cases h
  | .ienum a, sc, W, X, tg, e, G, h => by
    simp only [ckI] at h
    split at h
    · rename_i q r hq hr; have := asCall_ok hr; subst this
      have := asTup_ok hq; subst this
      split at h
      · rename_i hn
        rw [hn]
        simp only [Bool.and_eq_true, decide_eq_true_eq] at h
        exact i_enum G h.1.1.1 h.1.1.2 h.1.2 (sE a sc W X _ G h.2)
      · cases h
    · cases h
  | .izip a, sc, W, X, tg, e, G, h => by
    simp only [ckI] at h
    split at h
    · rename_i q r hq hr; have := asCall_ok hr; subst this
      have := asTup_ok hq; subst this
      split at h
      · rename_i y hn
        rw [hn]
        simp only [Bool.and_eq_true, decide_eq_true_eq] at h
        exact i_zip2 G h.1.1.1 h.1.1.2 h.1.2 (sA a sc W X _ G h.2)
      · cases h
    · cases h
  | .izip3 a, sc, W, X, tg, e, G, h => by
    simp only [ckI] at h
    split at h
    · rename_i q r hq hr; have := asCall_ok hr; subst this
      have := asTup_ok hq; subst this
      split at h
      · rename_i y z hn
        rw [hn]
        simp only [Bool.and_eq_true, decide_eq_true_eq] at h
        exact i_zip3 G h.1.1.1 h.1.1.2 h.1.2 (sA a sc W X _ G h.2)
      · cases h
    · cases h
  | .int _, sc, W, X, tg, e, G, h => by simp [ckI] at h
  | .bl _, sc, W, X, tg, e, G, h => by simp [ckI] at h
  | .non, sc, W, X, tg, e, G, h => by simp [ckI] at h
  | .str _, sc, W, X, tg, e, G, h => by simp [ckI] at h
  | .var _, sc, W, X, tg, e, G, h => by simp [ckI] at h
  | .glob _, sc, W, X, tg, e, G, h => by simp [ckI] at h
  | .nil, sc, W, X, tg, e, G, h => by simp [ckI] at h
  | .cons _ _, sc, W, X, tg, e, G, h => by simp [ckI] at h
  | .tup _, sc, W, X, tg, e, G, h => by simp [ckI] at h
  | .lst _, sc, W, X, tg, e, G, h => by simp [ckI] at h
  | .bin _ _ _, sc, W, X, tg, e, G, h => by simp [ckI] at h
  | .cmp _ _ _, sc, W, X, tg, e, G, h => by simp [ckI] at h
  | .chain _ _ _ _ _, sc, W, X, tg, e, G, h => by simp [ckI] at h
  | .neg _, sc, W, X, tg, e, G, h => by simp [ckI] at h
  | .not _, sc, W, X, tg, e, G, h => by simp [ckI] at h
  | .and _ _, sc, W, X, tg, e, G, h => by simp [ckI] at h
  | .or _ _, sc, W, X, tg, e, G, h => by simp [ckI] at h
  | .one _, sc, W, X, tg, e, G, h => by simp [ckI] at h
  | .ife _ _ _, sc, W, X, tg, e, G, h => by simp [ckI] at h
  | .idx _ _, sc, W, X, tg, e, G, h => by simp [ckI] at h
  | .slice _ _ _, sc, W, X, tg, e, G, h => by simp [ckI] at h
  | .no, sc, W, X, tg, e, G, h => by simp [ckI] at h
  | .isi _ _, sc, W, X, tg, e, G, h => by simp [ckI] at h
  | .call _ _, sc, W, X, tg, e, G, h => by simp [ckI] at h
  | .blt _ _, sc, W, X, tg, e, G, h => by simp [ckI] at h
  | .comp _ _ _ _ _, sc, W, X, tg, e, G, h => by simp [ckI] at h
  | .app _ _, sc, W, X, tg, e, G, h => by simp [ckI] at h
  | .never, sc, W, X, tg, e, G, h => by simp [ckI] at h
  | .star _ _, sc, W, X, tg, e, G, h => by simp [ckI] at h
  | .dix _ _, sc, W, X, tg, e, G, h => by simp [ckI] at h
  | .ddisp _, sc, W, X, tg, e, G, h => by simp [ckI] at h
  | .rev _, sc, W, X, tg, e, G, h => by simp [ckI] at h
  | .tn _, sc, W, X, tg, e, G, h => by simp [ckI] at h
  | .tt _, sc, W, X, tg, e, G, h => by simp [ckI] at h
  | .ts _ _, sc, W, X, tg, e, G, h => by simp [ckI] at h
  | .irng2 _ _, sc, W, X, tg, e, G, h => by simp [ckI] at h
  | .skip, sc, W, X, tg, e, G, h => by simp [ckI] at h
  | .seq _ _, sc, W, X, tg, e, G, h => by simp [ckI] at h
  | .set _ _, sc, W, X, tg, e, G, h => by simp [ckI] at h
  | .ret _, sc, W, X, tg, e, G, h => by simp [ckI] at h
  | .retN, sc, W, X, tg, e, G, h => by simp [ckI] at h
  | .expr _, sc, W, X, tg, e, G, h => by simp [ckI] at h
  | .pass, sc, W, X, tg, e, G, h => by simp [ckI] at h
  | .cont, sc, W, X, tg, e, G, h => by simp [ckI] at h
  | .brk, sc, W, X, tg, e, G, h => by simp [ckI] at h
  | .sif _ _ _, sc, W, X, tg, e, G, h => by simp [ckI] at h
  | .whl _ _, sc, W, X, tg, e, G, h => by simp [ckI] at h
  | .sfor _ _ _, sc, W, X, tg, e, G, h => by simp [ckI] at h
  | .raise _ _, sc, W, X, tg, e, G, h => by simp [ckI] at h
  | .stl _ _ _, sc, W, X, tg, e, G, h => by simp [ckI] at h
  | .std _ _ _, sc, W, X, tg, e, G, h => by simp [ckI] at h
  | .setC _ _, sc, W, X, tg, e, G, h => by simp [ckI] at h
  | .par _ _, sc, W, X, tg, e, G, h => by simp [ckI] at h
theorem sG : ∀ (c : E) (sc : Scope) (W : WX) (X : Cx) (fb : Str → Bool) (e : Expr), Good cl T call k N sc W X → X.fn = fb → ckT N fb c sc e = true → PG X e (tG X.K c)
  | .tn i, sc, W, X, fb, e, G, hf, h => by
    simp only [ckT] at h
    split at h
    · rename_i r hr; have := asName_ok hr; subst this
      simp only [Bool.and_eq_true, Bool.or_eq_true, decide_eq_true_eq] at h
      obtain ⟨h1, h2⟩ := h
      rcases h2 with h2 | ⟨h2, h3⟩
      · have : sc.names.lookup r.1 = some .local := by
          unfold locB at h2
          split at h2
          · assumption
          · cases h2
        exact g_tn G h1 (.inl this) (.inr this)
      · have : sc.names.lookup r.1 = some .cell := by
          unfold isCell at h2
          split at h2
          · assumption
          · cases h2
        exact g_tn G h1 (.inr this) (.inl (by rw [hf]; exact h3))
    · cases h
  | .tt a, sc, W, X, fb, e, G, hf, h => by
    simp only [ckT] at h
    split at h
    · rename_i r hr; have := asTup_ok hr; subst this
      simp only [Bool.and_eq_true, decide_eq_true_eq] at h
      obtain ⟨⟨⟨h1, h2⟩, h3⟩, h4⟩ := h
      exact g_tt G h1 h2 h3 (sGs a sc W X fb _ G hf h4)
    · cases h
  | .int _, sc, W, X, fb, e, G, hf, h => by simp [ckT] at h
  | .bl _, sc, W, X, fb, e, G, hf, h => by simp [ckT] at h
  | .non, sc, W, X, fb, e, G, hf, h => by simp [ckT] at h
  | .str _, sc, W, X, fb, e, G, hf, h => by simp [ckT] at h
  | .var _, sc, W, X, fb, e, G, hf, h => by simp [ckT] at h
  | .glob _, sc, W, X, fb, e, G, hf, h => by simp [ckT] at h
  | .nil, sc, W, X, fb, e, G, hf, h => by simp [ckT] at h
  | .cons _ _, sc, W, X, fb, e, G, hf, h => by simp [ckT] at h
  | .tup _, sc, W, X, fb, e, G, hf, h => by simp [ckT] at h
  | .lst _, sc, W, X, fb, e, G, hf, h => by simp [ckT] at h
  | .bin _ _ _, sc, W, X, fb, e, G, hf, h => by simp [ckT] at h
  | .cmp _ _ _, sc, W, X, fb, e, G, hf, h => by simp [ckT] at h
  | .chain _ _ _ _ _, sc, W, X, fb, e, G, hf, h => by simp [ckT] at h
  | .neg _, sc, W, X, fb, e, G, hf, h => by simp [ckT] at h
  | .not _, sc, W, X, fb, e, G, hf, h => by simp [ckT] at h
  | .and _ _, sc, W, X, fb, e, G, hf, h => by simp [ckT] at h
  | .or _ _, sc, W, X, fb, e, G, hf, h => by simp [ckT] at h
  | .one _, sc, W, X, fb, e, G, hf, h => by simp [ckT] at h
  | .ife _ _ _, sc, W, X, fb, e, G, hf, h => by simp [ckT] at h
  | .idx _ _, sc, W, X, fb, e, G, hf, h => by simp [ckT] at h
  | .slice _ _ _, sc, W, X, fb, e, G, hf, h => by simp [ckT] at h
  | .no, sc, W, X, fb, e, G, hf, h => by simp [ckT] at h
  | .isi _ _, sc, W, X, fb, e, G, hf, h => by simp [ckT] at h
  | .call _ _, sc, W, X, fb, e, G, hf, h => by simp [ckT] at h
  | .blt _ _, sc, W, X, fb, e, G, hf, h => by simp [ckT] at h
  | .comp _ _ _ _ _, sc, W, X, fb, e, G, hf, h => by simp [ckT] at h
  | .app _ _, sc, W, X, fb, e, G, hf, h => by simp [ckT] at h
  | .never, sc, W, X, fb, e, G, hf, h => by simp [ckT] at h
  | .star _ _, sc, W, X, fb, e, G, hf, h => by simp [ckT] at h
  | .dix _ _, sc, W, X, fb, e, G, hf, h => by simp [ckT] at h
  | .ddisp _, sc, W, X, fb, e, G, hf, h => by simp [ckT] at h
  | .rev _, sc, W, X, fb, e, G, hf, h => by simp [ckT] at h
  | .ts _ _, sc, W, X, fb, e, G, hf, h => by simp [ckT] at h
  | .iseq _, sc, W, X, fb, e, G, hf, h => by simp [ckT] at h
  | .irng _, sc, W, X, fb, e, G, hf, h => by simp [ckT] at h
  | .irng2 _ _, sc, W, X, fb, e, G, hf, h => by simp [ckT] at h
  | .ienum _, sc, W, X, fb, e, G, hf, h => by simp [ckT] at h
  | .izip _, sc, W, X, fb, e, G, hf, h => by simp [ckT] at h
  | .izip3 _, sc, W, X, fb, e, G, hf, h => by simp [ckT] at h
  | .skip, sc, W, X, fb, e, G, hf, h => by simp [ckT] at h
  | .seq _ _, sc, W, X, fb, e, G, hf, h => by simp [ckT] at h
  | .set _ _, sc, W, X, fb, e, G, hf, h => by simp [ckT] at h
  | .ret _, sc, W, X, fb, e, G, hf, h => by simp [ckT] at h
  | .retN, sc, W, X, fb, e, G, hf, h => by simp [ckT] at h
  | .expr _, sc, W, X, fb, e, G, hf, h => by simp [ckT] at h
  | .pass, sc, W, X, fb, e, G, hf, h => by simp [ckT] at h
  | .cont, sc, W, X, fb, e, G, hf, h => by simp [ckT] at h
  | .brk, sc, W, X, fb, e, G, hf, h => by simp [ckT] at h
  | .sif _ _ _, sc, W, X, fb, e, G, hf, h => by simp [ckT] at h
  | .whl _ _, sc, W, X, fb, e, G, hf, h => by simp [ckT] at h
  | .sfor _ _ _, sc, W, X, fb, e, G, hf, h => by simp [ckT] at h
  | .raise _ _, sc, W, X, fb, e, G, hf, h => by simp [ckT] at h
  | .stl _ _ _, sc, W, X, fb, e, G, hf, h => by simp [ckT] at h
  | .std _ _ _, sc, W, X, fb, e, G, hf, h => by simp [ckT] at h
  | .setC _ _, sc, W, X, fb, e, G, hf, h => by simp [ckT] at h
  | .par _ _, sc, W, X, fb, e, G, hf, h => by simp [ckT] at h
theorem sGs : ∀ (c : E) (sc : Scope) (W : WX) (X : Cx) (fb : Str → Bool) (es : List Expr), Good cl T call k N sc W X → X.fn = fb → ckTs N fb c sc es = true → PGs X es (tGs X.K c)
  | .nil, sc, W, X, fb, es, G, hf, h => by
    simp only [ckTs] at h
    cases es with
    | nil => exact g_tnil
    | cons _ _ => cases h
  | .cons a r, sc, W, X, fb, es, G, hf, h => by
    simp only [ckTs] at h
    cases es with
    | nil => cases h
    | cons e es =>
      simp only [Bool.and_eq_true] at h
      exact g_tcons h.1.1 (sG a sc W X fb _ G hf h.1.2) (sGs r sc W X fb _ G hf h.2)
  | .int _, sc, W, X, fb, e, G, hf, h => by simp [ckTs] at h
  | .bl _, sc, W, X, fb, e, G, hf, h => by simp [ckTs] at h
  | .non, sc, W, X, fb, e, G, hf, h => by simp [ckTs] at h
  | .str _, sc, W, X, fb, e, G, hf, h => by simp [ckTs] at h
  | .var _, sc, W, X, fb, e, G, hf, h => by simp [ckTs] at h
  | .glob _, sc, W, X, fb, e, G, hf, h => by simp [ckTs] at h
  | .tup _, sc, W, X, fb, e, G, hf, h => by simp [ckTs] at h
  | .lst _, sc, W, X, fb, e, G, hf, h => by simp [ckTs] at h
  | .bin _ _ _, sc, W, X, fb, e, G, hf, h => by simp [ckTs] at h
  | .cmp _ _ _, sc, W, X, fb, e, G, hf, h => by simp [ckTs] at h
  | .chain _ _ _ _ _, sc, W, X, fb, e, G, hf, h => by simp [ckTs] at h
  | .neg _, sc, W, X, fb, e, G, hf, h => by simp [ckTs] at h
  | .not _, sc, W, X, fb, e, G, hf, h => by simp [ckTs] at h
  | .and _ _, sc, W, X, fb, e, G, hf, h => by simp [ckTs] at h
  | .or _ _, sc, W, X, fb, e, G, hf, h => by simp [ckTs] at h
  | .one _, sc, W, X, fb, e, G, hf, h => by simp [ckTs] at h
  | .ife _ _ _, sc, W, X, fb, e, G, hf, h => by simp [ckTs] at h
  | .idx _ _, sc, W, X, fb, e, G, hf, h => by simp [ckTs] at h
  | .slice _ _ _, sc, W, X, fb, e, G, hf, h => by simp [ckTs] at h
  | .no, sc, W, X, fb, e, G, hf, h => by simp [ckTs] at h
  | .isi _ _, sc, W, X, fb, e, G, hf, h => by simp [ckTs] at h
  | .call _ _, sc, W, X, fb, e, G, hf, h => by simp [ckTs] at h
  | .blt _ _, sc, W, X, fb, e, G, hf, h => by simp [ckTs] at h
  | .comp _ _ _ _ _, sc, W, X, fb, e, G, hf, h => by simp [ckTs] at h
  | .app _ _, sc, W, X, fb, e, G, hf, h => by simp [ckTs] at h
  | .never, sc, W, X, fb, e, G, hf, h => by simp [ckTs] at h
  | .star _ _, sc, W, X, fb, e, G, hf, h => by simp [ckTs] at h
  | .dix _ _, sc, W, X, fb, e, G, hf, h => by simp [ckTs] at h
  | .ddisp _, sc, W, X, fb, e, G, hf, h => by simp [ckTs] at h
  | .rev _, sc, W, X, fb, e, G, hf, h => by simp [ckTs] at h
  | .tn _, sc, W, X, fb, e, G, hf, h => by simp [ckTs] at h
  | .tt _, sc, W, X, fb, e, G, hf, h => by simp [ckTs] at h
  | .ts _ _, sc, W, X, fb, e, G, hf, h => by simp [ckTs] at h
  | .iseq _, sc, W, X, fb, e, G, hf, h => by simp [ckTs] at h
  | .irng _, sc, W, X, fb, e, G, hf, h => by simp [ckTs] at h
  | .irng2 _ _, sc, W, X, fb, e, G, hf, h => by simp [ckTs] at h
  | .ienum _, sc, W, X, fb, e, G, hf, h => by simp [ckTs] at h
  | .izip _, sc, W, X, fb, e, G, hf, h => by simp [ckTs] at h
  | .izip3 _, sc, W, X, fb, e, G, hf, h => by simp [ckTs] at h
  | .skip, sc, W, X, fb, e, G, hf, h => by simp [ckTs] at h
  | .seq _ _, sc, W, X, fb, e, G, hf, h => by simp [ckTs] at h
  | .set _ _, sc, W, X, fb, e, G, hf, h => by simp [ckTs] at h
  | .ret _, sc, W, X, fb, e, G, hf, h => by simp [ckTs] at h
  | .retN, sc, W, X, fb, e, G, hf, h => by simp [ckTs] at h
  | .expr _, sc, W, X, fb, e, G, hf, h => by simp [ckTs] at h
  | .pass, sc, W, X, fb, e, G, hf, h => by simp [ckTs] at h
  | .cont, sc, W, X, fb, e, G, hf, h => by simp [ckTs] at h
  | .brk, sc, W, X, fb, e, G, hf, h => by simp [ckTs] at h
  | .sif _ _ _, sc, W, X, fb, e, G, hf, h => by simp [ckTs] at h
  | .whl _ _, sc, W, X, fb, e, G, hf, h => by simp [ckTs] at h
  | .sfor _ _ _, sc, W, X, fb, e, G, hf, h => by simp [ckTs] at h
  | .raise _ _, sc, W, X, fb, e, G, hf, h => by simp [ckTs] at h
  | .stl _ _ _, sc, W, X, fb, e, G, hf, h => by simp [ckTs] at h
  | .std _ _ _, sc, W, X, fb, e, G, hf, h => by simp [ckTs] at h
  | .setC _ _, sc, W, X, fb, e, G, hf, h => by simp [ckTs] at h
  | .par _ _, sc, W, X, fb, e, G, hf, h => by simp [ckTs] at h
theorem sW : ∀ (c : E) (sc : Scope) (W : WX) (X : Cx) (e : Expr), Good cl T call k N sc W X → ckTe T N c sc e = true → isBo c = true → PW X e (tIT X.K cl W T call c)
  | .never, sc, W, X, e, G, h, _ => ⟨fun _ _ _ _ _ _ _ ⟨_, _, _, _, _, h⟩ => by simp only [ev] at h; exact h.elim⟩
  | .one a, sc, W, X, e, G, h, _ => by
    simp only [ckTe] at h
    split at h
    · rename_i r hr; have := asBo1_ok hr; subst this
      obtain ⟨o, x, p⟩ := r
      have i : ∀ σ H Q, tIT X.K cl W T call (.one a) σ H Q → tIT X.K cl W T call a σ H Q := fun σ H Q h => one_read h
      cases o with
      | And => exact PW_imp (pw_and1 (sT a sc W X _ G h)) i
      | Or => exact PW_imp (pw_or1 (sT a sc W X _ G h)) i
    · cases h
  | .and a b, sc, W, X, e, G, h, _ => by
    simp only [ckTe] at h
    split at h
    · rename_i r hr; have := asBo2_ok hr; subst this
      simp only [Bool.and_eq_true, decide_eq_true_eq] at h
      obtain ⟨⟨h1, h2⟩, h3⟩ := h
      rw [h1] at h3 ⊢
      refine PW_imp (pw_and (sT a sc W X _ G h2) (sW b sc W X _ G h3 (bo_of h3))) fun σ H Q h => ?_
      exact tI_imp (and_read h) and_fit
    · cases h
  | .or a b, sc, W, X, e, G, h, _ => by
    simp only [ckTe] at h
    split at h
    · rename_i r hr; have := asBo2_ok hr; subst this
      simp only [Bool.and_eq_true, decide_eq_true_eq] at h
      obtain ⟨⟨h1, h2⟩, h3⟩ := h
      rw [h1] at h3 ⊢
      refine PW_imp (pw_or (sT a sc W X _ G h2) (sW b sc W X _ G h3 (bo_of h3))) fun σ H Q h => ?_
      exact tI_imp (or_read h) or_fit
    · cases h
  | .int _, sc, W, X, e, G, h, hb => by simp [isBo] at hb
  | .bl _, sc, W, X, e, G, h, hb => by simp [isBo] at hb
  | .non, sc, W, X, e, G, h, hb => by simp [isBo] at hb
  | .str _, sc, W, X, e, G, h, hb => by simp [isBo] at hb
  | .var _, sc, W, X, e, G, h, hb => by simp [isBo] at hb
  | .glob _, sc, W, X, e, G, h, hb => by simp [isBo] at hb
  | .nil, sc, W, X, e, G, h, hb => by simp [isBo] at hb
  | .cons _ _, sc, W, X, e, G, h, hb => by simp [isBo] at hb
  | .tup _, sc, W, X, e, G, h, hb => by simp [isBo] at hb
  | .lst _, sc, W, X, e, G, h, hb => by simp [isBo] at hb
  | .bin _ _ _, sc, W, X, e, G, h, hb => by simp [isBo] at hb
  | .cmp _ _ _, sc, W, X, e, G, h, hb => by simp [isBo] at hb
  | .chain _ _ _ _ _, sc, W, X, e, G, h, hb => by simp [isBo] at hb
  | .neg _, sc, W, X, e, G, h, hb => by simp [isBo] at hb
  | .not _, sc, W, X, e, G, h, hb => by simp [isBo] at hb
  | .ife _ _ _, sc, W, X, e, G, h, hb => by simp [isBo] at hb
  | .idx _ _, sc, W, X, e, G, h, hb => by simp [isBo] at hb
  | .slice _ _ _, sc, W, X, e, G, h, hb => by simp [isBo] at hb
  | .no, sc, W, X, e, G, h, hb => by simp [isBo] at hb
  | .isi _ _, sc, W, X, e, G, h, hb => by simp [isBo] at hb
  | .call _ _, sc, W, X, e, G, h, hb => by simp [isBo] at hb
  | .blt _ _, sc, W, X, e, G, h, hb => by simp [isBo] at hb
  | .comp _ _ _ _ _, sc, W, X, e, G, h, hb => by simp [isBo] at hb
  | .app _ _, sc, W, X, e, G, h, hb => by simp [isBo] at hb
  | .star _ _, sc, W, X, e, G, h, hb => by simp [isBo] at hb
  | .dix _ _, sc, W, X, e, G, h, hb => by simp [isBo] at hb
  | .ddisp _, sc, W, X, e, G, h, hb => by simp [isBo] at hb
  | .rev _, sc, W, X, e, G, h, hb => by simp [isBo] at hb
  | .tn _, sc, W, X, e, G, h, hb => by simp [isBo] at hb
  | .tt _, sc, W, X, e, G, h, hb => by simp [isBo] at hb
  | .ts _ _, sc, W, X, e, G, h, hb => by simp [isBo] at hb
  | .iseq _, sc, W, X, e, G, h, hb => by simp [isBo] at hb
  | .irng _, sc, W, X, e, G, h, hb => by simp [isBo] at hb
  | .irng2 _ _, sc, W, X, e, G, h, hb => by simp [isBo] at hb
  | .ienum _, sc, W, X, e, G, h, hb => by simp [isBo] at hb
  | .izip _, sc, W, X, e, G, h, hb => by simp [isBo] at hb
  | .izip3 _, sc, W, X, e, G, h, hb => by simp [isBo] at hb
  | .skip, sc, W, X, e, G, h, hb => by simp [isBo] at hb
  | .seq _ _, sc, W, X, e, G, h, hb => by simp [isBo] at hb
  | .set _ _, sc, W, X, e, G, h, hb => by simp [isBo] at hb
  | .ret _, sc, W, X, e, G, h, hb => by simp [isBo] at hb
  | .retN, sc, W, X, e, G, h, hb => by simp [isBo] at hb
  | .expr _, sc, W, X, e, G, h, hb => by simp [isBo] at hb
  | .pass, sc, W, X, e, G, h, hb => by simp [isBo] at hb
  | .cont, sc, W, X, e, G, h, hb => by simp [isBo] at hb
  | .brk, sc, W, X, e, G, h, hb => by simp [isBo] at hb
  | .sif _ _ _, sc, W, X, e, G, h, hb => by simp [isBo] at hb
  | .whl _ _, sc, W, X, e, G, h, hb => by simp [isBo] at hb
  | .sfor _ _ _, sc, W, X, e, G, h, hb => by simp [isBo] at hb
  | .raise _ _, sc, W, X, e, G, h, hb => by simp [isBo] at hb
  | .stl _ _ _, sc, W, X, e, G, h, hb => by simp [isBo] at hb
  | .std _ _ _, sc, W, X, e, G, h, hb => by simp [isBo] at hb
  | .setC _ _, sc, W, X, e, G, h, hb => by simp [isBo] at hb
  | .par _ _, sc, W, X, e, G, h, hb => by simp [isBo] at hb
end
end
end FI

namespace FI
open PySem PySem.Spec PyProof.Rows L2

def swNo (sc : Scope) (tg e : Expr) : Bool := !(isTup tg && isTup e) || (match asTup tg, asTup e with | some a, some b => (match swP sc a.1 b.1 with | some none => true | _ => false) | _, _ => false)
theorem swNo_ok {sc : Scope} {tg e : Expr} {env : Env} (hs : env.scope = sc) (h : swNo sc tg e = true) : swappedStores [tg] e env = pure none := by
  unfold swNo at h
  rw [Bool.or_eq_true] at h
  rcases h with h | h
  · exact swN_ok (by rw [Bool.not_eq_true'] at h; exact h)
  · split at h
    · rename_i a b ha hb
      have e1 := asTup_ok ha
      have e2 := asTup_ok hb
      rw [e1, e2]
      split at h
      · rename_i hw
        exact swP_ok (by rw [hs]; exact hw)
      · cases h
    · cases h
def ckC (T : Tab) (N : List Str) (i : Nat) (c : E) (sc : Scope) (tg e : Expr) : Bool := match c with
  | .comp own ctg it cc elt => match asName tg, asComp e with
    | some y, some r => decide (N[i]? = some y.1) && locB sc y.1 && decide (sc.kind = .function) && (y.2.line == r.2.2.2.2.2.line) && !(r.2.2.2.2.1.names.any fun (n, k) => n == y.1 && (k == .local || k == .cell)) &&
      ckE T N c sc e
    | _, _ => false
  | _ => false
mutual
def ckS (T : Tab) (N : List Str) : E → Scope → Stmt → Bool
  | .never, _, _ => true
  | .ret c, sc, st => match asRet st with | some r => ckE T N c sc r.1 | none => false
  | .retN, _, st => (asRetN st).isSome
  | .expr c, sc, st => match asExpr st with | some r => noComp r.1 && ckE T N c sc r.1 | none => false
  | .pass, _, st => (asPass st).isSome
  | .cont, _, st => (asCont st).isSome
  | .brk, _, st => (asBrk st).isSome
  | .sif c a b, sc, st => match asIfS st with | some r => ckTe T N c sc r.1 && ckB T N a sc r.2.1 && ckB T N b sc r.2.2.1 | none => false
  | .whl c a, sc, st => match asWh st with | some r => ckTe T N c sc r.1 && ckB T N a sc r.2.1 | none => false
  | .sfor g it a, sc, st => match asFor st with | some r => noSet r.2.1 && ckI T N it sc r.1 r.2.1 && ckT N (fun _ => true) g sc r.1 && ckB T N a sc r.2.2.1 | none => false
  | .set g e, sc, st => match asAsg st with
    | some r => nostar r.1 && ckT N (fun _ => true) g sc r.1 && ckE T N e sc r.2.1 && ((noComp r.2.1 && swNo sc r.1 r.2.1) || (match asName r.1, asComp r.2.1 with | some y, some _ => isCell sc y.1 | _, _ => false))
    | none => false
  | .setC i e, sc, st => match asAsg st with | some r => ckC T N i e sc r.1 r.2.1 | none => false
  | .par js a, sc, st => match asAsg st with
    | some r => (match asTup r.1, asTup r.2.1 with
      | some x, some y => ckA T N a sc y.1 && (match js with
        | [i, j] => (match asN2 x.1, as2 y.1 with
          | some n, some _ => decide (N[i]? = some n.1) && decide (N[j]? = some n.2.2.1) && !Nat.beq i j && locB sc n.1 && locB sc n.2.2.1 && decide (swP sc x.1 y.1 = some (some [n.1, n.2.2.1]))
          | _, _ => false)
        | [i, j, l] => (match asN3 x.1, as3 y.1 with
          | some n, some _ => decide (N[i]? = some n.1) && decide (N[j]? = some n.2.2.1) && decide (N[l]? = some n.2.2.2.2.1) && !Nat.beq i j && !Nat.beq i l && !Nat.beq j l && locB sc n.1 && locB sc n.2.2.1 && locB sc n.2.2.2.2.1 && decide (swP sc x.1 y.1 = some (some [n.1, n.2.2.1, n.2.2.2.2.1]))
          | _, _ => false)
        | _ => false)
      | _, _ => false)
    | none => false
  | .stl o i e, sc, st => match asAsg st with
    | some r => (match asSub r.1 with | some x => noComp r.2.1 && noSub x.2.1 && ckE T N o sc x.1 && ckE T N i sc x.2.1 && ckE T N e sc r.2.1 | none => false)
    | none => false
  | .std o i e, sc, st => match asAsg st with
    | some r => (match asSub r.1 with | some x => noComp r.2.1 && ckE T N o sc x.1 && ckE T N i sc x.2.1 && ckE T N e sc r.2.1 | none => false)
    | none => false
  | _, _, _ => false
def ckB (T : Tab) (N : List Str) : E → Scope → List Stmt → Bool
  | .never, _, _ => true
  | .skip, _, ss => ss.isEmpty
  | .seq a r, sc, ss => match ss with | st :: ss => ckS T N a sc st && ckB T N r sc ss | [] => false
  | _, _, _ => false
end
theorem locB_ok {sc : Scope} {x : Str} (h : locB sc x = true) : sc.names.lookup x = some .local := by
  unfold locB at h
  split at h
  · assumption
  · cases h
theorem isCell_ok {sc : Scope} {x : Str} (h : isCell sc x = true) : sc.names.lookup x = some .cell := by
  unfold isCell at h
  split at h
  · assumption
  · cases h
theorem nbeq_ok {i j : Nat} (h : (!Nat.beq i j) = true) : i ≠ j := fun z => by
  subst z
  rw [Nat.beq_refl] at h
  cases h
section
variable {cl : Cls0} {T : Tab} {call : Nat → List PV → Sto → Res PV} {k : Nat} {N : List Str}
mutual
theorem sS : ∀ (c : E) (sc : Scope) (W : WX) (X : Cx) (st : Stmt), Good cl T call k N sc W X → X.fn = (fun _ => true) → PassesOwn (model X.prog X.w) X.A X.env X.xe → ckS T N c sc st = true → PS X st (tS X.K cl W T call c)
  | .never, sc, W, X, st, G, hf, hp, h => s_never
  | .ret c, sc, W, X, st, G, hf, hp, h => by
    simp only [ckS] at h
    split at h
    · rename_i r hr; have := asRet_ok hr; subst this
      exact s_ret (sE c sc W X _ G h)
    · cases h
  | .retN, sc, W, X, st, G, hf, hp, h => by
    simp only [ckS] at h
    obtain ⟨r, hr⟩ := Option.isSome_iff_exists.mp h
    have := asRetN_ok hr; subst this
    exact s_retN
  | .expr c, sc, W, X, st, G, hf, hp, h => by
    simp only [ckS] at h
    split at h
    · rename_i r hr; have := asExpr_ok hr; subst this
      simp only [Bool.and_eq_true] at h
      exact s_expr h.1 (sE c sc W X _ G h.2)
    · cases h
  | .pass, sc, W, X, st, G, hf, hp, h => by
    simp only [ckS] at h
    obtain ⟨r, hr⟩ := Option.isSome_iff_exists.mp h
    have := asPass_ok hr; subst this
    exact s_pass
  | .cont, sc, W, X, st, G, hf, hp, h => by
    simp only [ckS] at h
    obtain ⟨r, hr⟩ := Option.isSome_iff_exists.mp h
    have := asCont_ok hr; subst this
    exact s_cont
  | .brk, sc, W, X, st, G, hf, hp, h => by
    simp only [ckS] at h
    obtain ⟨r, hr⟩ := Option.isSome_iff_exists.mp h
    have := asBrk_ok hr; subst this
    exact s_brk
  | .sif c a b, sc, W, X, st, G, hf, hp, h => by
    simp only [ckS] at h
    split at h
    · rename_i r hr; have := asIfS_ok hr; subst this
      simp only [Bool.and_eq_true] at h
      exact s_if (sT c sc W X _ G h.1.1) (sB a sc W X _ G hf hp h.1.2) (sB b sc W X _ G hf hp h.2)
    · cases h
  | .whl c a, sc, W, X, st, G, hf, hp, h => by
    simp only [ckS] at h
    split at h
    · rename_i r hr; have := asWh_ok hr; subst this
      simp only [Bool.and_eq_true] at h
      exact s_while hp (sT c sc W X _ G h.1) (sB a sc W X _ G hf hp h.2)
    · cases h
  | .sfor g it a, sc, W, X, st, G, hf, hp, h => by
    simp only [ckS] at h
    split at h
    · rename_i r hr; have := asFor_ok hr; subst this
      simp only [Bool.and_eq_true] at h
      obtain ⟨⟨⟨h1, h2⟩, h3⟩, h4⟩ := h
      exact s_for G hp h1 (sI it sc W X _ _ G h2) (sG g sc W X _ _ G hf h3) (sB a sc W X _ G hf hp h4)
    · cases h
  | .set g e, sc, W, X, st, G, hf, hp, h => by
    simp only [ckS] at h
    split at h
    · rename_i r hr; have := asAsg_ok hr; subst this
      simp only [Bool.and_eq_true, Bool.or_eq_true] at h
      obtain ⟨⟨⟨h1, h2⟩, h3⟩, h4⟩ := h
      rcases h4 with ⟨h4, h5⟩ | h4
      · exact s_set h4 (swNo_ok G.hsc h5) h1 (sE e sc W X _ G h3) (sG g sc W X _ _ G hf h2)
      · split at h4
        · rename_i y z hy hz
          have e1 := asName_ok hy
          have e2 := asComp_ok hz
          have PEe := sE e sc W X _ G h3
          have PGe := sG g sc W X _ _ G hf h2
          rw [e1] at PGe ⊢
          rw [e2] at PEe ⊢
          exact s_setX (by rw [G.hsc]; exact isCell_ok h4) PEe PGe
        · cases h4
    · cases h
  | .setC i e, sc, W, X, st, G, hf, hp, h => by
    simp only [ckS] at h
    split at h
    · rename_i r hr; have := asAsg_ok hr; subst this
      cases e with
      | comp own ctg it cc elt =>
        simp only [ckC] at h
        split at h
        · rename_i y q hy hq
          have e1 := asName_ok hy
          have e2 := asComp_ok hq
          rw [e1, e2]
          simp only [Bool.and_eq_true, decide_eq_true_eq, Bool.not_eq_true'] at h
          obtain ⟨⟨⟨⟨⟨h1, h2⟩, h3⟩, h4⟩, h5⟩, h6⟩ := h
          simp only [ckE, hq, Bool.and_eq_true] at h6
          obtain ⟨⟨⟨⟨⟨⟨g1, g2⟩, g3⟩, g4⟩, g5⟩, g6⟩, g7⟩ := h6
          refine s_setC (g_setC G h1 (locB_ok h2) h3 h4 h5 (fun i hi => by simpa using List.all_eq_true.mp g1 i hi) (sI it sc W X _ _ G g4) (blkOk_by g2) g3 (fun Y GY e1 e2 => by rw [← e1]; exact sG ctg _ WF Y _ _ GY e2 g5) (fun Y GY e1 _ => ?_) (fun Y GY e1 _ => by rw [← e1]; exact sE elt _ WF Y _ GY g7))
          rw [← e1]
          generalize q.2.2.2.1 = fs at g6
          cases fs with
          | nil =>
            dsimp only at g6
            split at g6
            · exact pts_yes
            · cases g6
          | cons t fs =>
            cases fs with
            | nil => exact pts_one (sT cc _ WF Y _ GY g6)
            | cons _ _ => cases g6
        · cases h
      | _ => simp [ckC] at h
    · cases h
  | .par js a, sc, W, X, st, G, hf, hp, h => by
    simp only [ckS] at h
    split at h
    · rename_i r hr; have := asAsg_ok hr; subst this
      split at h
      · rename_i x y hx hy
        have e1 := asTup_ok hx
        have e2 := asTup_ok hy
        rw [e1, e2]
        rw [Bool.and_eq_true] at h
        obtain ⟨h0, h⟩ := h
        have hA := sA a sc W X _ G h0
        split at h
        · split at h
          · rename_i n m hn hm
            have e3 := asN2_ok hn
            have e4 := as2_ok hm
            simp only [Bool.and_eq_true, decide_eq_true_eq] at h
            obtain ⟨⟨⟨⟨⟨h1, h2⟩, h3⟩, h4⟩, h5⟩, h6⟩ := h
            rw [e4] at hA h6 ⊢
            rw [e3] at h6 ⊢
            exact s_par2 G h1 h2 (nbeq_ok h3) (locB_ok h4) (locB_ok h5) hA h6
          · cases h
        · split at h
          · rename_i n m hn hm
            have e3 := asN3_ok hn
            have e4 := as3_ok hm
            simp only [Bool.and_eq_true, decide_eq_true_eq] at h
            obtain ⟨⟨⟨⟨⟨⟨⟨⟨⟨h1, h2⟩, h3⟩, h4⟩, h5⟩, h6⟩, h7⟩, h8⟩, h9⟩, h10⟩ := h
            rw [e4] at hA h10 ⊢
            rw [e3] at h10 ⊢
            exact s_par3 G h1 h2 h3 (nbeq_ok h4) (nbeq_ok h5) (nbeq_ok h6) (locB_ok h7) (locB_ok h8) (locB_ok h9) hA h10
          · cases h
        · cases h
      · cases h
    · cases h
  | .stl o i e, sc, W, X, st, G, hf, hp, h => by
    simp only [ckS] at h
    split at h
    · rename_i r hr; have := asAsg_ok hr; subst this
      split at h
      · rename_i x hx
        have e1 := asSub_ok hx
        rw [e1]
        simp only [Bool.and_eq_true] at h
        obtain ⟨⟨⟨⟨h1, h2⟩, h3⟩, h4⟩, h5⟩ := h
        exact s_stl h1 h2 (sE o sc W X _ G h3) (sE i sc W X _ G h4) (sE e sc W X _ G h5)
      · cases h
    · cases h
  | .std o i e, sc, W, X, st, G, hf, hp, h => by
    simp only [ckS] at h
    split at h
    · rename_i r hr; have := asAsg_ok hr; subst this
      split at h
      · rename_i x hx
        have e1 := asSub_ok hx
        rw [e1]
        simp only [Bool.and_eq_true] at h
        obtain ⟨⟨⟨h1, h3⟩, h4⟩, h5⟩ := h
        exact s_std G h1 (sE o sc W X _ G h3) (sE i sc W X _ G h4) (sE e sc W X _ G h5)
      · cases h
    · cases h
  | .int _, sc, W, X, e, G, hf, hp, h => by simp [ckS] at h
  | .bl _, sc, W, X, e, G, hf, hp, h => by simp [ckS] at h
  | .non, sc, W, X, e, G, hf, hp, h => by simp [ckS] at h
  | .str _, sc, W, X, e, G, hf, hp, h => by simp [ckS] at h
  | .var _, sc, W, X, e, G, hf, hp, h => by simp [ckS] at h
  | .glob _, sc, W, X, e, G, hf, hp, h => by simp [ckS] at h
  | .nil, sc, W, X, e, G, hf, hp, h => by simp [ckS] at h
  | .cons _ _, sc, W, X, e, G, hf, hp, h => by simp [ckS] at h
  | .tup _, sc, W, X, e, G, hf, hp, h => by simp [ckS] at h
  | .lst _, sc, W, X, e, G, hf, hp, h => by simp [ckS] at h
  | .bin _ _ _, sc, W, X, e, G, hf, hp, h => by simp [ckS] at h
  | .cmp _ _ _, sc, W, X, e, G, hf, hp, h => by simp [ckS] at h
  | .chain _ _ _ _ _, sc, W, X, e, G, hf, hp, h => by simp [ckS] at h
  | .neg _, sc, W, X, e, G, hf, hp, h => by simp [ckS] at h
  | .not _, sc, W, X, e, G, hf, hp, h => by simp [ckS] at h
  | .and _ _, sc, W, X, e, G, hf, hp, h => by simp [ckS] at h
  | .or _ _, sc, W, X, e, G, hf, hp, h => by simp [ckS] at h
  | .one _, sc, W, X, e, G, hf, hp, h => by simp [ckS] at h
  | .ife _ _ _, sc, W, X, e, G, hf, hp, h => by simp [ckS] at h
  | .idx _ _, sc, W, X, e, G, hf, hp, h => by simp [ckS] at h
  | .slice _ _ _, sc, W, X, e, G, hf, hp, h => by simp [ckS] at h
  | .no, sc, W, X, e, G, hf, hp, h => by simp [ckS] at h
  | .isi _ _, sc, W, X, e, G, hf, hp, h => by simp [ckS] at h
  | .call _ _, sc, W, X, e, G, hf, hp, h => by simp [ckS] at h
  | .blt _ _, sc, W, X, e, G, hf, hp, h => by simp [ckS] at h
  | .comp _ _ _ _ _, sc, W, X, e, G, hf, hp, h => by simp [ckS] at h
  | .app _ _, sc, W, X, e, G, hf, hp, h => by simp [ckS] at h
  | .star _ _, sc, W, X, e, G, hf, hp, h => by simp [ckS] at h
  | .dix _ _, sc, W, X, e, G, hf, hp, h => by simp [ckS] at h
  | .ddisp _, sc, W, X, e, G, hf, hp, h => by simp [ckS] at h
  | .rev _, sc, W, X, e, G, hf, hp, h => by simp [ckS] at h
  | .tn _, sc, W, X, e, G, hf, hp, h => by simp [ckS] at h
  | .tt _, sc, W, X, e, G, hf, hp, h => by simp [ckS] at h
  | .ts _ _, sc, W, X, e, G, hf, hp, h => by simp [ckS] at h
  | .iseq _, sc, W, X, e, G, hf, hp, h => by simp [ckS] at h
  | .irng _, sc, W, X, e, G, hf, hp, h => by simp [ckS] at h
  | .irng2 _ _, sc, W, X, e, G, hf, hp, h => by simp [ckS] at h
  | .ienum _, sc, W, X, e, G, hf, hp, h => by simp [ckS] at h
  | .izip _, sc, W, X, e, G, hf, hp, h => by simp [ckS] at h
  | .izip3 _, sc, W, X, e, G, hf, hp, h => by simp [ckS] at h
  | .skip, sc, W, X, e, G, hf, hp, h => by simp [ckS] at h
  | .seq _ _, sc, W, X, e, G, hf, hp, h => by simp [ckS] at h
  | .raise _ _, sc, W, X, e, G, hf, hp, h => by simp [ckS] at h
theorem sB : ∀ (c : E) (sc : Scope) (W : WX) (X : Cx) (ss : List Stmt), Good cl T call k N sc W X → X.fn = (fun _ => true) → PassesOwn (model X.prog X.w) X.A X.env X.xe → ckB T N c sc ss = true → PSs X ss (tS X.K cl W T call c)
  | .never, sc, W, X, ss, G, hf, hp, h => PSs_imp pss_never fun D σ H ⟨rho, s, sl, R, S, h⟩ => by simp only [ex] at h; exact h
  | .skip, sc, W, X, ss, G, hf, hp, h => by
    simp only [ckB] at h
    cases ss with
    | nil => exact b_nil
    | cons _ _ => cases h
  | .seq a r, sc, W, X, ss, G, hf, hp, h => by
    simp only [ckB] at h
    cases ss with
    | nil => cases h
    | cons st ss =>
      simp only [Bool.and_eq_true] at h
      exact b_cons (sS a sc W X _ G hf hp h.1) (sB r sc W X _ G hf hp h.2)
  | .int _, sc, W, X, e, G, hf, hp, h => by simp [ckB] at h
  | .bl _, sc, W, X, e, G, hf, hp, h => by simp [ckB] at h
  | .non, sc, W, X, e, G, hf, hp, h => by simp [ckB] at h
  | .str _, sc, W, X, e, G, hf, hp, h => by simp [ckB] at h
  | .var _, sc, W, X, e, G, hf, hp, h => by simp [ckB] at h
  | .glob _, sc, W, X, e, G, hf, hp, h => by simp [ckB] at h
  | .nil, sc, W, X, e, G, hf, hp, h => by simp [ckB] at h
  | .cons _ _, sc, W, X, e, G, hf, hp, h => by simp [ckB] at h
  | .tup _, sc, W, X, e, G, hf, hp, h => by simp [ckB] at h
  | .lst _, sc, W, X, e, G, hf, hp, h => by simp [ckB] at h
  | .bin _ _ _, sc, W, X, e, G, hf, hp, h => by simp [ckB] at h
  | .cmp _ _ _, sc, W, X, e, G, hf, hp, h => by simp [ckB] at h
  | .chain _ _ _ _ _, sc, W, X, e, G, hf, hp, h => by simp [ckB] at h
  | .neg _, sc, W, X, e, G, hf, hp, h => by simp [ckB] at h
  | .not _, sc, W, X, e, G, hf, hp, h => by simp [ckB] at h
  | .and _ _, sc, W, X, e, G, hf, hp, h => by simp [ckB] at h
  | .or _ _, sc, W, X, e, G, hf, hp, h => by simp [ckB] at h
  | .one _, sc, W, X, e, G, hf, hp, h => by simp [ckB] at h
  | .ife _ _ _, sc, W, X, e, G, hf, hp, h => by simp [ckB] at h
  | .idx _ _, sc, W, X, e, G, hf, hp, h => by simp [ckB] at h
  | .slice _ _ _, sc, W, X, e, G, hf, hp, h => by simp [ckB] at h
  | .no, sc, W, X, e, G, hf, hp, h => by simp [ckB] at h
  | .isi _ _, sc, W, X, e, G, hf, hp, h => by simp [ckB] at h
  | .call _ _, sc, W, X, e, G, hf, hp, h => by simp [ckB] at h
  | .blt _ _, sc, W, X, e, G, hf, hp, h => by simp [ckB] at h
  | .comp _ _ _ _ _, sc, W, X, e, G, hf, hp, h => by simp [ckB] at h
  | .app _ _, sc, W, X, e, G, hf, hp, h => by simp [ckB] at h
  | .star _ _, sc, W, X, e, G, hf, hp, h => by simp [ckB] at h
  | .dix _ _, sc, W, X, e, G, hf, hp, h => by simp [ckB] at h
  | .ddisp _, sc, W, X, e, G, hf, hp, h => by simp [ckB] at h
  | .rev _, sc, W, X, e, G, hf, hp, h => by simp [ckB] at h
  | .tn _, sc, W, X, e, G, hf, hp, h => by simp [ckB] at h
  | .tt _, sc, W, X, e, G, hf, hp, h => by simp [ckB] at h
  | .ts _ _, sc, W, X, e, G, hf, hp, h => by simp [ckB] at h
  | .iseq _, sc, W, X, e, G, hf, hp, h => by simp [ckB] at h
  | .irng _, sc, W, X, e, G, hf, hp, h => by simp [ckB] at h
  | .irng2 _ _, sc, W, X, e, G, hf, hp, h => by simp [ckB] at h
  | .ienum _, sc, W, X, e, G, hf, hp, h => by simp [ckB] at h
  | .izip _, sc, W, X, e, G, hf, hp, h => by simp [ckB] at h
  | .izip3 _, sc, W, X, e, G, hf, hp, h => by simp [ckB] at h
  | .set _ _, sc, W, X, e, G, hf, hp, h => by simp [ckB] at h
  | .ret _, sc, W, X, e, G, hf, hp, h => by simp [ckB] at h
  | .retN, sc, W, X, e, G, hf, hp, h => by simp [ckB] at h
  | .expr _, sc, W, X, e, G, hf, hp, h => by simp [ckB] at h
  | .pass, sc, W, X, e, G, hf, hp, h => by simp [ckB] at h
  | .cont, sc, W, X, e, G, hf, hp, h => by simp [ckB] at h
  | .brk, sc, W, X, e, G, hf, hp, h => by simp [ckB] at h
  | .sif _ _ _, sc, W, X, e, G, hf, hp, h => by simp [ckB] at h
  | .whl _ _, sc, W, X, e, G, hf, hp, h => by simp [ckB] at h
  | .sfor _ _ _, sc, W, X, e, G, hf, hp, h => by simp [ckB] at h
  | .raise _ _, sc, W, X, e, G, hf, hp, h => by simp [ckB] at h
  | .stl _ _ _, sc, W, X, e, G, hf, hp, h => by simp [ckB] at h
  | .std _ _ _, sc, W, X, e, G, hf, hp, h => by simp [ckB] at h
  | .setC _ _, sc, W, X, e, G, hf, hp, h => by simp [ckB] at h
  | .par _ _, sc, W, X, e, G, hf, hp, h => by simp [ckB] at h
end
end

/-! ### defs -/
/-- a def of the text, its codes -/
structure DefOk (K : PySem.W.Frag) (mg : Str → Option Value) (T : Tab) (f : Nat) (x : Str) : Prop where
  ex : ∃ (a : Addr) (fd : FuncData) (qual : Str) (st : Stmt) (N ps : List Str) (d : Df), mg x = some (.ref a) ∧ Fun K x qual st a fd ∧ Binds K fd ps [] ∧ FnScope N ps (defScope st) ∧
    T.defs[f]? = some d ∧ d.np = ps.length ∧ d.ns = N.length ∧ ckB T N d.body (defScope st) (defBody st) = true
theorem start_ok {K : PySem.W.Frag} {n : Nat} {rho : Nat → Addr} {H : Hp} {N : List Str} {ps : List PV} {vs : List V} (h : VRs K n rho H ps vs) : SlR K n rho H (ps.map some ++ List.replicate (N.length - ps.length) none) (L2.start N vs) := by
  have hl := h.len
  unfold L2.start
  refine ⟨by simp [hl], fun i p e => ?_⟩
  by_cases hi : i < ps.length
  · rw [List.getElem?_append_left (by simpa using hi), List.getElem?_map] at e
    cases q : ps[i]? with
    | none => rw [q] at e; cases e
    | some p' =>
      rw [q] at e
      cases e
      obtain ⟨v, e1, e2⟩ := h.get q
      exact ⟨v, by rw [List.getElem?_append_left (by rw [List.length_map, ← hl]; exact hi), List.getElem?_map, e1]; rfl, e2⟩
  · rw [List.getElem?_append_right (by simpa using hi)] at e
    have := List.mem_of_getElem? e
    rw [List.mem_replicate] at this
    cases this.2
section
variable {P : Program} {w : World} {K : PySem.W.Frag} {mg : Str → Option Value} {base : Heap} {cl : Cls0} {T : Tab}
theorem fn_bad {CX : CXT} {k : Nat} {a : Addr} {fd : FuncData} {ps : List Str} {sp : Sp} (h : ∀ vs H Q E, ¬ sp vs H Q E) : FnOk P w K mg base CX k a fd ps sp := ⟨fun vs H Q E q => (h _ _ _ _ q).elim, fun A outer s H args us vs Q E _ _ _ _ q => (h _ _ _ _ q).elim⟩
theorem fn_stepD {n f : Nat} {x : Str} {a : Addr} {fd : FuncData} {qual : Str} {st : Stmt} {N ps : List Str} {d : Df} (F : Facts P w K mg base cl T (runF T n) n) (hF : Fun K x qual st a fd) (hS : FnScope N ps (defScope st)) (hd : T.defs[f]? = some d) (hnp : d.np = ps.length) (hns : d.ns = N.length) (hck : ckB T N d.body (defScope st) (defBody st) = true) : FnOk P w K mg base (L2.CX P w) (n + 1) a fd ps (spI K cl (runF T (n + 1)) f) := by
  refine hF.okX hS (fun vs H Q E ⟨rho, s, qs, R, V1, h⟩ => ?_) fun cdv A outer s0 H vs Q E hr hsp => ?_
  · simp only [runF, hd] at h
    split at h
    · rename_i e
      rw [← V1.len, ← hnp]
      exact Nat.eq_of_beq_eq_true e
    · exact h.elim
  · obtain ⟨rho, s, qs, R, V1, h⟩ := hsp
    let X := cxOf (L2.CX P w) P w K mg base N qual (defScope st) a cdv A outer s0 H E
    let W : WX := fun c d _ H => E c d H
    have tk : Takes X W := takes_of rfl rfl rfl rfl
    have G : Good cl T (runF T n) n N (defScope st) W X := ⟨rfl, hS.nd, rfl, rfl, hr, F, fun σ => passAt tk σ⟩
    refine ⟨tS X.K cl W T (runF T n) d.body, sB d.body (defScope st) W X (defBody st) G rfl (passes_of rfl) hck, ?_⟩
    simp only [runF, hd] at h
    split at h
    · rename_i e
      have e := Nat.eq_of_beq_eq_true e
      refine ⟨rho, s, qs.map some ++ List.replicate (d.ns - d.np) none, R, ?_, ?_⟩
      · rw [hns, ← e]; exact start_ok V1
      · cases e2 : ex T (runF T n) d.body (qs.map some ++ List.replicate (d.ns - d.np) none) s with
        | bad => simp only [e2] at h; exact h
        | exc c fs s1 =>
          simp only [e2] at h
          obtain ⟨C, names, e3, h⟩ := h
          exact ⟨C, names, e3, fun rho' H' d' vs' σ' x R' hd' V' => h rho' H' d' vs' x R' hd' V'⟩
        | ok fl s1 =>
          cases fl with
          | nx sl1 =>
            simp only [e2] at h
            exact fun rho' H' σ' x R' S' => h rho' H' .non x R' (by simp only [VR])
          | rt v =>
            simp only [e2] at h
            exact fun rho' H' v' x R' V' => h rho' H' v' x R' V'
          | bk sl1 => simp only [e2] at h; exact h.elim
          | ct sl1 => simp only [e2] at h; exact h.elim
    · exact h.elim
theorem fn_step {n f : Nat} {x : Str} (F : Facts P w K mg base cl T (runF T n) n) (D : DefOk K mg T f x) : ∃ a fd ps, mg x = some (.ref a) ∧ PySem.W.keepIn K (.ref a) = true ∧ Binds K fd ps [] ∧ FnOk P w K mg base (L2.CX P w) (n + 1) a fd ps (spI K cl (runF T (n + 1)) f) := by
  obtain ⟨a, fd, qual, st, N, ps, d, hm, hF, hB, hS, hd, hnp, hns, hck⟩ := D.ex
  exact ⟨a, fd, ps, hm, hF.kp, hB, fn_stepD F hF hS hd hnp hns hck⟩
/-- what stands behind the top: the defs, the constants, the built-ins -/
structure Top (K : PySem.W.Frag) (mg : Str → Option Value) (T : Tab) : Prop where
  defs : ∀ (f : Nat) (x : Str), T.fns[f]? = some x → DefOk K mg T f x
  consts : ∀ (i : Nat) (x : Str) (p : PV), T.cnames[i]? = some x → T.consts[i]? = some p → ∃ u v, mg x = some u ∧ RelV v u ∧ ∀ n rho H, VR K n rho H p v
  blt : ∀ x ∈ bltNames, mg x = none
theorem facts (t : Top K mg T) : ∀ n, Facts P w K mg base cl T (runF T n) n
  | 0 => ⟨fun f x h => by
      obtain ⟨a, fd, qual, st, N, ps, d, hm, hF, hB, _⟩ := (t.defs f x h).ex
      exact ⟨a, fd, ps, hm, hF.kp, hB, fn_bad fun vs H Q E ⟨_, _, _, _, _, h⟩ => by simp only [runF] at h; exact h⟩, t.consts, t.blt⟩
  | n + 1 => ⟨fun f x h => fn_step (facts t n) (t.defs f x h), t.consts, t.blt⟩
end
end FI

namespace FI
open PySem PySem.Spec PyProof.Rows L2

/-! ### constants of the top -/
mutual
def constB (K : PySem.W.Frag) : PV → Value → Bool
  | .non, u => (match u with | .none => true | _ => false)
  | .bl b, u => (match u with | .bool c => b == c | _ => false)
  | .int i, u => (match u with | .int j _ => decide (i = j) | _ => false)
  | .str x, u => (match u with | .str y _ => decide (x = y) | _ => false)
  | .tup xs, u => (match u with
    | .ref a => (match K.lookup a with
      | some ⟨.type c, _, .seq its _, _⟩ => decide (c = "tuple") && decide (its.size ≤ sizeLine) && constsB K xs its.toList
      | _ => false)
    | _ => false)
  | _, _ => false
def constsB (K : PySem.W.Frag) : List PV → List Value → Bool
  | [], us => us.isEmpty
  | x :: xs, us => (match us with | u :: us => constB K x u && constsB K xs us | [] => false)
end
mutual
theorem constB_ok {K : PySem.W.Frag} : ∀ (p : PV) (u : Value), constB K p u = true → ∃ v, RelV v u ∧ ∀ n rho H, VR K n rho H p v
  | .non, u, h => by
    simp only [constB] at h
    cases u with
    | none => exact ⟨.non, rfl, fun _ _ _ => by simp only [VR]⟩
    | _ => cases h
  | .bl b, u, h => by
    simp only [constB] at h
    cases u with
    | bool c => exact ⟨.bl c, rfl, fun _ _ _ => by simp only [VR]; rw [eq_of_beq h]⟩
    | _ => cases h
  | .int i, u, h => by
    simp only [constB] at h
    cases u with
    | int c t => exact ⟨.int c, ⟨t, rfl⟩, fun _ _ _ => by simp only [VR]; rw [of_decide_eq_true h]⟩
    | _ => cases h
  | .str i, u, h => by
    simp only [constB] at h
    cases u with
    | str c t => exact ⟨.str c, ⟨t, rfl⟩, fun _ _ _ => by simp only [VR]; rw [of_decide_eq_true h]⟩
    | _ => cases h
  | .tup xs, u, h => by
    simp only [constB] at h
    cases u with
    | ref a =>
      dsimp only at h
      cases q : K.lookup a with
      | none => rw [q] at h; cases h
      | some o =>
        obtain ⟨oc, od, dt, osl⟩ := o
        rw [q] at h
        cases oc with
        | type c =>
          cases dt with
          | seq its n =>
            simp only [Bool.and_eq_true, decide_eq_true_eq] at h
            obtain ⟨⟨h1, h2⟩, h3⟩ := h
            obtain ⟨vs, r, hv⟩ := constsB_ok xs its.toList h3
            refine ⟨.ref a, rfl, fun n' rho H => ?_⟩
            simp only [VR]
            exact ⟨a, vs, rfl, .inr ⟨_, its, n, q, congrArg Value.type h1, rfl, h2, r⟩, hv n' rho H⟩
          | _ => cases h
        | _ => cases dt <;> cases h
    | _ => cases h
  | .lst _, u, h => by simp [constB] at h
  | .dct _, u, h => by simp [constB] at h
theorem constsB_ok {K : PySem.W.Frag} : ∀ (ps : List PV) (us : List Value), constsB K ps us = true → ∃ vs, Vals vs us ∧ ∀ n rho H, VRs K n rho H ps vs
  | [], us, h => by
    simp only [constsB] at h
    cases us with
    | nil => exact ⟨[], .nil, fun _ _ _ => by simp only [VRs]⟩
    | cons _ _ => cases h
  | p :: ps, us, h => by
    simp only [constsB] at h
    cases us with
    | nil => cases h
    | cons u us =>
      simp only [Bool.and_eq_true] at h
      obtain ⟨v, r, hv⟩ := constB_ok p u h.1
      obtain ⟨vs, rs, hvs⟩ := constsB_ok ps us h.2
      exact ⟨v :: vs, .cons r rs, fun n rho H => by simp only [VRs]; exact ⟨v, vs, rfl, hv n rho H, hvs n rho H⟩⟩
end
/-- a constant by its name -/
def conB (K : PySem.W.Frag) (x : Str) (p : PV) : Bool := match PySem.W.nsIn K mainGlobals x with
  | some (some u) => constB K p u
  | _ => false
def consB (K : PySem.W.Frag) : List Str → List PV → Bool
  | x :: xs, p :: ps => conB K x p && consB K xs ps
  | [], [] => true
  | _, _ => false
theorem consB_ok {K : PySem.W.Frag} {h : Heap} {mg : Str → Option Value} (X : K.In h) (G : h.Ns mainGlobals mg) : ∀ {xs : List Str} {ps : List PV}, consB K xs ps = true → ∀ (i : Nat) (x : Str) (p : PV), xs[i]? = some x → ps[i]? = some p → ∃ u v, mg x = some u ∧ RelV v u ∧ ∀ n rho H, VR K n rho H p v
  | [], [], _, i, x, p, h1, _ => by simp at h1
  | [], _ :: _, c, _, _, _, _, _ => by simp [consB] at c
  | _ :: _, [], c, _, _, _, _, _ => by simp [consB] at c
  | y :: ys, q :: qs, c, 0, x, p, h1, h2 => by
    simp only [consB, Bool.and_eq_true] at c
    simp at h1 h2
    subst h1; subst h2
    have c1 := c.1
    unfold conB at c1
    split at c1
    · rename_i u e
      obtain ⟨v, r, hv⟩ := constB_ok q u c1
      exact ⟨u, v, PySem.W.mg_of X G e, r, hv⟩
    · cases c1
  | y :: ys, q :: qs, c, i + 1, x, p, h1, h2 => by
    simp only [consB, Bool.and_eq_true] at c
    exact consB_ok X G c.2 i x p (by simpa using h1) (by simpa using h2)
/-! ### the Hook: facts, defs, and a Bool more -/
abbrev AlB : Type := He.AlD × Bool
def obsB (n : Nat) (fa : List He.Fa) (fn : List He.DefD) (ex : PySem.W.Frag → Bool) (g : Addr → Option Obj) : AlB := (He.obsD fa fn (He.frG g (He.asD g n)), ex (He.frG g (He.asD g n)))
structure SaysB (fa : List He.Fa) (fn : List He.DefD) (ex : PySem.W.Frag → Bool) (K : PySem.W.Frag) : Prop where
  d : He.SaysD fa fn K
  more : ex K = true
def hookB (n : Nat) (fa : List He.Fa) (fn : List He.DefD) (ex : PySem.W.Frag → Bool) : PySem.W.Hook where
  α := AlB
  obs := fun s => obsB n fa fn ex s.heap.get?
  val := fun _ => (He.valD fn, true)
  says := fun _ h => ∃ K : PySem.W.Frag, K.In h ∧ SaysB fa fn ex K
  of := fun _ _ e => ⟨_, He.frG_in, congrArg (fun z : AlB => z.1) e, congrArg (fun z : AlB => z.2) e⟩
  keeps := fun _ _ _ ⟨K, hK, c⟩ k => ⟨K, PySem.W.Frag.In.keeps hK k, c⟩
theorem obsB_eq {n : Nat} {fa : List He.Fa} {fn : List He.DefD} {ex : PySem.W.Frag → Bool} {g : Addr → Option Obj} {s : Shared} (h : ∀ a, g a = s.heap.get? a) : obsB n fa fn ex g = (hookB n fa fn ex).obs s := by
  have e : g = s.heap.get? := funext h
  rw [e] <;> rfl
/-! ### a def by its datum -/
/-- a def: its name, its statement, its names by slots, its parameters -/
structure DI where
  name : Str
  st : Stmt
  N : List Str
  ps : List Str
def DI.d (i : DI) : He.DefD := ⟨(i.name, none), i.name, i.name, defArgs i.st, defBody i.st, defScope i.st, [], []⟩
def nodupB : List Str → Bool
  | [] => true
  | x :: xs => !xs.contains x && nodupB xs
theorem nodupB_ok : ∀ {xs : List Str}, nodupB xs = true → xs.Nodup
  | [], _ => List.nodup_nil
  | x :: xs, h => by
    simp only [nodupB, Bool.and_eq_true, Bool.not_eq_true'] at h
    refine List.nodup_cons.mpr ⟨fun z => ?_, nodupB_ok h.2⟩
    have this : xs.contains x = true := List.contains_iff_mem.mpr z
    rw [h.1] at this
    cases this
def scopeB (N ps : List Str) (sc : Scope) : Bool := decide (sc.kind = .function) && !sc.isCoroutine && !sc.isGenerator && nodupB N && decide (N.take ps.length = ps) && (ps.all fun x => locB sc x || isCell sc x) && (sc.names.all fun y => !decide (y.2 = .free))
theorem scopeB_ok {N ps : List Str} {sc : Scope} (h : scopeB N ps sc = true) : FnScope N ps sc := by
  simp only [scopeB, Bool.and_eq_true, decide_eq_true_eq, Bool.not_eq_true', List.all_eq_true, Bool.or_eq_true, decide_eq_false_iff_not] at h
  obtain ⟨⟨⟨⟨⟨⟨h1, h2⟩, h3⟩, h4⟩, h5⟩, h6⟩, h7⟩ := h
  refine ⟨h1, h2, h3, nodupB_ok h4, h5, fun x hx => ?_, h7⟩
  rcases h6 x hx with z | z
  · exact .inl (locB_ok z)
  · exact .inr (isCell_ok z)
/-- all that the kernel looks at of a def -/
def defB (T : Tab) (f : Nat) (i : DI) : Bool := scopeB i.N i.ps (defScope i.st) && (match T.defs[f]? with | some d => Nat.beq d.np i.ps.length && Nat.beq d.ns i.N.length && ckB T i.N d.body (defScope i.st) (defBody i.st) | none => false)
theorem mkDef {K : PySem.W.Frag} {h : Heap} {mg : Str → Option Value} {T : Tab} {f : Nat} {i : DI} {fa : List He.Fa} {fn : List He.DefD} (X : K.In h) (G : h.Ns mainGlobals mg) (c : He.SaysD fa fn K) (hd : i.d ∈ fn) (hg : He.Fa.glo i.name ∈ fa) (hc : defB T f i = true)
    (hb : ∀ (kV doc pm : Value) (an : Option Addr) (cdv ct : Value) (us : List Value), us.length = i.ps.length → bindArgs (PySem.W.fnOf i.name i.name (defArgs i.st) (defBody i.st) (defScope i.st) .none kV doc pm an cdv ct) ⟨us, []⟩ = pure (i.ps.zip us)) : DefOk K mg T f i.name := by
  obtain ⟨j, hj, ej⟩ := List.mem_iff_getElem.mp hd
  obtain ⟨fd, F⟩ := c.def_ j (d := i.d) (by rw [List.getElem?_eq_getElem hj, ej])
  obtain ⟨m, hm, em⟩ := List.mem_iff_getElem.mp hg
  have hgl := He.glo_ok X G (c.fact m (f := .glo i.name) (by rw [List.getElem?_eq_getElem hm, em]))
  have hB : Binds K fd i.ps [] := FunD.bindsN F hb
  obtain ⟨oc, od, dV, kV, doc, pm, an, cdv, ct, osl, efd, lk, hcd, hD, hK⟩ := F.ex
  rcases hD with ⟨_, rfl⟩ | ⟨e, _⟩
  · unfold defB at hc
    rw [Bool.and_eq_true] at hc
    obtain ⟨h1, h2⟩ := hc
    split at h2
    · rename_i d ed
      simp only [Bool.and_eq_true] at h2
      exact ⟨He.ga K i.name, fd, i.name, i.st, i.N, i.ps, d, hgl, ⟨⟨oc, od, kV, doc, pm, an, cdv, ct, osl, efd, lk, hcd⟩, F.kp⟩, hB, scopeB_ok h1, ed, Nat.eq_of_beq_eq_true h2.1.1, Nat.eq_of_beq_eq_true h2.1.2, h2.2⟩
    · cases h2
  · exact absurd rfl e
/-! ### the start -/
def sto0 (ns : List Int) : Sto := ⟨1, [(0, .rol (ns.map .int))]⟩
theorem ints_vr {K : PySem.W.Frag} {n : Nat} {rho : Nat → Addr} {H : Hp} : ∀ ns : List Int, VRs K n rho H (ns.map .int) (ns.map V.int)
  | [] => by simp only [List.map_nil, VRs]
  | i :: ns => by simp only [List.map_cons, VRs, VR]; exact ⟨_, _, rfl, rfl, ints_vr ns⟩
theorem sp_start {K : PySem.W.Frag} {cl : Cls0} {call : Nat → List PV → Sto → Res PV} {f : Nat} {H : Hp} {a : Addr} {ns : List Int} (hO : Only H) (hS : SqL K H a (ns.map V.int)) (hr : ∃ s', call f [.lst 0] (sto0 ns) = .ok (.bl true) s') : spI K cl call f [.ref a] H (fun v _ => v = .bl true) (fun _ _ _ => False) := by
  obtain ⟨s', hr⟩ := hr
  have ro : RoL K H a (ns.map V.int) := by
    rcases hS with hS | hS
    · rcases hS with hS | hS
      · rcases hO a with z | ⟨o, xs, z⟩
        · rw [z] at hS; cases hS
        · rw [z] at hS; cases hS
      · exact .inl hS
    · exact .inr fun H' => .inr hS
  refine ⟨fun _ => a, sto0 ns, [.lst 0], ⟨fun i o h => ?_, fun i o h => ?_, fun i j o u h h' t _ _ => ?_⟩, by simp only [VRs, VR]; exact ⟨_, _, rfl, ⟨Nat.zero_lt_one, rfl⟩, rfl⟩, ?_⟩
  · simp only [sto0, look] at h
    split at h
    · cases h
      exact ⟨_, ro, ints_vr ns⟩
    · cases h
  · simp only [sto0, look] at h
    split at h
    · rename_i e
      rw [Nat.eq_of_beq_eq_true e]
      exact Nat.zero_lt_one
    · cases h
  · simp only [sto0, look] at h
    split at h
    · cases h; cases t
    · cases h
  · rw [hr]
    intro rho' H' v _ _ V1
    simpa only [VR] using V1
end FI

namespace FI
open PySem PySem.Spec PyProof.Rows L2
/-! ### the top by a list of defs -/
def BindEq (i : DI) : Prop := ∀ (kV doc pm : Value) (an : Option Addr) (cdv ct : Value) (us : List Value), us.length = i.ps.length → bindArgs (PySem.W.fnOf i.name i.name (defArgs i.st) (defBody i.st) (defScope i.st) .none kV doc pm an cdv ct) ⟨us, []⟩ = pure (i.ps.zip us)
def AllI (p : Nat → DI → Prop) : Nat → List DI → Prop
  | _, [] => True
  | k, i :: is => p k i ∧ AllI p (k + 1) is
theorem AllI.get {p : Nat → DI → Prop} : ∀ {is : List DI} {k f : Nat} {i : DI}, AllI p k is → is[f]? = some i → p (k + f) i
  | [], _, _, _, _, h => by simp at h
  | i :: is, k, 0, j, a, h => by
    simp at h
    subst h
    exact a.1
  | i :: is, k, f + 1, j, a, h => by
    have z := AllI.get a.2 (f := f) (by simpa using h)
    rwa [Nat.add_assoc, Nat.add_comm 1 f] at z
def faI (ds : List DI) : List He.Fa := ds.map (fun i => He.Fa.glo i.name) ++ bltNames.map He.Fa.free
def fnI (ds : List DI) : List He.DefD := ds.map DI.d
def exI (T : Tab) : PySem.W.Frag → Bool := fun K => consB K T.cnames T.consts
def okI (T : Tab) (f : Nat) (i : DI) : Prop := defB T f i = true ∧ BindEq i
theorem topI {K : PySem.W.Frag} {h : Heap} {mg : Str → Option Value} {T : Tab} {ds : List DI} (X : K.In h) (G : h.Ns mainGlobals mg) (c : SaysB (faI ds) (fnI ds) (exI T) K) (hf : T.fns = ds.map (·.name)) (ha : AllI (okI T) 0 ds) : Top K mg T := by
  refine ⟨fun f x e => ?_, consB_ok X G c.more, fun x hx => ?_⟩
  · rw [hf, List.getElem?_map] at e
    cases q : ds[f]? with
    | none => rw [q] at e; cases e
    | some i =>
      rw [q] at e
      cases e
      have z := ha.get q
      rw [Nat.zero_add] at z
      have hm : i ∈ ds := List.mem_of_getElem? q
      exact mkDef X G c.d (List.mem_map.mpr ⟨i, hm, rfl⟩) (List.mem_append_left _ (List.mem_map.mpr ⟨i, hm, rfl⟩)) z.1 z.2
  · have hg : He.Fa.free x ∈ faI ds := List.mem_append_right _ (List.mem_map.mpr ⟨x, hx, rfl⟩)
    obtain ⟨m, hm, em⟩ := List.mem_iff_getElem.mp hg
    exact He.free_ok X G (c.d.fact m (f := .free x) (by rw [List.getElem?_eq_getElem hm, em]))
theorem lawI {P : Program} {w : World} {K : PySem.W.Frag} {h : Heap} {mg : Str → Option Value} {T : Tab} {ds : List DI} {cl : Cls0} {n f : Nat} {i : DI} {x : Str} (X : K.In h) (G : h.Ns mainGlobals mg) (c : SaysB (faI ds) (fnI ds) (exI T) K) (hf : T.fns = ds.map (·.name)) (ha : AllI (okI T) 0 ds)
    (hi : ds[f]? = some i) (hx : i.ps = [x]) : ∃ fd, mg i.name = some (.ref (He.ga K i.name)) ∧ (∀ (s : Shared) (u : Value), BindsTo s fd ⟨[u], []⟩ [(x, u)]) ∧ ∀ base, FnOk P w K mg base (L2.CX P w) (n + 1) (He.ga K i.name) fd [x] (spI K cl (runF T (n + 1)) f) := by
  have t := topI X G c hf ha
  have z := ha.get hi
  rw [Nat.zero_add] at z
  obtain ⟨hc, hb⟩ := z
  have hm : i ∈ ds := List.mem_of_getElem? hi
  have hm1 : i.d ∈ fnI ds := List.mem_map.mpr ⟨i, hm, rfl⟩
  obtain ⟨j, hj, ej⟩ := List.mem_iff_getElem.mp hm1
  obtain ⟨fd, F⟩ := c.d.def_ j (d := i.d) (by rw [List.getElem?_eq_getElem hj, ej])
  have hm2 : He.Fa.glo i.name ∈ faI ds := List.mem_append_left _ (List.mem_map.mpr ⟨i, hm, rfl⟩)
  obtain ⟨m, hm, em⟩ := List.mem_iff_getElem.mp hm2
  have hgl := He.glo_ok X G (c.d.fact m (f := .glo i.name) (by rw [List.getElem?_eq_getElem hm, em]))
  have b := FunD.bindsA (ps := i.ps) F hb
  refine ⟨fd, hgl, fun s u => ?_, fun base => ?_⟩
  · have z := b s [u] (by rw [hx]; rfl)
    rw [hx] at z
    exact z
  · obtain ⟨oc, od, dV, kV, doc, pm, an, cdv, ct, osl, efd, lk, hcd, hD, hK⟩ := F.ex
    rcases hD with ⟨_, rfl⟩ | ⟨e, _⟩
    · unfold defB at hc
      rw [Bool.and_eq_true] at hc
      obtain ⟨h1, h2⟩ := hc
      split at h2
      · rename_i d ed
        simp only [Bool.and_eq_true] at h2
        rw [← hx]
        exact fn_stepD (x := i.name) (qual := i.name) (st := i.st) (N := i.N) (facts t n) ⟨⟨oc, od, kV, doc, pm, an, cdv, ct, osl, efd, lk, hcd⟩, F.kp⟩ (scopeB_ok h1) ed (Nat.eq_of_beq_eq_true h2.1.1) (Nat.eq_of_beq_eq_true h2.1.2) h2.2
      · cases h2
    · exact absurd rfl e
theorem walkI {l : PySem.W.OpenLaw} {n k : Nat} {q : Program} {loose : List Str} {XP : (Str → Option Value) → Heap → Prop} {d : DefRec} {x : Str} {T : Tab} {ds : List DI} {f : Nat} {i : DI} {YP : World → Heap → Prop}
    (hY : ∀ w h, YP w h → ∃ K : PySem.W.Frag, K.In h ∧ SaysB (faI ds) (fnI ds) (exI T) K)
    (hn : l.most = some n) (hn2 : n ≤ sizeLine) (hdf : d.params.defaults = []) (hr : Room (k + 1) callerA)
    (hf : T.fns = ds.map (·.name)) (ha : AllI (okI T) 0 ds) (hi : ds[f]? = some i) (hx : i.ps = [x]) (hd : d.name = i.name)
    (hrun : ∀ ns : List Int, ns.length ≤ n → ∃ s', runF T (k + 1) f [.lst 0] (sto0 ns) = .ok (.bl true) s') :
    PySem.W.WalkO q loose XP YP l.row.toRowW d [] (fun f vs => PySem.call f vs) := by
  refine Att.attach_call hn hdf fun w s₀ s₁ mg mb fa o pm cd doc a vs ns G Y ho hd' hcd hmg hobj hints hlen hg => ?_
  obtain ⟨K, KX, c⟩ := hY _ _ Y
  obtain ⟨fd, hgl, hb, hF⟩ := lawI (P := l.prog) (w := w) (cl := fun _ => none) (n := k) KX G.T.g c hf ha hi hx
  rw [hd] at hmg
  have e := hmg.symm.trans hgl
  cases e
  refine law_call KX G.T.g G.T.b G.T.builtins G.T.nolimit hg hobj hints (Nat.le_trans hlen hn2) hr (fun base _ _ => hF base) hb (fun H hO hS => sp_start hO hS (hrun ns hlen)) fun H e s' z => ?_
  obtain ⟨_, _, _, _, _, _, _, _, _, _, _, _, hE⟩ := z
  exact hE
end FI

namespace K69
open PySem FI L2

def top (i : Nat) : Stmt := PySem.Challenge.pw_forehouse_k69_ladders_are_scores.main.body.getD i (.Pass ⟨0, 0, 0, 0⟩)

/-- is_integer -/
def c_is_integer : E :=
  (.seq (.ret (.and (.isi .int (.var 0)) (.one (.not (.isi .bool (.var 0)))))) .skip)

/-- common -/
def c_common : E :=
  (.seq (.par [0, 1] (.cons (.blt .abs (.cons (.var 0) .nil)) (.cons (.blt .abs (.cons (.var 1) .nil)) .nil))) (.seq (.whl (.cmp .ne (.var 1) (.int 0))
    (.seq (.par [0, 1] (.cons (.var 1) (.cons (.bin .mod (.var 0) (.blt .int (.cons (.var 1) .nil))) .nil))) .skip)) (.seq (.ret (.var 0)) .skip)))

/-- made -/
def c_made : E :=
  (.seq (.sif (.cmp .lt (.var 1) (.int 0))
    (.seq (.par [0, 1] (.cons (.bin .sub (.int 0) (.var 0)) (.cons (.bin .sub (.int 0) (.var 1)) .nil))) .skip)
    .skip) (.seq (.set (.tn 2) (.call 1 (.cons (.var 0) (.cons (.var 1) .nil)))) (.seq (.ret (.tup (.cons (.bin .fdiv (.var 0) (.var 2)) (.cons (.bin .fdiv (.var 1) (.var 2)) .nil)))) .skip)))

/-- is_fraction -/
def c_is_fraction : E :=
  (.seq (.sif (.or (.not (.isi .tuple (.var 0))) (.or (.cmp .ne (.blt .len (.cons (.var 0) .nil)) (.int 2)) (.one (.not (.blt .all (.cons (.comp [("one", 1)] (.tn 1) (.iseq (.var 0)) (.bl true) (.call 0 (.cons (.var 1) .nil))) .nil))))))
    (.seq (.ret (.bl false)) .skip)
    .skip) (.seq (.ret (.and (.cmp .ge (.idx (.var 0) (.int 1)) (.int 1)) (.one (.cmp .eq (.call 1 (.cons (.idx (.var 0) (.int 0)) (.cons (.idx (.var 0) (.int 1)) .nil))) (.int 1))))) .skip))

/-- add -/
def c_add : E :=
  (.seq (.ret (.call 2 (.cons (.bin .add (.bin .mul (.idx (.var 0) (.int 0)) (.idx (.var 1) (.int 1))) (.bin .mul (.idx (.var 1) (.int 0)) (.idx (.var 0) (.int 1)))) (.cons (.bin .mul (.idx (.var 0) (.int 1)) (.idx (.var 1) (.int 1))) .nil)))) .skip)

/-- sub -/
def c_sub : E :=
  (.seq (.ret (.call 2 (.cons (.bin .sub (.bin .mul (.idx (.var 0) (.int 0)) (.idx (.var 1) (.int 1))) (.bin .mul (.idx (.var 1) (.int 0)) (.idx (.var 0) (.int 1)))) (.cons (.bin .mul (.idx (.var 0) (.int 1)) (.idx (.var 1) (.int 1))) .nil)))) .skip)

/-- mul -/
def c_mul : E :=
  (.seq (.ret (.call 2 (.cons (.bin .mul (.idx (.var 0) (.int 0)) (.idx (.var 1) (.int 0))) (.cons (.bin .mul (.idx (.var 0) (.int 1)) (.idx (.var 1) (.int 1))) .nil)))) .skip)

/-- div -/
def c_div : E :=
  (.seq (.ret (.call 2 (.cons (.bin .mul (.idx (.var 0) (.int 0)) (.idx (.var 1) (.int 1))) (.cons (.bin .mul (.idx (.var 0) (.int 1)) (.idx (.var 1) (.int 0))) .nil)))) .skip)

/-- is_under -/
def c_is_under : E :=
  (.seq (.ret (.cmp .lt (.bin .mul (.idx (.var 0) (.int 0)) (.idx (.var 1) (.int 1))) (.bin .mul (.idx (.var 1) (.int 0)) (.idx (.var 0) (.int 1))))) .skip)

/-- sum_in -/
def c_sum_in : E :=
  (.seq (.set (.tn 1) (.glob 0)) (.seq (.sfor (.tn 2) (.iseq (.var 0))
    (.seq (.set (.tn 1) (.call 4 (.cons (.var 1) (.cons (.var 2) .nil)))) .skip)) (.seq (.ret (.var 1)) .skip)))

/-- need_fraction -/
def c_need_fraction : E :=
  (.seq (.sif (.not (.call 3 (.cons (.var 0) .nil)))
    (.seq .never .skip)
    .skip) (.seq (.ret (.var 0)) .skip))

/-- is_piece -/
def c_is_piece : E :=
  (.seq (.sif (.or (.not (.isi .tuple (.var 0))) (.or (.cmp .notin (.blt .len (.cons (.var 0) .nil)) (.tup (.cons (.int 3) (.cons (.int 4) .nil)))) (.one (.not (.blt .all (.cons (.comp [("one", 1)] (.tn 1) (.iseq (.slice (.var 0) (.int 1) .no)) (.bl true) (.call 3 (.cons (.var 1) .nil))) .nil))))))
    (.seq (.ret (.bl false)) .skip)
    .skip) (.seq (.sif (.or (.not (.isi .str (.idx (.var 0) (.int 0)))) (.one (.call 8 (.cons (.idx (.var 0) (.neg (.int 1))) (.cons (.glob 0) .nil)))))
    (.seq (.ret (.bl false)) .skip)
    .skip) (.seq (.sif (.cmp .eq (.blt .len (.cons (.var 0) .nil)) (.int 3))
    (.seq (.ret (.cmp .eq (.idx (.var 0) (.int 0)) (.glob 1))) .skip)
    .skip) (.seq (.ret (.and (.cmp .eq (.idx (.var 0) (.int 0)) (.glob 2)) (.one (.call 8 (.cons (.idx (.var 0) (.int 1)) (.cons (.idx (.var 0) (.int 2)) .nil)))))) .skip))))

/-- need_score -/
def c_need_score : E :=
  (.seq (.sif (.or (.not (.isi .tuple (.var 0))) (.one (.cmp .gt (.blt .len (.cons (.var 0) .nil)) (.glob 3))))
    (.seq .never .skip)
    .skip) (.seq (.sfor (.tt (.cons (.tn 1) (.cons (.tn 2) .nil))) (.ienum (.var 0))
    (.seq (.sif (.not (.call 11 (.cons (.var 2) .nil)))
    (.seq .never .skip)
    .skip) .skip)) (.seq (.ret (.var 0)) .skip)))

/-- rising_once -/
def c_rising_once : E :=
  (.seq (.set (.tn 1) (.lst .nil)) (.seq (.sfor (.tn 2) (.iseq (.var 0))
    (.seq (.set (.tn 3) (.blt .len (.cons (.comp [("other", 4)] (.tn 4) (.iseq (.var 1)) (.call 8 (.cons (.var 4) (.cons (.var 2) .nil))) (.var 4)) .nil))) (.seq (.sif (.or (.cmp .eq (.var 3) (.blt .len (.cons (.var 1) .nil))) (.one (.cmp .ne (.idx (.var 1) (.var 3)) (.var 2))))
    (.seq (.set (.tn 1) (.bin .add (.bin .add (.slice (.var 1) .no (.var 3)) (.lst (.cons (.var 2) .nil))) (.slice (.var 1) (.var 3) .no))) .skip)
    .skip) .skip))) (.seq (.ret (.var 1)) .skip)))

/-- covers_stretch -/
def c_covers_stretch : E :=
  (.seq (.ret (.and (.not (.call 8 (.cons (.var 1) (.cons (.idx (.var 0) (.int 1)) .nil)))) (.one (.not (.call 8 (.cons (.idx (.var 0) (.int 2)) (.cons (.var 2) .nil))))))) .skip)

/-- marks_in -/
def c_marks_in : E :=
  (.seq (.setC 1 (.comp [("piece", 4)] (.tn 4) (.iseq (.var 0)) (.cmp .eq (.idx (.var 4) (.int 0)) (.glob 1)) (.var 4))) (.seq (.set (.tn 2) (.lst .nil)) (.seq (.sfor (.tn 3) (.iseq (.call 13 (.cons (.comp [("piece", 4)] (.tn 4) (.iseq (.var 1)) (.bl true) (.idx (.var 4) (.int 1))) .nil)))
    (.seq (.expr (.app (.var 2) (.tup (.cons (.glob 1) (.cons (.var 3) (.cons (.call 9 (.cons (.comp [("piece", 4)] (.tn 4) (.iseq (.var 1)) (.cmp .eq (.idx (.var 4) (.int 1)) (.var 3)) (.idx (.var 4) (.int 2))) .nil)) .nil)))))) .skip)) (.seq (.ret (.comp [("piece", 4)] (.tn 4) (.iseq (.var 2)) (.cmp .ne (.idx (.var 4) (.int 2)) (.glob 0)) (.var 4))) .skip))))

/-- stretches_in -/
def c_stretches_in : E :=
  (.seq (.setC 1 (.comp [("piece", 7)] (.tn 7) (.iseq (.var 0)) (.cmp .eq (.idx (.var 7) (.int 0)) (.glob 2)) (.var 7))) (.seq (.par [2, 3] (.cons (.call 13 (.cons (.bin .add (.comp [("piece", 7)] (.tn 7) (.iseq (.var 1)) (.bl true) (.idx (.var 7) (.int 1))) (.comp [("piece", 7)] (.tn 7) (.iseq (.var 1)) (.bl true) (.idx (.var 7) (.int 2)))) .nil)) (.cons (.lst .nil) .nil))) (.seq (.sfor (.tt (.cons (.tn 4) (.cons (.tn 5) .nil))) (.izip (.cons (.var 2) (.cons (.slice (.var 2) (.int 1) .no) .nil)))
    (.seq (.set (.tn 6) (.call 9 (.cons (.comp [("piece", 7)] (.tn 7) (.iseq (.var 1)) (.call 14 (.cons (.var 7) (.cons (.var 4) (.cons (.var 5) .nil)))) (.idx (.var 7) (.int 3))) .nil))) (.seq (.sif (.cmp .eq (.var 6) (.glob 0))
    (.seq .cont .skip)
    .skip) (.seq (.sif (.and (.cmp .ne (.var 3) (.lst .nil)) (.one (.cmp .eq (.slice (.idx (.var 3) (.neg (.int 1))) (.int 2) .no) (.tup (.cons (.var 4) (.cons (.var 6) .nil))))))
    (.seq (.stl (.var 3) (.neg (.int 1)) (.tup (.cons (.glob 2) (.cons (.idx (.idx (.var 3) (.neg (.int 1))) (.int 1)) (.cons (.var 5) (.cons (.var 6) .nil)))))) .skip)
    (.seq (.expr (.app (.var 3) (.tup (.cons (.glob 2) (.cons (.var 4) (.cons (.var 5) (.cons (.var 6) .nil))))))) .skip)) .skip)))) (.seq (.ret (.var 3)) .skip))))

/-- plain_in -/
def c_plain_in : E :=
  (.seq (.ret (.blt .tuple (.cons (.bin .add (.call 15 (.cons (.var 0) .nil)) (.call 16 (.cons (.var 0) .nil))) .nil))) .skip)

/-- plain -/
def c_plain : E :=
  (.seq (.ret (.call 17 (.cons (.call 12 (.cons (.var 0) .nil)) .nil))) .skip)

/-- are_like -/
def c_are_like : E :=
  (.seq (.ret (.cmp .eq (.call 17 (.cons (.call 12 (.cons (.var 0) .nil)) .nil)) (.call 17 (.cons (.call 12 (.cons (.var 1) .nil)) .nil)))) .skip)

/-- over_stretch -/
def c_over_stretch : E :=
  (.seq (.set (.tn 3) (.call 5 (.cons (.call 6 (.cons (.var 2) (.cons (.var 2) .nil))) (.cons (.call 6 (.cons (.var 1) (.cons (.var 1) .nil))) .nil)))) (.seq (.ret (.call 5 (.cons (.call 6 (.cons (.var 0) (.cons (.call 5 (.cons (.var 2) (.cons (.var 1) .nil))) .nil))) (.cons (.call 6 (.cons (.var 3) (.cons (.glob 4) .nil))) .nil)))) .skip))

/-- passed_by -/
def c_passed_by : E :=
  (.seq (.sif (.cmp .eq (.idx (.var 0) (.int 0)) (.glob 1))
    (.seq (.ret (.ife (.not (.call 8 (.cons (.var 1) (.cons (.idx (.var 0) (.int 1)) .nil)))) (.call 6 (.cons (.idx (.var 0) (.int 2)) (.cons (.call 5 (.cons (.var 2) (.cons (.idx (.var 0) (.int 1)) .nil))) .nil))) (.glob 0))) .skip)
    .skip) (.seq (.sif (.not (.call 8 (.cons (.idx (.var 0) (.int 1)) (.cons (.var 1) .nil))))
    (.seq (.ret (.glob 0)) .skip)
    .skip) (.seq (.set (.tn 3) (.ife (.call 8 (.cons (.var 1) (.cons (.idx (.var 0) (.int 2)) .nil))) (.var 1) (.idx (.var 0) (.int 2)))) (.seq (.ret (.call 6 (.cons (.idx (.var 0) (.int 3)) (.cons (.call 20 (.cons (.var 2) (.cons (.idx (.var 0) (.int 1)) (.cons (.var 3) .nil)))) .nil)))) .skip))))

/-- passed_in -/
def c_passed_in : E :=
  (.seq (.ret (.call 4 (.cons (.glob 0) (.cons (.call 9 (.cons (.comp [("piece", 3)] (.tn 3) (.iseq (.var 0)) (.bl true) (.call 21 (.cons (.var 3) (.cons (.var 1) (.cons (.var 2) .nil))))) .nil)) .nil)))) .skip)

/-- bend_in -/
def c_bend_in : E :=
  (.seq (.ret (.call 22 (.cons (.var 0) (.cons (.var 1) (.cons (.var 1) .nil))))) .skip)

/-- bend_at -/
def c_bend_at : E :=
  (.seq (.expr (.call 12 (.cons (.var 0) .nil))) (.seq (.ret (.call 23 (.cons (.var 0) (.cons (.call 10 (.cons (.var 1) .nil)) .nil)))) .skip))

/-- is_weight -/
def c_is_weight : E :=
  (.seq (.ret (.and (.call 3 (.cons (.var 0) .nil)) (.one (.call 8 (.cons (.glob 0) (.cons (.var 0) .nil)))))) .skip)

/-- is_state -/
def c_is_state : E :=
  (.seq (.ret (.and (.isi .tuple (.var 0)) (.and (.cmp .eq (.blt .len (.cons (.var 0) .nil)) (.int 2)) (.and (.call 25 (.cons (.idx (.var 0) (.int 0)) .nil)) (.one (.call 3 (.cons (.idx (.var 0) (.int 1)) .nil))))))) .skip)

/-- need_world -/
def c_need_world : E :=
  (.seq (.sif (.or (.not (.isi .tuple (.var 0))) (.one (.not (.chain .le .le (.int 1) (.blt .len (.cons (.var 0) .nil)) (.glob 5)))))
    (.seq .never .skip)
    .skip) (.seq (.sfor (.tt (.cons (.tn 1) (.cons (.tn 2) .nil))) (.ienum (.var 0))
    (.seq (.sif (.not (.call 26 (.cons (.var 2) .nil)))
    (.seq .never .skip)
    .skip) .skip)) (.seq (.ret (.var 0)) .skip)))

/-- is_bet -/
def c_is_bet : E :=
  (.seq (.ret (.and (.isi .tuple (.var 1)) (.and (.cmp .eq (.blt .len (.cons (.var 1) .nil)) (.blt .len (.cons (.var 0) .nil))) (.one (.blt .all (.cons (.comp [("one", 2)] (.tn 2) (.iseq (.var 1)) (.bl true) (.call 3 (.cons (.var 2) .nil))) .nil)))))) .skip)

/-- is_offer -/
def c_is_offer : E :=
  (.seq (.ret (.and (.isi .tuple (.var 0)) (.and (.cmp .eq (.blt .len (.cons (.var 0) .nil)) (.int 2)) (.and (.call 3 (.cons (.idx (.var 0) (.int 0)) .nil)) (.one (.call 25 (.cons (.idx (.var 0) (.int 1)) .nil))))))) .skip)

/-- need_ladder -/
def c_need_ladder : E :=
  (.seq (.sif (.or (.not (.isi .tuple (.var 0))) (.one (.cmp .gt (.blt .len (.cons (.var 0) .nil)) (.glob 6))))
    (.seq .never .skip)
    .skip) (.seq (.sfor (.tt (.cons (.tn 1) (.cons (.tn 2) .nil))) (.ienum (.var 0))
    (.seq (.sif (.or (.not (.call 29 (.cons (.var 2) .nil))) (.one (.and (.cmp .gt (.var 1) (.int 0)) (.one (.not (.call 8 (.cons (.idx (.idx (.var 0) (.bin .sub (.var 1) (.int 1))) (.int 0)) (.cons (.idx (.var 2) (.int 0)) .nil))))))))
    (.seq .never .skip)
    .skip) .skip)) (.seq (.ret (.var 0)) .skip)))

/-- as_score -/
def c_as_score : E :=
  (.seq (.ret (.blt .tuple (.cons (.comp [("mark", 1), ("units", 2)] (.tt (.cons (.tn 1) (.cons (.tn 2) .nil))) (.iseq (.call 30 (.cons (.var 0) .nil))) (.bl true) (.tup (.cons (.glob 1) (.cons (.var 1) (.cons (.var 2) .nil))))) .nil))) .skip)

/-- ladder_of -/
def c_ladder_of : E :=
  (.seq (.set (.tn 1) (.call 17 (.cons (.call 12 (.cons (.var 0) .nil)) .nil))) (.seq (.sif (.not (.blt .all (.cons (.comp [("piece", 2)] (.tn 2) (.iseq (.var 1)) (.bl true) (.cmp .eq (.idx (.var 2) (.int 0)) (.glob 1))) .nil)))
    (.seq (.ret .non) .skip)
    .skip) (.seq (.ret (.blt .tuple (.cons (.comp [("piece", 2)] (.tn 2) (.iseq (.var 1)) (.bl true) (.slice (.var 2) (.int 1) .no)) .nil))) .skip)))

/-- between -/
def c_between : E :=
  (.seq (.ret (.comp [("offer", 3)] (.tn 3) (.iseq (.var 0)) (.and (.call 8 (.cons (.var 1) (.cons (.idx (.var 3) (.int 0)) .nil))) (.one (.not (.call 8 (.cons (.var 2) (.cons (.idx (.var 3) (.int 0)) .nil)))))) (.var 3))) .skip)

/-- position_in -/
def c_position_in : E :=
  (.seq (.sif (.call 8 (.cons (.var 2) (.cons (.var 1) .nil)))
    (.seq (.ret (.call 5 (.cons (.glob 0) (.cons (.call 34 (.cons (.var 0) (.cons (.var 2) (.cons (.var 1) .nil)))) .nil)))) .skip)
    .skip) (.seq (.ret (.call 4 (.cons (.glob 0) (.cons (.call 9 (.cons (.comp [("mark", 3), ("units", 4)] (.tt (.cons (.tn 3) (.cons (.tn 4) .nil))) (.iseq (.call 33 (.cons (.var 0) (.cons (.var 1) (.cons (.var 2) .nil))))) (.bl true) (.var 4)) .nil)) .nil)))) .skip))

/-- paid_in -/
def c_paid_in : E :=
  (.seq (.sif (.call 8 (.cons (.var 2) (.cons (.var 1) .nil)))
    (.seq (.ret (.call 5 (.cons (.glob 0) (.cons (.call 35 (.cons (.var 0) (.cons (.var 2) (.cons (.var 1) .nil)))) .nil)))) .skip)
    .skip) (.seq (.ret (.call 4 (.cons (.glob 0) (.cons (.call 9 (.cons (.comp [("mark", 3), ("units", 4)] (.tt (.cons (.tn 3) (.cons (.tn 4) .nil))) (.iseq (.call 33 (.cons (.var 0) (.cons (.var 1) (.cons (.var 2) .nil))))) (.bl true) (.call 6 (.cons (.var 4) (.cons (.var 3) .nil)))) .nil)) .nil)))) .skip))

/-- need_move -/
def c_need_move : E :=
  (.seq (.expr (.call 30 (.cons (.var 0) .nil))) (.seq (.expr (.call 10 (.cons (.var 1) .nil))) (.seq (.expr (.call 10 (.cons (.var 2) .nil))) .skip)))

/-- position -/
def c_position : E :=
  (.seq (.expr (.call 36 (.cons (.var 0) (.cons (.var 1) (.cons (.var 2) .nil))))) (.seq (.ret (.call 34 (.cons (.var 0) (.cons (.var 1) (.cons (.var 2) .nil))))) .skip))

/-- paid -/
def c_paid : E :=
  (.seq (.expr (.call 36 (.cons (.var 0) (.cons (.var 1) (.cons (.var 2) .nil))))) (.seq (.ret (.call 35 (.cons (.var 0) (.cons (.var 1) (.cons (.var 2) .nil))))) .skip))

/-- earned_in -/
def c_earned_in : E :=
  (.seq (.ret (.call 5 (.cons (.call 6 (.cons (.var 3) (.cons (.call 34 (.cons (.var 0) (.cons (.var 1) (.cons (.var 2) .nil)))) .nil))) (.cons (.call 35 (.cons (.var 0) (.cons (.var 1) (.cons (.var 2) .nil)))) .nil)))) .skip)

/-- earned -/
def c_earned : E :=
  (.seq (.expr (.call 36 (.cons (.var 0) (.cons (.var 1) (.cons (.var 2) .nil))))) (.seq (.ret (.call 39 (.cons (.var 0) (.cons (.var 1) (.cons (.var 2) (.cons (.call 10 (.cons (.var 3) .nil)) .nil)))))) .skip))

/-- loss_at -/
def c_loss_at : E :=
  (.seq (.expr (.call 36 (.cons (.var 0) (.cons (.var 1) (.cons (.var 2) .nil))))) (.seq (.ret (.call 39 (.cons (.var 0) (.cons (.var 1) (.cons (.var 2) (.cons (.var 2) .nil)))))) .skip))

/-- greatest_loss -/
def c_greatest_loss : E :=
  (.seq (.expr (.call 36 (.cons (.var 0) (.cons (.var 1) (.cons (.var 2) .nil))))) (.seq (.expr (.call 10 (.cons (.var 3) .nil))) (.seq (.sif (.call 8 (.cons (.var 3) (.cons (.var 2) .nil)))
    (.seq .never .skip)
    .skip) (.seq (.par [4, 5] (.cons (.call 39 (.cons (.var 0) (.cons (.var 1) (.cons (.var 2) (.cons (.var 2) .nil))))) (.cons (.call 39 (.cons (.var 0) (.cons (.var 1) (.cons (.var 3) (.cons (.var 3) .nil))))) .nil))) (.seq (.ret (.ife (.call 8 (.cons (.var 4) (.cons (.var 5) .nil))) (.var 5) (.var 4))) .skip)))))

/-- is_point -/
def c_is_point : E :=
  (.seq (.ret (.and (.isi .tuple (.var 0)) (.and (.cmp .eq (.blt .len (.cons (.var 0) .nil)) (.int 2)) (.and (.call 3 (.cons (.idx (.var 0) (.int 0)) .nil)) (.one (.call 3 (.cons (.idx (.var 0) (.int 1)) .nil))))))) .skip)

/-- need_points -/
def c_need_points : E :=
  (.seq (.sif (.or (.not (.isi .tuple (.var 0))) (.one (.not (.chain .le .le (.glob 7) (.blt .len (.cons (.var 0) .nil)) (.glob 8)))))
    (.seq .never .skip)
    .skip) (.seq (.sif (.not (.blt .all (.cons (.comp [("one", 1)] (.tn 1) (.iseq (.var 0)) (.bl true) (.call 43 (.cons (.var 1) .nil))) .nil)))
    (.seq .never .skip)
    .skip) (.seq (.sif (.not (.blt .all (.cons (.comp [("near", 2), ("far", 3)] (.tt (.cons (.tn 2) (.cons (.tn 3) .nil))) (.izip (.cons (.var 0) (.cons (.slice (.var 0) (.int 1) .no) .nil))) (.bl true) (.call 8 (.cons (.idx (.var 2) (.int 0)) (.cons (.idx (.var 3) (.int 0)) .nil)))) .nil)))
    (.seq .never .skip)
    .skip) (.seq (.ret (.var 0)) .skip))))

/-- slopes_in -/
def c_slopes_in : E :=
  (.seq (.ret (.comp [("near", 1), ("far", 2)] (.tt (.cons (.tn 1) (.cons (.tn 2) .nil))) (.izip (.cons (.var 0) (.cons (.slice (.var 0) (.int 1) .no) .nil))) (.bl true) (.call 7 (.cons (.call 5 (.cons (.idx (.var 2) (.int 1)) (.cons (.idx (.var 1) (.int 1)) .nil))) (.cons (.call 5 (.cons (.idx (.var 2) (.int 0)) (.cons (.idx (.var 1) (.int 0)) .nil))) .nil))))) .skip)

/-- slope_above -/
def c_slope_above : E :=
  (.seq (.ret (.blt .maxL (.cons (.bin .add (.lst (.cons (.int 0) .nil)) (.comp [("spot", 2), ("point", 3)] (.tt (.cons (.tn 2) (.cons (.tn 3) .nil))) (.ienum (.slice (.var 0) .no (.neg (.int 1)))) (.not (.call 8 (.cons (.var 1) (.cons (.idx (.var 3) (.int 0)) .nil)))) (.var 2))) .nil))) .skip)

/-- line_in -/
def c_line_in : E :=
  (.seq (.set (.tn 2) (.call 46 (.cons (.var 0) (.cons (.var 1) .nil)))) (.seq (.set (.tt (.cons (.tn 3) (.cons (.tn 4) .nil))) (.idx (.var 0) (.var 2))) (.seq (.ret (.call 4 (.cons (.var 4) (.cons (.call 6 (.cons (.idx (.call 45 (.cons (.var 0) .nil)) (.var 2)) (.cons (.call 5 (.cons (.var 1) (.cons (.var 3) .nil))) .nil))) .nil)))) .skip)))

/-- line_at -/
def c_line_at : E :=
  (.seq (.expr (.call 44 (.cons (.var 0) .nil))) (.seq (.ret (.call 47 (.cons (.var 0) (.cons (.call 10 (.cons (.var 1) .nil)) .nil)))) .skip))

/-- ladder_back -/
def c_ladder_back : E :=
  (.seq (.expr (.call 44 (.cons (.var 0) .nil))) (.seq (.expr (.call 10 (.cons (.var 1) .nil))) (.seq (.set (.tn 2) (.call 45 (.cons (.var 0) .nil))) (.seq (.sif (.blt .any (.cons (.comp [("near", 5), ("far", 6)] (.tt (.cons (.tn 5) (.cons (.tn 6) .nil))) (.izip (.cons (.var 2) (.cons (.slice (.var 2) (.int 1) .no) .nil))) (.bl true) (.call 8 (.cons (.var 6) (.cons (.var 5) .nil)))) .nil))
    (.seq (.ret .non) .skip)
    .skip) (.seq (.sif (.or (.cmp .ne (.call 47 (.cons (.var 0) (.cons (.var 1) .nil))) (.glob 0)) (.one (.cmp .ne (.idx (.var 2) (.call 46 (.cons (.var 0) (.cons (.var 1) .nil)))) (.glob 0))))
    (.seq (.ret .non) .skip)
    .skip) (.seq (.set (.tn 3) (.lst .nil)) (.seq (.sfor (.tt (.cons (.tn 4) (.cons (.tn 5) (.cons (.tn 6) .nil)))) (.izip3 (.cons (.slice (.var 0) (.int 1) (.neg (.int 1))) (.cons (.var 2) (.cons (.slice (.var 2) (.int 1) .no) .nil))))
    (.seq (.sif (.cmp .ne (.var 5) (.var 6))
    (.seq (.expr (.app (.var 3) (.tup (.cons (.idx (.var 4) (.int 0)) (.cons (.call 5 (.cons (.var 6) (.cons (.var 5) .nil))) .nil))))) .skip)
    .skip) .skip)) (.seq (.ret (.blt .tuple (.cons (.var 3) .nil))) .skip))))))))

/-- points_of -/
def c_points_of : E :=
  (.seq (.expr (.call 30 (.cons (.var 0) .nil))) (.seq (.expr (.call 10 (.cons (.var 1) .nil))) (.seq (.setC 2 (.comp [("mark", 5), ("units", 7)] (.tt (.cons (.tn 5) (.cons (.tn 7) .nil))) (.iseq (.var 0)) (.bl true) (.var 5))) (.seq (.par [3, 4] (.cons (.var 1) (.cons (.var 1) .nil))) (.seq (.sfor (.tn 5) (.iseq (.var 2))
    (.seq (.set (.tn 3) (.ife (.call 8 (.cons (.var 5) (.cons (.var 3) .nil))) (.var 5) (.var 3))) (.seq (.set (.tn 4) (.ife (.call 8 (.cons (.var 4) (.cons (.var 5) .nil))) (.var 5) (.var 4))) .skip))) (.seq (.set (.tn 6) (.lst (.cons (.call 5 (.cons (.var 3) (.cons (.glob 9) .nil))) (.star (.var 2) (.cons (.call 4 (.cons (.var 4) (.cons (.glob 9) .nil))) .nil))))) (.seq (.ret (.blt .tuple (.cons (.comp [("worth", 8)] (.tn 8) (.iseq (.var 6)) (.bl true) (.tup (.cons (.var 8) (.cons (.call 39 (.cons (.var 0) (.cons (.var 1) (.cons (.var 8) (.cons (.var 8) .nil))))) .nil)))) .nil))) .skip)))))))

/-- need_guesses -/
def c_need_guesses : E :=
  (.seq (.sif (.not (.call 28 (.cons (.call 27 (.cons (.var 0) .nil)) (.cons (.var 1) .nil))))
    (.seq .never .skip)
    .skip) (.seq (.ret (.var 1)) .skip))

/-- loss_in -/
def c_loss_in : E :=
  (.seq (.set (.tn 3) (.lst .nil)) (.seq (.sfor (.tt (.cons (.tt (.cons (.tn 4) (.cons (.tn 5) .nil))) (.cons (.tn 6) .nil))) (.izip (.cons (.var 0) (.cons (.var 1) .nil)))
    (.seq (.expr (.app (.var 3) (.call 6 (.cons (.var 4) (.cons (.call 5 (.cons (.call 23 (.cons (.var 2) (.cons (.var 5) .nil))) (.cons (.call 22 (.cons (.var 2) (.cons (.var 6) (.cons (.var 5) .nil)))) .nil))) .nil))))) .skip)) (.seq (.ret (.call 4 (.cons (.glob 0) (.cons (.call 9 (.cons (.var 3) .nil)) .nil)))) .skip)))

/-- loss -/
def c_loss : E :=
  (.seq (.expr (.call 51 (.cons (.var 0) (.cons (.var 1) .nil)))) (.seq (.ret (.call 52 (.cons (.var 0) (.cons (.var 1) (.cons (.call 12 (.cons (.var 2) .nil)) .nil))))) .skip))

/-- _law_mixed -/
def c__law_mixed : E :=
  (.seq (.set (.tn 0) (.bin .mod (.blt .int (.cons (.var 0) .nil)) (.int 2147483647))) (.seq (.ret (.bin .mod (.bin .mul (.bin .mod (.bin .add (.bin .add (.bin .mul (.var 0) (.bin .add (.int 48271) (.bin .mul (.bin .mul (.int 2) (.var 1)) (.var 1)))) (.bin .mul (.int 69621) (.var 1))) (.int 11)) (.int 2147483647)) (.int 69621)) (.int 2147483629))) .skip))

/-- _law_begin -/
def c__law_begin : E :=
  (.seq (.set (.tn 1) (.ife (.cmp .ne (.var 0) (.lst .nil)) (.blt .list (.cons (.var 0) .nil)) (.lst (.cons (.int 0) .nil)))) (.seq (.ret (.ddisp (.cons (.str "cells") (.cons (.var 1) (.cons (.str "lefts") (.cons (.comp [("_law_cell", 2)] (.tn 2) (.iseq (.var 1)) (.bl true) (.ife (.cmp .ge (.var 2) (.bin .pow (.int 10) (.int 18))) (.var 2) (.int 0))) (.cons (.str "at") (.cons (.int 0) (.cons (.str "room") (.cons (.int 0) .nil)))))))))) .skip))

/-- _law_draw -/
def c__law_draw : E :=
  (.seq (.set (.tn 2) (.dix (.var 0) (.str "at"))) (.seq (.std (.var 0) (.str "at") (.bin .add (.var 2) (.int 1))) (.seq (.set (.tn 3) (.bin .mod (.blt .int (.cons (.var 2) .nil)) (.blt .len (.cons (.dix (.var 0) (.str "cells")) .nil)))) (.seq (.set (.tn 4) (.idx (.dix (.var 0) (.str "lefts")) (.var 3))) (.seq (.sif (.cmp .gt (.var 4) (.int 0))
    (.seq (.stl (.dix (.var 0) (.str "lefts")) (.var 3) (.bin .fdiv (.var 4) (.var 1))) (.seq (.ret (.bin .mod (.blt .int (.cons (.var 4) .nil)) (.var 1))) .skip))
    .skip) (.seq (.set (.tn 5) (.call 54 (.cons (.call 54 (.cons (.idx (.dix (.var 0) (.str "cells")) (.var 3)) (.cons (.var 2) .nil))) (.cons (.bin .add (.int 40) (.var 2)) .nil)))) (.seq (.ret (.bin .mod (.bin .fdiv (.blt .int (.cons (.bin .add (.bin .mul (.var 5) (.int 2147483647)) (.call 54 (.cons (.var 5) (.cons (.bin .add (.int 7) (.var 2)) .nil)))) .nil)) (.int 64)) (.var 1))) .skip)))))))

/-- _law_ratio -/
def c__law_ratio : E :=
  (.seq (.par [2, 3] (.cons (.blt .abs (.cons (.var 0) .nil)) (.cons (.var 1) .nil))) (.seq (.whl (.cmp .ne (.var 3) (.int 0))
    (.seq (.par [2, 3] (.cons (.var 3) (.cons (.bin .mod (.blt .int (.cons (.var 2) .nil)) (.var 3)) .nil))) .skip)) (.seq (.ret (.tup (.cons (.bin .fdiv (.var 0) (.var 2)) (.cons (.bin .fdiv (.var 1) (.var 2)) .nil)))) .skip)))

/-- _law_plus -/
def c__law_plus : E :=
  (.seq (.ret (.call 57 (.cons (.bin .add (.bin .mul (.idx (.var 0) (.int 0)) (.idx (.var 1) (.int 1))) (.bin .mul (.idx (.var 1) (.int 0)) (.idx (.var 0) (.int 1)))) (.cons (.bin .mul (.idx (.var 0) (.int 1)) (.idx (.var 1) (.int 1))) .nil)))) .skip)

/-- _law_less -/
def c__law_less : E :=
  (.seq (.ret (.call 57 (.cons (.bin .sub (.bin .mul (.idx (.var 0) (.int 0)) (.idx (.var 1) (.int 1))) (.bin .mul (.idx (.var 1) (.int 0)) (.idx (.var 0) (.int 1)))) (.cons (.bin .mul (.idx (.var 0) (.int 1)) (.idx (.var 1) (.int 1))) .nil)))) .skip)

/-- _law_times -/
def c__law_times : E :=
  (.seq (.ret (.call 57 (.cons (.bin .mul (.idx (.var 0) (.int 0)) (.idx (.var 1) (.int 0))) (.cons (.bin .mul (.idx (.var 0) (.int 1)) (.idx (.var 1) (.int 1))) .nil)))) .skip)

/-- _law_under -/
def c__law_under : E :=
  (.seq (.ret (.cmp .lt (.bin .mul (.idx (.var 0) (.int 0)) (.idx (.var 1) (.int 1))) (.bin .mul (.idx (.var 1) (.int 0)) (.idx (.var 0) (.int 1))))) .skip)

/-- _law_sum -/
def c__law_sum : E :=
  (.seq (.set (.tn 1) (.tup (.cons (.int 0) (.cons (.int 1) .nil)))) (.seq (.sfor (.tn 2) (.iseq (.var 0))
    (.seq (.set (.tn 1) (.call 58 (.cons (.var 1) (.cons (.var 2) .nil)))) .skip)) (.seq (.ret (.var 1)) .skip)))

/-- _law_sorted -/
def c__law_sorted : E :=
  (.seq (.set (.tn 1) (.lst .nil)) (.seq (.sfor (.tn 2) (.iseq (.var 0))
    (.seq (.set (.tn 3) (.blt .len (.cons (.comp [("_law_far", 4)] (.tn 4) (.iseq (.var 1)) (.call 61 (.cons (.var 4) (.cons (.var 2) .nil))) (.var 4)) .nil))) (.seq (.sif (.cmp .notin (.var 2) (.var 1))
    (.seq (.set (.tn 1) (.bin .add (.bin .add (.slice (.var 1) .no (.var 3)) (.lst (.cons (.var 2) .nil))) (.slice (.var 1) (.var 3) .no))) .skip)
    .skip) .skip))) (.seq (.ret (.var 1)) .skip)))

/-- _law_ladder -/
def c__law_ladder : E :=
  (.seq (.set (.tn 2) (.call 63 (.cons (.comp [("_law_k", 3)] (.tn 3) (.irng (.var 1)) (.bl true) (.call 57 (.cons (.bin .sub (.call 56 (.cons (.var 0) (.cons (.int 13) .nil))) (.int 6)) (.cons (.bin .add (.int 1) (.call 56 (.cons (.var 0) (.cons (.int 2) .nil)))) .nil)))) .nil))) (.seq (.set (.tn 2) (.slice (.var 2) .no (.call 56 (.cons (.var 0) (.cons (.bin .add (.blt .len (.cons (.var 2) .nil)) (.int 1)) .nil))))) (.seq (.ret (.blt .tuple (.cons (.comp [("_law_mark", 4)] (.tn 4) (.iseq (.var 2)) (.bl true) (.tup (.cons (.var 4) (.cons (.call 57 (.cons (.bin .add (.int 1) (.call 56 (.cons (.var 0) (.cons (.int 4) .nil)))) (.cons (.int 2) .nil))) .nil)))) .nil))) .skip)))

/-- _law_number -/
def c__law_number : E :=
  (.seq (.ret (.call 57 (.cons (.bin .sub (.call 56 (.cons (.var 0) (.cons (.int 17) .nil))) (.int 8)) (.cons (.bin .add (.int 1) (.call 56 (.cons (.var 0) (.cons (.int 2) .nil)))) .nil)))) .skip)

/-- _law_move_right -/
def c__law_move_right : E :=
  (.seq (.par [4, 5] (.cons (.tup (.cons (.tup (.cons (.tup (.cons (.int 1) (.cons (.int 1) .nil))) (.cons (.var 3) .nil))) .nil)) (.cons (.call 31 (.cons (.var 0) .nil)) .nil))) (.seq (.set (.tn 6) (.call 59 (.cons (.call 53 (.cons (.var 4) (.cons (.tup (.cons (.var 1) .nil)) (.cons (.var 5) .nil)))) (.cons (.call 53 (.cons (.var 4) (.cons (.tup (.cons (.var 2) .nil)) (.cons (.var 5) .nil)))) .nil)))) (.seq (.par [7, 8] (.cons (.call 37 (.cons (.var 0) (.cons (.var 1) (.cons (.var 2) .nil)))) (.cons (.call 38 (.cons (.var 0) (.cons (.var 1) (.cons (.var 2) .nil)))) .nil))) (.seq (.sif (.or (.cmp .ne (.call 40 (.cons (.var 0) (.cons (.var 1) (.cons (.var 2) (.cons (.var 3) .nil))))) (.var 6)) (.one (.cmp .ne (.call 59 (.cons (.call 60 (.cons (.var 3) (.cons (.var 7) .nil))) (.cons (.var 8) .nil))) (.var 6))))
    (.seq (.ret (.bl false)) .skip)
    .skip) (.seq (.set (.tn 9) (.lst (.cons (.call 37 (.cons (.var 0) (.cons (.var 2) (.cons (.var 1) .nil)))) (.cons (.call 38 (.cons (.var 0) (.cons (.var 2) (.cons (.var 1) .nil)))) .nil)))) (.seq (.sif (.cmp .ne (.var 9) (.lst (.cons (.call 59 (.cons (.tup (.cons (.int 0) (.cons (.int 1) .nil))) (.cons (.var 7) .nil))) (.cons (.call 59 (.cons (.tup (.cons (.int 0) (.cons (.int 1) .nil))) (.cons (.var 8) .nil))) .nil))))
    (.seq (.ret (.bl false)) .skip)
    .skip) (.seq (.setC 10 (.comp [("_law_row", 11)] (.tn 11) (.iseq (.var 0)) (.and (.call 61 (.cons (.var 1) (.cons (.idx (.var 11) (.int 0)) .nil))) (.one (.not (.call 61 (.cons (.var 2) (.cons (.idx (.var 11) (.int 0)) .nil)))))) (.var 11))) (.seq (.sif (.call 61 (.cons (.var 2) (.cons (.var 1) .nil)))
    (.seq (.ret (.bl true)) .skip)
    .skip) (.seq (.sif (.cmp .ne (.var 7) (.call 62 (.cons (.comp [("_law_row", 11)] (.tn 11) (.iseq (.var 10)) (.bl true) (.idx (.var 11) (.int 1))) .nil)))
    (.seq (.ret (.bl false)) .skip)
    .skip) (.seq (.ret (.cmp .eq (.var 8) (.call 62 (.cons (.comp [("_law_row", 11)] (.tn 11) (.iseq (.var 10)) (.bl true) (.call 60 (.cons (.idx (.var 11) (.int 0)) (.cons (.idx (.var 11) (.int 1)) .nil)))) .nil)))) .skip))))))))))

/-- _law_line_right -/
def c__law_line_right : E :=
  (.seq (.par [3, 4] (.cons (.call 50 (.cons (.var 0) (.cons (.var 1) .nil))) (.cons (.call 31 (.cons (.var 0) .nil)) .nil))) (.seq (.sif (.cmp .ne (.call 49 (.cons (.var 3) (.cons (.var 1) .nil))) (.var 0))
    (.seq (.ret (.bl false)) .skip)
    .skip) (.seq (.sfor (.tn 5) (.iseq (.var 2))
    (.seq (.set (.tn 10) (.call 53 (.cons (.tup (.cons (.tup (.cons (.tup (.cons (.int 1) (.cons (.int 1) .nil))) (.cons (.var 5) .nil))) .nil)) (.cons (.tup (.cons (.var 1) .nil)) (.cons (.var 4) .nil))))) (.seq (.sif (.cmp .ne (.lst (.cons (.call 41 (.cons (.var 0) (.cons (.var 1) (.cons (.var 5) .nil)))) (.cons (.call 48 (.cons (.var 3) (.cons (.var 5) .nil))) .nil))) (.lst (.cons (.var 10) (.cons (.var 10) .nil))))
    (.seq (.ret (.bl false)) .skip)
    .skip) (.seq (.sif (.or (.call 61 (.cons (.var 10) (.cons (.tup (.cons (.int 0) (.cons (.int 1) .nil))) .nil))) (.one (.call 61 (.cons (.var 10) (.cons (.call 40 (.cons (.var 0) (.cons (.var 1) (.cons (.idx (.var 2) (.int 1)) (.cons (.var 5) .nil))))) .nil)))))
    (.seq (.ret (.bl false)) .skip)
    .skip) .skip)))) (.seq (.par [6, 7] (.cons (.idx (.var 2) (.int 0)) (.cons (.idx (.var 2) (.int 1)) .nil))) (.seq (.sif (.call 61 (.cons (.var 7) (.cons (.var 6) .nil)))
    (.seq (.par [6, 7] (.cons (.var 7) (.cons (.var 6) .nil))) .skip)
    .skip) (.seq (.set (.tn 8) (.lst (.cons (.call 41 (.cons (.var 0) (.cons (.var 1) (.cons (.var 6) .nil)))) (.cons (.call 41 (.cons (.var 0) (.cons (.var 1) (.cons (.var 7) .nil)))) .nil)))) (.seq (.set (.tn 9) (.ife (.call 61 (.cons (.idx (.var 8) (.int 0)) (.cons (.idx (.var 8) (.int 1)) .nil))) (.idx (.var 8) (.int 1)) (.idx (.var 8) (.int 0)))) (.seq (.ret (.cmp .eq (.call 42 (.cons (.var 0) (.cons (.var 1) (.cons (.var 6) (.cons (.var 7) .nil))))) (.var 9))) .skip))))))))

/-- law -/
def c_law : E :=
  (.seq (.set (.tn 1) (.call 55 (.cons (.var 0) .nil))) (.seq (.sfor (.tn 2) (.irng (.bin .add (.int 2) (.blt .min2 (.cons (.blt .len (.cons (.var 0) .nil)) (.cons (.int 3) .nil)))))
    (.seq (.par [6, 7] (.cons (.call 64 (.cons (.var 1) (.cons (.int 4) .nil))) (.cons (.comp [("_law_k", 14)] (.tn 14) (.irng (.int 4)) (.bl true) (.call 65 (.cons (.var 1) .nil))) .nil))) (.seq (.sif (.or (.cmp .ne (.call 32 (.cons (.call 31 (.cons (.var 6) .nil)) .nil)) (.var 6)) (.one (.cmp .ne (.call 18 (.cons (.call 31 (.cons (.var 6) .nil)) .nil)) (.call 31 (.cons (.var 6) .nil)))))
    (.seq (.ret (.bl false)) .skip)
    .skip) (.seq (.sfor (.tt (.cons (.tn 8) (.cons (.tn 9) (.cons (.tn 10) .nil)))) (.iseq (.tup (.cons (.tup (.cons (.idx (.var 7) (.int 0)) (.cons (.idx (.var 7) (.int 1)) (.cons (.idx (.var 7) (.int 2)) .nil)))) (.cons (.tup (.cons (.idx (.var 7) (.int 1)) (.cons (.idx (.var 7) (.int 2)) (.cons (.idx (.var 7) (.int 3)) .nil)))) (.cons (.tup (.cons (.idx (.var 7) (.int 0)) (.cons (.idx (.var 7) (.int 0)) (.cons (.idx (.var 7) (.int 1)) .nil)))) .nil)))))
    (.seq (.sif (.not (.call 66 (.cons (.var 6) (.cons (.var 8) (.cons (.var 9) (.cons (.var 10) .nil))))))
    (.seq (.ret (.bl false)) .skip)
    .skip) .skip)) (.seq (.set (.tn 11) (.lst (.cons (.call 40 (.cons (.var 6) (.cons (.idx (.var 7) (.int 0)) (.cons (.idx (.var 7) (.int 1)) (.cons (.idx (.var 7) (.int 3)) .nil))))) (.cons (.call 40 (.cons (.var 6) (.cons (.idx (.var 7) (.int 1)) (.cons (.idx (.var 7) (.int 2)) (.cons (.idx (.var 7) (.int 3)) .nil))))) .nil)))) (.seq (.sif (.cmp .ne (.call 58 (.cons (.idx (.var 11) (.int 0)) (.cons (.idx (.var 11) (.int 1)) .nil))) (.call 40 (.cons (.var 6) (.cons (.idx (.var 7) (.int 0)) (.cons (.idx (.var 7) (.int 2)) (.cons (.idx (.var 7) (.int 3)) .nil))))))
    (.seq (.ret (.bl false)) .skip)
    .skip) (.seq (.sif (.not (.call 67 (.cons (.var 6) (.cons (.idx (.var 7) (.int 0)) (.cons (.var 7) .nil)))))
    (.seq (.ret (.bl false)) .skip)
    .skip) (.seq (.set (.tn 12) (.bin .add (.bin .add (.rev (.call 31 (.cons (.var 6) .nil))) (.tup (.cons (.tup (.cons (.str "stretch") (.cons (.tup (.cons (.int 0) (.cons (.int 1) .nil))) (.cons (.tup (.cons (.int 1) (.cons (.int 1) .nil))) (.cons (.tup (.cons (.int 0) (.cons (.int 1) .nil))) .nil))))) .nil))) (.call 31 (.cons (.var 6) .nil)))) (.seq (.set (.tn 13) (.blt .tuple (.cons (.comp [("_law_mark", 15), ("_law_units", 16)] (.tt (.cons (.tn 15) (.cons (.tn 16) .nil))) (.iseq (.var 6)) (.bl true) (.tup (.cons (.var 15) (.cons (.call 60 (.cons (.tup (.cons (.int 2) (.cons (.int 1) .nil))) (.cons (.var 16) .nil))) .nil)))) .nil))) (.seq (.sif (.or (.cmp .ne (.call 32 (.cons (.var 12) .nil)) (.var 13)) (.one (.cmp .notB (.call 19 (.cons (.var 12) (.cons (.call 31 (.cons (.var 13) .nil)) .nil))) (.bl true))))
    (.seq (.ret (.bl false)) .skip)
    .skip) (.seq (.sif (.cmp .ne (.call 24 (.cons (.var 12) (.cons (.idx (.var 7) (.int 0)) .nil))) (.call 60 (.cons (.tup (.cons (.int 2) (.cons (.int 1) .nil))) (.cons (.call 24 (.cons (.call 31 (.cons (.var 6) .nil)) (.cons (.idx (.var 7) (.int 0)) .nil))) .nil))))
    (.seq (.ret (.bl false)) .skip)
    .skip) .skip))))))))))) (.seq (.set (.tn 3) (.tup (.cons (.tup (.cons (.tup (.cons (.int 1) (.cons (.int 1) .nil))) (.cons (.tup (.cons (.int 2) (.cons (.int 1) .nil))) .nil))) (.cons (.tup (.cons (.tup (.cons (.int 3) (.cons (.int 1) .nil))) (.cons (.tup (.cons (.int 1) (.cons (.int 1) .nil))) .nil))) .nil)))) (.seq (.set (.tn 4) (.lst (.cons (.call 37 (.cons (.var 3) (.cons (.tup (.cons (.int 2) (.cons (.int 1) .nil))) (.cons (.tup (.cons (.int 4) (.cons (.int 1) .nil))) .nil)))) (.cons (.call 38 (.cons (.var 3) (.cons (.tup (.cons (.int 2) (.cons (.int 1) .nil))) (.cons (.tup (.cons (.int 4) (.cons (.int 1) .nil))) .nil)))) (.cons (.call 40 (.cons (.var 3) (.cons (.tup (.cons (.int 2) (.cons (.int 1) .nil))) (.cons (.tup (.cons (.int 0) (.cons (.int 1) .nil))) (.cons (.tup (.cons (.int 0) (.cons (.int 1) .nil))) .nil))))) .nil))))) (.seq (.set (.tn 4) (.bin .add (.var 4) (.lst (.cons (.call 41 (.cons (.var 3) (.cons (.tup (.cons (.int 2) (.cons (.int 1) .nil))) (.cons (.tup (.cons (.int 5) (.cons (.int 1) .nil))) .nil)))) (.cons (.call 42 (.cons (.var 3) (.cons (.tup (.cons (.int 2) (.cons (.int 1) .nil))) (.cons (.tup (.cons (.int 0) (.cons (.int 1) .nil))) (.cons (.tup (.cons (.int 5) (.cons (.int 1) .nil))) .nil))))) (.cons (.call 50 (.cons (.var 3) (.cons (.tup (.cons (.int 2) (.cons (.int 1) .nil))) .nil))) .nil)))))) (.seq (.sif (.cmp .notN (.call 49 (.cons (.tup (.cons (.tup (.cons (.tup (.cons (.int 0) (.cons (.int 1) .nil))) (.cons (.tup (.cons (.int 0) (.cons (.int 1) .nil))) .nil))) (.cons (.tup (.cons (.tup (.cons (.int 1) (.cons (.int 1) .nil))) (.cons (.tup (.cons (.int 1) (.cons (.int 1) .nil))) .nil))) (.cons (.tup (.cons (.tup (.cons (.int 2) (.cons (.int 1) .nil))) (.cons (.tup (.cons (.int 0) (.cons (.int 1) .nil))) .nil))) .nil)))) (.cons (.tup (.cons (.int 0) (.cons (.int 1) .nil))) .nil))) .non)
    (.seq (.ret (.bl false)) .skip)
    .skip) (.seq (.set (.tn 5) (.lst (.cons (.tup (.cons (.int 1) (.cons (.int 1) .nil))) (.cons (.tup (.cons (.int 3) (.cons (.int 1) .nil))) (.cons (.tup (.cons (.int 2) (.cons (.int 1) .nil))) (.cons (.tup (.cons (.int 2) (.cons (.int 1) .nil))) (.cons (.tup (.cons (.int 2) (.cons (.int 1) .nil))) .nil))))))) (.seq (.ret (.cmp .eq (.var 4) (.bin .add (.var 5) (.lst (.cons (.tup (.cons (.tup (.cons (.tup (.cons (.int 0) (.cons (.int 1) .nil))) (.cons (.tup (.cons (.int 2) (.cons (.int 1) .nil))) .nil))) (.cons (.tup (.cons (.tup (.cons (.int 1) (.cons (.int 1) .nil))) (.cons (.tup (.cons (.int 0) (.cons (.int 1) .nil))) .nil))) (.cons (.tup (.cons (.tup (.cons (.int 3) (.cons (.int 1) .nil))) (.cons (.tup (.cons (.int 0) (.cons (.int 1) .nil))) .nil))) (.cons (.tup (.cons (.tup (.cons (.int 4) (.cons (.int 1) .nil))) (.cons (.tup (.cons (.int 1) (.cons (.int 1) .nil))) .nil))) .nil))))) .nil))))) .skip))))))))

def T : Tab where
  consts := ([(.tup [(.int 0), (.int 1)]), (.str "mark"), (.str "stretch"), (.int 10), (.tup [(.int 1), (.int 2)]), (.int 36), (.int 10), (.int 2), (.int 12), (.tup [(.int 1), (.int 1)])] : List PV)
  cnames := (["NOUGHT", "MARK", "STRETCH", "MOST_PIECES", "HALF", "MOST_STATES", "MOST_OFFERS", "LEAST_POINTS", "MOST_POINTS", "ONE"] : List Str)
  fns := (["is_integer", "common", "made", "is_fraction", "add", "sub", "mul", "div", "is_under", "sum_in", "need_fraction", "is_piece"] : List Str) ++ (["need_score", "rising_once", "covers_stretch", "marks_in", "stretches_in", "plain_in", "plain", "are_like", "over_stretch", "passed_by", "passed_in", "bend_in"] : List Str) ++ (["bend_at", "is_weight", "is_state", "need_world", "is_bet", "is_offer", "need_ladder", "as_score", "ladder_of", "between", "position_in", "paid_in"] : List Str) ++ (["need_move", "position", "paid", "earned_in", "earned", "loss_at", "greatest_loss", "is_point", "need_points", "slopes_in", "slope_above", "line_in"] : List Str) ++ (["line_at", "ladder_back", "points_of", "need_guesses", "loss_in", "loss", "_law_mixed", "_law_begin", "_law_draw", "_law_ratio", "_law_plus", "_law_less"] : List Str) ++ (["_law_times", "_law_under", "_law_sum", "_law_sorted", "_law_ladder", "_law_number", "_law_move_right", "_law_line_right", "law"] : List Str)
  defs := ([⟨1, 1, c_is_integer⟩, ⟨2, 2, c_common⟩, ⟨2, 3, c_made⟩, ⟨1, 2, c_is_fraction⟩, ⟨2, 2, c_add⟩, ⟨2, 2, c_sub⟩, ⟨2, 2, c_mul⟩, ⟨2, 2, c_div⟩, ⟨2, 2, c_is_under⟩, ⟨1, 3, c_sum_in⟩, ⟨1, 1, c_need_fraction⟩, ⟨1, 2, c_is_piece⟩] : List Df) ++ ([⟨1, 3, c_need_score⟩, ⟨1, 5, c_rising_once⟩, ⟨3, 3, c_covers_stretch⟩, ⟨1, 5, c_marks_in⟩, ⟨1, 8, c_stretches_in⟩, ⟨1, 1, c_plain_in⟩, ⟨1, 1, c_plain⟩, ⟨2, 2, c_are_like⟩, ⟨3, 4, c_over_stretch⟩, ⟨3, 4, c_passed_by⟩, ⟨3, 4, c_passed_in⟩, ⟨2, 2, c_bend_in⟩] : List Df) ++ ([⟨2, 2, c_bend_at⟩, ⟨1, 1, c_is_weight⟩, ⟨1, 1, c_is_state⟩, ⟨1, 3, c_need_world⟩, ⟨2, 3, c_is_bet⟩, ⟨1, 1, c_is_offer⟩, ⟨1, 3, c_need_ladder⟩, ⟨1, 3, c_as_score⟩, ⟨1, 3, c_ladder_of⟩, ⟨3, 4, c_between⟩, ⟨3, 5, c_position_in⟩, ⟨3, 5, c_paid_in⟩] : List Df) ++ ([⟨3, 3, c_need_move⟩, ⟨3, 3, c_position⟩, ⟨3, 3, c_paid⟩, ⟨4, 4, c_earned_in⟩, ⟨4, 4, c_earned⟩, ⟨3, 3, c_loss_at⟩, ⟨4, 6, c_greatest_loss⟩, ⟨1, 1, c_is_point⟩, ⟨1, 4, c_need_points⟩, ⟨1, 3, c_slopes_in⟩, ⟨2, 4, c_slope_above⟩, ⟨2, 5, c_line_in⟩] : List Df) ++ ([⟨2, 2, c_line_at⟩, ⟨2, 7, c_ladder_back⟩, ⟨2, 9, c_points_of⟩, ⟨2, 2, c_need_guesses⟩, ⟨3, 7, c_loss_in⟩, ⟨3, 3, c_loss⟩, ⟨2, 2, c__law_mixed⟩, ⟨1, 3, c__law_begin⟩, ⟨2, 6, c__law_draw⟩, ⟨2, 4, c__law_ratio⟩, ⟨2, 2, c__law_plus⟩, ⟨2, 2, c__law_less⟩] : List Df) ++ ([⟨2, 2, c__law_times⟩, ⟨2, 2, c__law_under⟩, ⟨1, 3, c__law_sum⟩, ⟨1, 5, c__law_sorted⟩, ⟨2, 5, c__law_ladder⟩, ⟨1, 1, c__law_number⟩, ⟨4, 12, c__law_move_right⟩, ⟨3, 11, c__law_line_right⟩, ⟨1, 17, c_law⟩] : List Df)
  fuel := 2 ^ 9000

def i_is_integer : DI := ⟨"is_integer", top 11, ["thing"], ["thing"]⟩

def i_common : DI := ⟨"common", top 12, ["one", "other"], ["one", "other"]⟩

def i_made : DI := ⟨"made", top 13, ["top", "bottom", "divisor"], ["top", "bottom"]⟩

def i_is_fraction : DI := ⟨"is_fraction", top 14, ["thing", "one"], ["thing"]⟩

def i_add : DI := ⟨"add", top 15, ["one", "other"], ["one", "other"]⟩

def i_sub : DI := ⟨"sub", top 16, ["one", "other"], ["one", "other"]⟩

def i_mul : DI := ⟨"mul", top 17, ["one", "other"], ["one", "other"]⟩

def i_div : DI := ⟨"div", top 18, ["one", "other"], ["one", "other"]⟩

def i_is_under : DI := ⟨"is_under", top 19, ["one", "other"], ["one", "other"]⟩

def i_sum_in : DI := ⟨"sum_in", top 20, ["some", "found", "one"], ["some"]⟩

def i_need_fraction : DI := ⟨"need_fraction", top 21, ["thing"], ["thing"]⟩

def i_is_piece : DI := ⟨"is_piece", top 27, ["thing", "one"], ["thing"]⟩

def i_need_score : DI := ⟨"need_score", top 28, ["thing", "number", "piece"], ["thing"]⟩

def i_rising_once : DI := ⟨"rising_once", top 29, ["some", "found", "one", "spot", "other"], ["some"]⟩

def i_covers_stretch : DI := ⟨"covers_stretch", top 30, ["piece", "low", "high"], ["piece", "low", "high"]⟩

def i_marks_in : DI := ⟨"marks_in", top 31, ["score", "some", "found", "mark", "piece"], ["score"]⟩

def i_stretches_in : DI := ⟨"stretches_in", top 32, ["score", "some", "cuts", "found", "low", "high", "price", "piece"], ["score"]⟩

def i_plain_in : DI := ⟨"plain_in", top 33, ["score"], ["score"]⟩

def i_plain : DI := ⟨"plain", top 34, ["score"], ["score"]⟩

def i_are_like : DI := ⟨"are_like", top 35, ["score", "far"], ["score", "far"]⟩

def i_over_stretch : DI := ⟨"over_stretch", top 36, ["worth", "low", "high", "squared"], ["worth", "low", "high"]⟩

def i_passed_by : DI := ⟨"passed_by", top 37, ["piece", "reach", "worth", "high"], ["piece", "reach", "worth"]⟩

def i_passed_in : DI := ⟨"passed_in", top 38, ["score", "reach", "worth", "piece"], ["score", "reach", "worth"]⟩

def i_bend_in : DI := ⟨"bend_in", top 39, ["score", "number"], ["score", "number"]⟩

def i_bend_at : DI := ⟨"bend_at", top 40, ["score", "number"], ["score", "number"]⟩

def i_is_weight : DI := ⟨"is_weight", top 43, ["thing"], ["thing"]⟩

def i_is_state : DI := ⟨"is_state", top 44, ["thing"], ["thing"]⟩

def i_need_world : DI := ⟨"need_world", top 45, ["thing", "number", "one"], ["thing"]⟩

def i_is_bet : DI := ⟨"is_bet", top 46, ["world", "thing", "one"], ["world", "thing"]⟩

def i_is_offer : DI := ⟨"is_offer", top 49, ["thing"], ["thing"]⟩

def i_need_ladder : DI := ⟨"need_ladder", top 50, ["thing", "number", "offer"], ["thing"]⟩

def i_as_score : DI := ⟨"as_score", top 51, ["ladder", "mark", "units"], ["ladder"]⟩

def i_ladder_of : DI := ⟨"ladder_of", top 52, ["score", "pieces", "piece"], ["score"]⟩

def i_between : DI := ⟨"between", top 54, ["ladder", "low", "high", "offer"], ["ladder", "low", "high"]⟩

def i_position_in : DI := ⟨"position_in", top 55, ["ladder", "report", "later", "mark", "units"], ["ladder", "report", "later"]⟩

def i_paid_in : DI := ⟨"paid_in", top 56, ["ladder", "report", "later", "mark", "units"], ["ladder", "report", "later"]⟩

def i_need_move : DI := ⟨"need_move", top 57, ["ladder", "report", "later"], ["ladder", "report", "later"]⟩

def i_position : DI := ⟨"position", top 58, ["ladder", "report", "later"], ["ladder", "report", "later"]⟩

def i_paid : DI := ⟨"paid", top 59, ["ladder", "report", "later"], ["ladder", "report", "later"]⟩

def i_earned_in : DI := ⟨"earned_in", top 60, ["ladder", "report", "later", "worth"], ["ladder", "report", "later", "worth"]⟩

def i_earned : DI := ⟨"earned", top 61, ["ladder", "report", "later", "worth"], ["ladder", "report", "later", "worth"]⟩

def i_loss_at : DI := ⟨"loss_at", top 62, ["ladder", "report", "worth"], ["ladder", "report", "worth"]⟩

def i_greatest_loss : DI := ⟨"greatest_loss", top 63, ["ladder", "report", "low", "high", "near", "far"], ["ladder", "report", "low", "high"]⟩

def i_is_point : DI := ⟨"is_point", top 68, ["thing"], ["thing"]⟩

def i_need_points : DI := ⟨"need_points", top 69, ["thing", "one", "near", "far"], ["thing"]⟩

def i_slopes_in : DI := ⟨"slopes_in", top 70, ["points", "near", "far"], ["points"]⟩

def i_slope_above : DI := ⟨"slope_above", top 71, ["points", "worth", "spot", "point"], ["points", "worth"]⟩

def i_line_in : DI := ⟨"line_in", top 72, ["points", "worth", "spot", "begin", "height"], ["points", "worth"]⟩

def i_line_at : DI := ⟨"line_at", top 73, ["points", "worth"], ["points", "worth"]⟩

def i_ladder_back : DI := ⟨"ladder_back", top 74, ["points", "report", "slopes", "found", "point", "near", "far"], ["points", "report"]⟩

def i_points_of : DI := ⟨"points_of", top 75, ["ladder", "report", "marks", "low", "high", "mark", "worths", "units", "worth"], ["ladder", "report"]⟩

def i_need_guesses : DI := ⟨"need_guesses", top 77, ["world", "thing"], ["world", "thing"]⟩

def i_loss_in : DI := ⟨"loss_in", top 78, ["world", "guesses", "score", "parts", "weight", "worth", "guess"], ["world", "guesses", "score"]⟩

def i_loss : DI := ⟨"loss", top 79, ["world", "guesses", "score"], ["world", "guesses", "score"]⟩

def i__law_mixed : DI := ⟨"_law_mixed", top 81, ["_law_cell", "_law_k"], ["_law_cell", "_law_k"]⟩

def i__law_begin : DI := ⟨"_law_begin", top 82, ["_law_script", "_law_cells", "_law_cell"], ["_law_script"]⟩

def i__law_draw : DI := ⟨"_law_draw", top 83, ["_law_state", "_law_many", "_law_at", "_law_place", "_law_left", "_law_number_here"], ["_law_state", "_law_many"]⟩

def i__law_ratio : DI := ⟨"_law_ratio", top 84, ["_law_top", "_law_bottom", "_law_one", "_law_other"], ["_law_top", "_law_bottom"]⟩

def i__law_plus : DI := ⟨"_law_plus", top 85, ["_law_one", "_law_other"], ["_law_one", "_law_other"]⟩

def i__law_less : DI := ⟨"_law_less", top 86, ["_law_one", "_law_other"], ["_law_one", "_law_other"]⟩

def i__law_times : DI := ⟨"_law_times", top 87, ["_law_one", "_law_other"], ["_law_one", "_law_other"]⟩

def i__law_under : DI := ⟨"_law_under", top 88, ["_law_one", "_law_other"], ["_law_one", "_law_other"]⟩

def i__law_sum : DI := ⟨"_law_sum", top 89, ["_law_some", "_law_found", "_law_one"], ["_law_some"]⟩

def i__law_sorted : DI := ⟨"_law_sorted", top 90, ["_law_some", "_law_got", "_law_one", "_law_spot", "_law_far"], ["_law_some"]⟩

def i__law_ladder : DI := ⟨"_law_ladder", top 91, ["_law_state", "_law_many", "_law_marks", "_law_k", "_law_mark"], ["_law_state", "_law_many"]⟩

def i__law_number : DI := ⟨"_law_number", top 92, ["_law_state"], ["_law_state"]⟩

def i__law_move_right : DI := ⟨"_law_move_right", top 93, ["_law_ladder_so", "_law_near", "_law_far", "_law_worth", "_law_world_so", "_law_score_so", "_law_due", "_law_many", "_law_coins", "_law_back", "_law_units", "_law_row"], ["_law_ladder_so", "_law_near", "_law_far", "_law_worth"]⟩

def i__law_line_right : DI := ⟨"_law_line_right", top 94, ["_law_ladder_so", "_law_report", "_law_worths", "_law_some", "_law_score_so", "_law_worth", "_law_low", "_law_high", "_law_ends", "_law_most", "_law_due"], ["_law_ladder_so", "_law_report", "_law_worths"]⟩

def i_law : DI := ⟨"law", top 95, ["_law_script", "_law_state", "_law_turn", "_law_hand", "_law_told", "_law_due", "_law_ladder_so", "_law_some", "_law_near", "_law_far", "_law_worth", "_law_legs", "_law_twice", "_law_double", "_law_k", "_law_mark", "_law_units"], ["_law_script"]⟩

theorem b_is_integer : defB T 0 i_is_integer = true := by decide +kernel

theorem b_common : defB T 1 i_common = true := by decide +kernel

theorem b_made : defB T 2 i_made = true := by decide +kernel

theorem b_is_fraction : defB T 3 i_is_fraction = true := by decide +kernel

theorem b_add : defB T 4 i_add = true := by decide +kernel

theorem b_sub : defB T 5 i_sub = true := by decide +kernel

theorem b_mul : defB T 6 i_mul = true := by decide +kernel

theorem b_div : defB T 7 i_div = true := by decide +kernel

theorem b_is_under : defB T 8 i_is_under = true := by decide +kernel

theorem b_sum_in : defB T 9 i_sum_in = true := by decide +kernel

theorem b_need_fraction : defB T 10 i_need_fraction = true := by decide +kernel

theorem b_is_piece : defB T 11 i_is_piece = true := by decide +kernel

theorem b_need_score : defB T 12 i_need_score = true := by decide +kernel

theorem b_rising_once : defB T 13 i_rising_once = true := by decide +kernel

theorem b_covers_stretch : defB T 14 i_covers_stretch = true := by decide +kernel

theorem b_marks_in : defB T 15 i_marks_in = true := by decide +kernel

theorem b_stretches_in : defB T 16 i_stretches_in = true := by decide +kernel

theorem b_plain_in : defB T 17 i_plain_in = true := by decide +kernel

theorem b_plain : defB T 18 i_plain = true := by decide +kernel

theorem b_are_like : defB T 19 i_are_like = true := by decide +kernel

theorem b_over_stretch : defB T 20 i_over_stretch = true := by decide +kernel

theorem b_passed_by : defB T 21 i_passed_by = true := by decide +kernel

theorem b_passed_in : defB T 22 i_passed_in = true := by decide +kernel

theorem b_bend_in : defB T 23 i_bend_in = true := by decide +kernel

theorem b_bend_at : defB T 24 i_bend_at = true := by decide +kernel

theorem b_is_weight : defB T 25 i_is_weight = true := by decide +kernel

theorem b_is_state : defB T 26 i_is_state = true := by decide +kernel

theorem b_need_world : defB T 27 i_need_world = true := by decide +kernel

theorem b_is_bet : defB T 28 i_is_bet = true := by decide +kernel

theorem b_is_offer : defB T 29 i_is_offer = true := by decide +kernel

theorem b_need_ladder : defB T 30 i_need_ladder = true := by decide +kernel

theorem b_as_score : defB T 31 i_as_score = true := by decide +kernel

theorem b_ladder_of : defB T 32 i_ladder_of = true := by decide +kernel

theorem b_between : defB T 33 i_between = true := by decide +kernel

theorem b_position_in : defB T 34 i_position_in = true := by decide +kernel

theorem b_paid_in : defB T 35 i_paid_in = true := by decide +kernel

theorem b_need_move : defB T 36 i_need_move = true := by decide +kernel

theorem b_position : defB T 37 i_position = true := by decide +kernel

theorem b_paid : defB T 38 i_paid = true := by decide +kernel

theorem b_earned_in : defB T 39 i_earned_in = true := by decide +kernel

theorem b_earned : defB T 40 i_earned = true := by decide +kernel

theorem b_loss_at : defB T 41 i_loss_at = true := by decide +kernel

theorem b_greatest_loss : defB T 42 i_greatest_loss = true := by decide +kernel

theorem b_is_point : defB T 43 i_is_point = true := by decide +kernel

theorem b_need_points : defB T 44 i_need_points = true := by decide +kernel

theorem b_slopes_in : defB T 45 i_slopes_in = true := by decide +kernel

theorem b_slope_above : defB T 46 i_slope_above = true := by decide +kernel

theorem b_line_in : defB T 47 i_line_in = true := by decide +kernel

theorem b_line_at : defB T 48 i_line_at = true := by decide +kernel

theorem b_ladder_back : defB T 49 i_ladder_back = true := by decide +kernel

theorem b_points_of : defB T 50 i_points_of = true := by decide +kernel

theorem b_need_guesses : defB T 51 i_need_guesses = true := by decide +kernel

theorem b_loss_in : defB T 52 i_loss_in = true := by decide +kernel

theorem b_loss : defB T 53 i_loss = true := by decide +kernel

theorem b__law_mixed : defB T 54 i__law_mixed = true := by decide +kernel

theorem b__law_begin : defB T 55 i__law_begin = true := by decide +kernel

theorem b__law_draw : defB T 56 i__law_draw = true := by decide +kernel

theorem b__law_ratio : defB T 57 i__law_ratio = true := by decide +kernel

theorem b__law_plus : defB T 58 i__law_plus = true := by decide +kernel

theorem b__law_less : defB T 59 i__law_less = true := by decide +kernel

theorem b__law_times : defB T 60 i__law_times = true := by decide +kernel

theorem b__law_under : defB T 61 i__law_under = true := by decide +kernel

theorem b__law_sum : defB T 62 i__law_sum = true := by decide +kernel

theorem b__law_sorted : defB T 63 i__law_sorted = true := by decide +kernel

theorem b__law_ladder : defB T 64 i__law_ladder = true := by decide +kernel

theorem b__law_number : defB T 65 i__law_number = true := by decide +kernel

theorem b__law_move_right : defB T 66 i__law_move_right = true := by decide +kernel

theorem b__law_line_right : defB T 67 i__law_line_right = true := by decide +kernel

theorem b_law : defB T 68 i_law = true := by decide +kernel

theorem d_is_integer : T.defs[0]? = some ⟨1, 1, c_is_integer⟩ := rfl

theorem d_common : T.defs[1]? = some ⟨2, 2, c_common⟩ := rfl

theorem d_made : T.defs[2]? = some ⟨2, 3, c_made⟩ := rfl

theorem d_is_fraction : T.defs[3]? = some ⟨1, 2, c_is_fraction⟩ := rfl

theorem d_add : T.defs[4]? = some ⟨2, 2, c_add⟩ := rfl

theorem d_sub : T.defs[5]? = some ⟨2, 2, c_sub⟩ := rfl

theorem d_mul : T.defs[6]? = some ⟨2, 2, c_mul⟩ := rfl

theorem d_div : T.defs[7]? = some ⟨2, 2, c_div⟩ := rfl

theorem d_is_under : T.defs[8]? = some ⟨2, 2, c_is_under⟩ := rfl

theorem d_sum_in : T.defs[9]? = some ⟨1, 3, c_sum_in⟩ := rfl

theorem d_need_fraction : T.defs[10]? = some ⟨1, 1, c_need_fraction⟩ := rfl

theorem d_is_piece : T.defs[11]? = some ⟨1, 2, c_is_piece⟩ := rfl

theorem d_need_score : T.defs[12]? = some ⟨1, 3, c_need_score⟩ := rfl

theorem d_rising_once : T.defs[13]? = some ⟨1, 5, c_rising_once⟩ := rfl

theorem d_covers_stretch : T.defs[14]? = some ⟨3, 3, c_covers_stretch⟩ := rfl

theorem d_marks_in : T.defs[15]? = some ⟨1, 5, c_marks_in⟩ := rfl

theorem d_stretches_in : T.defs[16]? = some ⟨1, 8, c_stretches_in⟩ := rfl

theorem d_plain_in : T.defs[17]? = some ⟨1, 1, c_plain_in⟩ := rfl

theorem d_plain : T.defs[18]? = some ⟨1, 1, c_plain⟩ := rfl

theorem d_are_like : T.defs[19]? = some ⟨2, 2, c_are_like⟩ := rfl

theorem d_over_stretch : T.defs[20]? = some ⟨3, 4, c_over_stretch⟩ := rfl

theorem d_passed_by : T.defs[21]? = some ⟨3, 4, c_passed_by⟩ := rfl

theorem d_passed_in : T.defs[22]? = some ⟨3, 4, c_passed_in⟩ := rfl

theorem d_bend_in : T.defs[23]? = some ⟨2, 2, c_bend_in⟩ := rfl

theorem d_bend_at : T.defs[24]? = some ⟨2, 2, c_bend_at⟩ := rfl

theorem d_is_weight : T.defs[25]? = some ⟨1, 1, c_is_weight⟩ := rfl

theorem d_is_state : T.defs[26]? = some ⟨1, 1, c_is_state⟩ := rfl

theorem d_need_world : T.defs[27]? = some ⟨1, 3, c_need_world⟩ := rfl

theorem d_is_bet : T.defs[28]? = some ⟨2, 3, c_is_bet⟩ := rfl

theorem d_is_offer : T.defs[29]? = some ⟨1, 1, c_is_offer⟩ := rfl

theorem d_need_ladder : T.defs[30]? = some ⟨1, 3, c_need_ladder⟩ := rfl

theorem d_as_score : T.defs[31]? = some ⟨1, 3, c_as_score⟩ := rfl

theorem d_ladder_of : T.defs[32]? = some ⟨1, 3, c_ladder_of⟩ := rfl

theorem d_between : T.defs[33]? = some ⟨3, 4, c_between⟩ := rfl

theorem d_position_in : T.defs[34]? = some ⟨3, 5, c_position_in⟩ := rfl

theorem d_paid_in : T.defs[35]? = some ⟨3, 5, c_paid_in⟩ := rfl

theorem d_need_move : T.defs[36]? = some ⟨3, 3, c_need_move⟩ := rfl

theorem d_position : T.defs[37]? = some ⟨3, 3, c_position⟩ := rfl

theorem d_paid : T.defs[38]? = some ⟨3, 3, c_paid⟩ := rfl

theorem d_earned_in : T.defs[39]? = some ⟨4, 4, c_earned_in⟩ := rfl

theorem d_earned : T.defs[40]? = some ⟨4, 4, c_earned⟩ := rfl

theorem d_loss_at : T.defs[41]? = some ⟨3, 3, c_loss_at⟩ := rfl

theorem d_greatest_loss : T.defs[42]? = some ⟨4, 6, c_greatest_loss⟩ := rfl

theorem d_is_point : T.defs[43]? = some ⟨1, 1, c_is_point⟩ := rfl

theorem d_need_points : T.defs[44]? = some ⟨1, 4, c_need_points⟩ := rfl

theorem d_slopes_in : T.defs[45]? = some ⟨1, 3, c_slopes_in⟩ := rfl

theorem d_slope_above : T.defs[46]? = some ⟨2, 4, c_slope_above⟩ := rfl

theorem d_line_in : T.defs[47]? = some ⟨2, 5, c_line_in⟩ := rfl

theorem d_line_at : T.defs[48]? = some ⟨2, 2, c_line_at⟩ := rfl

theorem d_ladder_back : T.defs[49]? = some ⟨2, 7, c_ladder_back⟩ := rfl

theorem d_points_of : T.defs[50]? = some ⟨2, 9, c_points_of⟩ := rfl

theorem d_need_guesses : T.defs[51]? = some ⟨2, 2, c_need_guesses⟩ := rfl

theorem d_loss_in : T.defs[52]? = some ⟨3, 7, c_loss_in⟩ := rfl

theorem d_loss : T.defs[53]? = some ⟨3, 3, c_loss⟩ := rfl

theorem d__law_mixed : T.defs[54]? = some ⟨2, 2, c__law_mixed⟩ := rfl

theorem d__law_begin : T.defs[55]? = some ⟨1, 3, c__law_begin⟩ := rfl

theorem d__law_draw : T.defs[56]? = some ⟨2, 6, c__law_draw⟩ := rfl

theorem d__law_ratio : T.defs[57]? = some ⟨2, 4, c__law_ratio⟩ := rfl

theorem d__law_plus : T.defs[58]? = some ⟨2, 2, c__law_plus⟩ := rfl

theorem d__law_less : T.defs[59]? = some ⟨2, 2, c__law_less⟩ := rfl

theorem d__law_times : T.defs[60]? = some ⟨2, 2, c__law_times⟩ := rfl

theorem d__law_under : T.defs[61]? = some ⟨2, 2, c__law_under⟩ := rfl

theorem d__law_sum : T.defs[62]? = some ⟨1, 3, c__law_sum⟩ := rfl

theorem d__law_sorted : T.defs[63]? = some ⟨1, 5, c__law_sorted⟩ := rfl

theorem d__law_ladder : T.defs[64]? = some ⟨2, 5, c__law_ladder⟩ := rfl

theorem d__law_number : T.defs[65]? = some ⟨1, 1, c__law_number⟩ := rfl

theorem d__law_move_right : T.defs[66]? = some ⟨4, 12, c__law_move_right⟩ := rfl

theorem d__law_line_right : T.defs[67]? = some ⟨3, 11, c__law_line_right⟩ := rfl

theorem d_law : T.defs[68]? = some ⟨1, 17, c_law⟩ := rfl

def ds : List DI := ([i_is_integer, i_common, i_made, i_is_fraction, i_add, i_sub, i_mul, i_div, i_is_under, i_sum_in, i_need_fraction, i_is_piece] : List DI) ++ ([i_need_score, i_rising_once, i_covers_stretch, i_marks_in, i_stretches_in, i_plain_in, i_plain, i_are_like, i_over_stretch, i_passed_by, i_passed_in, i_bend_in] : List DI) ++ ([i_bend_at, i_is_weight, i_is_state, i_need_world, i_is_bet, i_is_offer, i_need_ladder, i_as_score, i_ladder_of, i_between, i_position_in, i_paid_in] : List DI) ++ ([i_need_move, i_position, i_paid, i_earned_in, i_earned, i_loss_at, i_greatest_loss, i_is_point, i_need_points, i_slopes_in, i_slope_above, i_line_in] : List DI) ++ ([i_line_at, i_ladder_back, i_points_of, i_need_guesses, i_loss_in, i_loss, i__law_mixed, i__law_begin, i__law_draw, i__law_ratio, i__law_plus, i__law_less] : List DI) ++ ([i__law_times, i__law_under, i__law_sum, i__law_sorted, i__law_ladder, i__law_number, i__law_move_right, i__law_line_right, i_law] : List DI)

theorem e_is_integer : BindEq i_is_integer := fun _ _ _ _ _ _ us hl => match us, hl with | [_], _ => rfl

theorem e_common : BindEq i_common := fun _ _ _ _ _ _ us hl => match us, hl with | [_, _], _ => rfl

theorem e_made : BindEq i_made := fun _ _ _ _ _ _ us hl => match us, hl with | [_, _], _ => rfl

theorem e_is_fraction : BindEq i_is_fraction := fun _ _ _ _ _ _ us hl => match us, hl with | [_], _ => rfl

theorem e_add : BindEq i_add := fun _ _ _ _ _ _ us hl => match us, hl with | [_, _], _ => rfl

theorem e_sub : BindEq i_sub := fun _ _ _ _ _ _ us hl => match us, hl with | [_, _], _ => rfl

theorem e_mul : BindEq i_mul := fun _ _ _ _ _ _ us hl => match us, hl with | [_, _], _ => rfl

theorem e_div : BindEq i_div := fun _ _ _ _ _ _ us hl => match us, hl with | [_, _], _ => rfl

theorem e_is_under : BindEq i_is_under := fun _ _ _ _ _ _ us hl => match us, hl with | [_, _], _ => rfl

theorem e_sum_in : BindEq i_sum_in := fun _ _ _ _ _ _ us hl => match us, hl with | [_], _ => rfl

theorem e_need_fraction : BindEq i_need_fraction := fun _ _ _ _ _ _ us hl => match us, hl with | [_], _ => rfl

theorem e_is_piece : BindEq i_is_piece := fun _ _ _ _ _ _ us hl => match us, hl with | [_], _ => rfl

theorem e_need_score : BindEq i_need_score := fun _ _ _ _ _ _ us hl => match us, hl with | [_], _ => rfl

theorem e_rising_once : BindEq i_rising_once := fun _ _ _ _ _ _ us hl => match us, hl with | [_], _ => rfl

theorem e_covers_stretch : BindEq i_covers_stretch := fun _ _ _ _ _ _ us hl => match us, hl with | [_, _, _], _ => rfl

theorem e_marks_in : BindEq i_marks_in := fun _ _ _ _ _ _ us hl => match us, hl with | [_], _ => rfl

theorem e_stretches_in : BindEq i_stretches_in := fun _ _ _ _ _ _ us hl => match us, hl with | [_], _ => rfl

theorem e_plain_in : BindEq i_plain_in := fun _ _ _ _ _ _ us hl => match us, hl with | [_], _ => rfl

theorem e_plain : BindEq i_plain := fun _ _ _ _ _ _ us hl => match us, hl with | [_], _ => rfl

theorem e_are_like : BindEq i_are_like := fun _ _ _ _ _ _ us hl => match us, hl with | [_, _], _ => rfl

theorem e_over_stretch : BindEq i_over_stretch := fun _ _ _ _ _ _ us hl => match us, hl with | [_, _, _], _ => rfl

theorem e_passed_by : BindEq i_passed_by := fun _ _ _ _ _ _ us hl => match us, hl with | [_, _, _], _ => rfl

theorem e_passed_in : BindEq i_passed_in := fun _ _ _ _ _ _ us hl => match us, hl with | [_, _, _], _ => rfl

theorem e_bend_in : BindEq i_bend_in := fun _ _ _ _ _ _ us hl => match us, hl with | [_, _], _ => rfl

theorem e_bend_at : BindEq i_bend_at := fun _ _ _ _ _ _ us hl => match us, hl with | [_, _], _ => rfl

theorem e_is_weight : BindEq i_is_weight := fun _ _ _ _ _ _ us hl => match us, hl with | [_], _ => rfl

theorem e_is_state : BindEq i_is_state := fun _ _ _ _ _ _ us hl => match us, hl with | [_], _ => rfl

theorem e_need_world : BindEq i_need_world := fun _ _ _ _ _ _ us hl => match us, hl with | [_], _ => rfl

theorem e_is_bet : BindEq i_is_bet := fun _ _ _ _ _ _ us hl => match us, hl with | [_, _], _ => rfl

theorem e_is_offer : BindEq i_is_offer := fun _ _ _ _ _ _ us hl => match us, hl with | [_], _ => rfl

theorem e_need_ladder : BindEq i_need_ladder := fun _ _ _ _ _ _ us hl => match us, hl with | [_], _ => rfl

theorem e_as_score : BindEq i_as_score := fun _ _ _ _ _ _ us hl => match us, hl with | [_], _ => rfl

theorem e_ladder_of : BindEq i_ladder_of := fun _ _ _ _ _ _ us hl => match us, hl with | [_], _ => rfl

theorem e_between : BindEq i_between := fun _ _ _ _ _ _ us hl => match us, hl with | [_, _, _], _ => rfl

theorem e_position_in : BindEq i_position_in := fun _ _ _ _ _ _ us hl => match us, hl with | [_, _, _], _ => rfl

theorem e_paid_in : BindEq i_paid_in := fun _ _ _ _ _ _ us hl => match us, hl with | [_, _, _], _ => rfl

theorem e_need_move : BindEq i_need_move := fun _ _ _ _ _ _ us hl => match us, hl with | [_, _, _], _ => rfl

theorem e_position : BindEq i_position := fun _ _ _ _ _ _ us hl => match us, hl with | [_, _, _], _ => rfl

theorem e_paid : BindEq i_paid := fun _ _ _ _ _ _ us hl => match us, hl with | [_, _, _], _ => rfl

theorem e_earned_in : BindEq i_earned_in := fun _ _ _ _ _ _ us hl => match us, hl with | [_, _, _, _], _ => rfl

theorem e_earned : BindEq i_earned := fun _ _ _ _ _ _ us hl => match us, hl with | [_, _, _, _], _ => rfl

theorem e_loss_at : BindEq i_loss_at := fun _ _ _ _ _ _ us hl => match us, hl with | [_, _, _], _ => rfl

theorem e_greatest_loss : BindEq i_greatest_loss := fun _ _ _ _ _ _ us hl => match us, hl with | [_, _, _, _], _ => rfl

theorem e_is_point : BindEq i_is_point := fun _ _ _ _ _ _ us hl => match us, hl with | [_], _ => rfl

theorem e_need_points : BindEq i_need_points := fun _ _ _ _ _ _ us hl => match us, hl with | [_], _ => rfl

theorem e_slopes_in : BindEq i_slopes_in := fun _ _ _ _ _ _ us hl => match us, hl with | [_], _ => rfl

theorem e_slope_above : BindEq i_slope_above := fun _ _ _ _ _ _ us hl => match us, hl with | [_, _], _ => rfl

theorem e_line_in : BindEq i_line_in := fun _ _ _ _ _ _ us hl => match us, hl with | [_, _], _ => rfl

theorem e_line_at : BindEq i_line_at := fun _ _ _ _ _ _ us hl => match us, hl with | [_, _], _ => rfl

theorem e_ladder_back : BindEq i_ladder_back := fun _ _ _ _ _ _ us hl => match us, hl with | [_, _], _ => rfl

theorem e_points_of : BindEq i_points_of := fun _ _ _ _ _ _ us hl => match us, hl with | [_, _], _ => rfl

theorem e_need_guesses : BindEq i_need_guesses := fun _ _ _ _ _ _ us hl => match us, hl with | [_, _], _ => rfl

theorem e_loss_in : BindEq i_loss_in := fun _ _ _ _ _ _ us hl => match us, hl with | [_, _, _], _ => rfl

theorem e_loss : BindEq i_loss := fun _ _ _ _ _ _ us hl => match us, hl with | [_, _, _], _ => rfl

theorem e__law_mixed : BindEq i__law_mixed := fun _ _ _ _ _ _ us hl => match us, hl with | [_, _], _ => rfl

theorem e__law_begin : BindEq i__law_begin := fun _ _ _ _ _ _ us hl => match us, hl with | [_], _ => rfl

theorem e__law_draw : BindEq i__law_draw := fun _ _ _ _ _ _ us hl => match us, hl with | [_, _], _ => rfl

theorem e__law_ratio : BindEq i__law_ratio := fun _ _ _ _ _ _ us hl => match us, hl with | [_, _], _ => rfl

theorem e__law_plus : BindEq i__law_plus := fun _ _ _ _ _ _ us hl => match us, hl with | [_, _], _ => rfl

theorem e__law_less : BindEq i__law_less := fun _ _ _ _ _ _ us hl => match us, hl with | [_, _], _ => rfl

theorem e__law_times : BindEq i__law_times := fun _ _ _ _ _ _ us hl => match us, hl with | [_, _], _ => rfl

theorem e__law_under : BindEq i__law_under := fun _ _ _ _ _ _ us hl => match us, hl with | [_, _], _ => rfl

theorem e__law_sum : BindEq i__law_sum := fun _ _ _ _ _ _ us hl => match us, hl with | [_], _ => rfl

theorem e__law_sorted : BindEq i__law_sorted := fun _ _ _ _ _ _ us hl => match us, hl with | [_], _ => rfl

theorem e__law_ladder : BindEq i__law_ladder := fun _ _ _ _ _ _ us hl => match us, hl with | [_, _], _ => rfl

theorem e__law_number : BindEq i__law_number := fun _ _ _ _ _ _ us hl => match us, hl with | [_], _ => rfl

theorem e__law_move_right : BindEq i__law_move_right := fun _ _ _ _ _ _ us hl => match us, hl with | [_, _, _, _], _ => rfl

theorem e__law_line_right : BindEq i__law_line_right := fun _ _ _ _ _ _ us hl => match us, hl with | [_, _, _], _ => rfl

theorem e_law : BindEq i_law := fun _ _ _ _ _ _ us hl => match us, hl with | [_], _ => rfl

theorem all : AllI (okI T) 0 ds := ⟨⟨b_is_integer, e_is_integer⟩, ⟨b_common, e_common⟩, ⟨b_made, e_made⟩, ⟨b_is_fraction, e_is_fraction⟩, ⟨b_add, e_add⟩, ⟨b_sub, e_sub⟩, ⟨b_mul, e_mul⟩, ⟨b_div, e_div⟩, ⟨b_is_under, e_is_under⟩, ⟨b_sum_in, e_sum_in⟩, ⟨b_need_fraction, e_need_fraction⟩, ⟨b_is_piece, e_is_piece⟩, ⟨b_need_score, e_need_score⟩, ⟨b_rising_once, e_rising_once⟩, ⟨b_covers_stretch, e_covers_stretch⟩, ⟨b_marks_in, e_marks_in⟩, ⟨b_stretches_in, e_stretches_in⟩, ⟨b_plain_in, e_plain_in⟩, ⟨b_plain, e_plain⟩, ⟨b_are_like, e_are_like⟩, ⟨b_over_stretch, e_over_stretch⟩, ⟨b_passed_by, e_passed_by⟩, ⟨b_passed_in, e_passed_in⟩, ⟨b_bend_in, e_bend_in⟩, ⟨b_bend_at, e_bend_at⟩, ⟨b_is_weight, e_is_weight⟩, ⟨b_is_state, e_is_state⟩, ⟨b_need_world, e_need_world⟩, ⟨b_is_bet, e_is_bet⟩, ⟨b_is_offer, e_is_offer⟩, ⟨b_need_ladder, e_need_ladder⟩, ⟨b_as_score, e_as_score⟩, ⟨b_ladder_of, e_ladder_of⟩, ⟨b_between, e_between⟩, ⟨b_position_in, e_position_in⟩, ⟨b_paid_in, e_paid_in⟩, ⟨b_need_move, e_need_move⟩, ⟨b_position, e_position⟩, ⟨b_paid, e_paid⟩, ⟨b_earned_in, e_earned_in⟩, ⟨b_earned, e_earned⟩, ⟨b_loss_at, e_loss_at⟩, ⟨b_greatest_loss, e_greatest_loss⟩, ⟨b_is_point, e_is_point⟩, ⟨b_need_points, e_need_points⟩, ⟨b_slopes_in, e_slopes_in⟩, ⟨b_slope_above, e_slope_above⟩, ⟨b_line_in, e_line_in⟩, ⟨b_line_at, e_line_at⟩, ⟨b_ladder_back, e_ladder_back⟩, ⟨b_points_of, e_points_of⟩, ⟨b_need_guesses, e_need_guesses⟩, ⟨b_loss_in, e_loss_in⟩, ⟨b_loss, e_loss⟩, ⟨b__law_mixed, e__law_mixed⟩, ⟨b__law_begin, e__law_begin⟩, ⟨b__law_draw, e__law_draw⟩, ⟨b__law_ratio, e__law_ratio⟩, ⟨b__law_plus, e__law_plus⟩, ⟨b__law_less, e__law_less⟩, ⟨b__law_times, e__law_times⟩, ⟨b__law_under, e__law_under⟩, ⟨b__law_sum, e__law_sum⟩, ⟨b__law_sorted, e__law_sorted⟩, ⟨b__law_ladder, e__law_ladder⟩, ⟨b__law_number, e__law_number⟩, ⟨b__law_move_right, e__law_move_right⟩, ⟨b__law_line_right, e__law_line_right⟩, ⟨b_law, e_law⟩, trivial⟩

theorem fns_eq : T.fns = ds.map (·.name) := by kernel_rfl

end K69

namespace GI
open PySem FI
/-! ### what a run gives -/
def _root_.FI.Res.to {α : Type} (r : Res α) (Q : α → Sto → Prop) : Prop := match r with
  | .ok a s => Q a s
  | _ => False
theorem to_ok {α : Type} {a : α} {s : Sto} {Q : α → Sto → Prop} : (Res.ok a s).to Q = Q a s := rfl
theorem to_bind {α β : Type} {r : Res α} {f : α → Sto → Res β} {Q : β → Sto → Prop} : (r.bind f).to Q = r.to fun a s => (f a s).to Q := by cases r <;> rfl
theorem to_mono {α : Type} {r : Res α} {Q Q' : α → Sto → Prop} (h : r.to Q) (m : ∀ a s, Q a s → Q' a s) : r.to Q' := by
  cases r with
  | ok a s => exact m a s h
  | _ => exact h
theorem to_ex {α : Type} {r : Res α} {Q : α → Sto → Prop} (h : r.to Q) : ∃ a s, r = .ok a s ∧ Q a s := by
  cases r with
  | ok a s => exact ⟨a, s, rfl, h⟩
  | _ => exact h.elim
theorem to_eq {α : Type} {r : Res α} {a : α} {s : Sto} {Q : α → Sto → Prop} (e : r = .ok a s) (h : Q a s) : r.to Q := by rw [e]; exact h
/-! ### the store grows -/
structure Fr (X : List Nat) (s s' : Sto) : Prop where
  le : s.n ≤ s'.n
  keep : ∀ i, i < s.n → i ∉ X → look i s'.os = look i s.os
theorem Fr.refl {X : List Nat} {s : Sto} : Fr X s s := ⟨Nat.le_refl _, fun _ _ _ => rfl⟩
theorem Fr.trans {X : List Nat} {s s' s'' : Sto} (a : Fr X s s') (b : Fr X s' s'') : Fr X s s'' := ⟨Nat.le_trans a.le b.le, fun i h x => (b.keep i (Nat.lt_of_lt_of_le h a.le) x).trans (a.keep i h x)⟩
theorem Fr.wide {X : List Nat} {s s' : Sto} (a : Fr [] s s') : Fr X s s' := ⟨a.le, fun i h _ => a.keep i h List.not_mem_nil⟩
theorem look_new {s : Sto} {o : SO} : look s.n (s.new o).os = some o := by
  simp only [Sto.new, look]
  rw [if_pos (Nat.beq_refl _)]
theorem look_old {s : Sto} {o : SO} {i : Nat} (h : i < s.n) : look i (s.new o).os = look i s.os := by
  simp only [Sto.new, look]
  rw [if_neg]
  intro e
  have := Nat.eq_of_beq_eq_true e
  omega
theorem Fr.new {X : List Nat} {s : Sto} {o : SO} : Fr X s (s.new o) := ⟨Nat.le_succ _, fun i h _ => look_old h⟩
theorem look_put {i : Nat} {o : SO} : ∀ {os : List (Nat × SO)}, (look i os).isSome = true → look i (put i o os) = some o
  | [], h => by simp [look] at h
  | (j, u) :: r, h => by
    simp only [look] at h
    by_cases e : Nat.beq i j = true
    · simp only [put, if_pos e, look]
    · rw [if_neg e] at h
      simp only [put, if_neg e, look]
      exact look_put h
theorem look_put_ne {i j : Nat} {o : SO} (n : j ≠ i) : ∀ {os : List (Nat × SO)}, look j (put i o os) = look j os
  | [] => rfl
  | (k, u) :: r => by
    by_cases e : Nat.beq i k = true
    · have e' := Nat.eq_of_beq_eq_true e
      have e2 : ¬ Nat.beq j k = true := fun z => n ((Nat.eq_of_beq_eq_true z).trans e'.symm)
      simp only [put, if_pos e, look, if_neg e2]
    · simp only [put, if_neg e, look]
      rw [look_put_ne n]
theorem Fr.put {X : List Nat} {s0 s : Sto} {i : Nat} {o : SO} (a : Fr X s0 s) (h : i ∈ X ∨ s0.n ≤ i) : Fr X s0 ⟨s.n, FI.put i o s.os⟩ := ⟨a.le, fun j hj hx => by
  rw [look_put_ne, a.keep j hj hx]
  rintro rfl
  rcases h with h | h
  · exact hx h
  · omega⟩
/-- a list stands -/
def At (s : Sto) (i : Nat) (xs : List PV) : Prop := look i s.os = some (.lst xs) ∧ i < s.n
theorem At.getL {s : Sto} {i : Nat} {xs : List PV} (h : At s i xs) : s.getL i = some xs := by unfold Sto.getL; rw [h.1]
theorem At.getW {s : Sto} {i : Nat} {xs : List PV} (h : At s i xs) : FI.getW s i = some xs := by unfold FI.getW; rw [h.1]
theorem At.seq {s : Sto} {i : Nat} {xs : List PV} (h : At s i xs) : seqOf s (.lst i) = some xs := h.getL
theorem At.fr {X : List Nat} {s s' : Sto} {i : Nat} {xs : List PV} (h : At s i xs) (f : Fr X s s') (hx : i ∉ X) : At s' i xs := ⟨(f.keep i h.2 hx).trans h.1, Nat.lt_of_lt_of_le h.2 f.le⟩
theorem At.fr0 {s s' : Sto} {i : Nat} {xs : List PV} (h : At s i xs) (f : Fr [] s s') : At s' i xs := h.fr f List.not_mem_nil
theorem At.new {s : Sto} {xs : List PV} : At (s.new (.lst xs)) s.n xs := ⟨look_new, Nat.lt_succ_self _⟩
theorem At.put {s : Sto} {i : Nat} {xs ys : List PV} (h : At s i xs) : At ⟨s.n, FI.put i (.lst ys) s.os⟩ i ys := ⟨look_put (by rw [h.1]; rfl), h.2⟩
theorem At.put_ne {s : Sto} {i j : Nat} {xs : List PV} {o : SO} (h : At s i xs) (n : i ≠ j) : At ⟨s.n, FI.put j o s.os⟩ i xs := ⟨(look_put_ne n).trans h.1, h.2⟩
/-- a run gives a value, and only adds to the store -/
def Gives (r : Res PV) (s : Sto) (v : PV) : Prop := r.to fun u s' => u = v ∧ Fr [] s s'
def GivesL (r : Res PV) (s : Sto) (xs : List PV) : Prop := r.to fun u s' => Fr [] s s' ∧ ∃ i, u = .lst i ∧ At s' i xs ∧ s.n ≤ i
theorem Gives.to {r : Res PV} {s : Sto} {v : PV} {Q : PV → Sto → Prop} (h : Gives r s v) (k : ∀ s', Fr [] s s' → Q v s') : r.to Q := to_mono h fun a s' ⟨e, f⟩ => by rw [e]; exact k s' f
theorem GivesL.to {r : Res PV} {s : Sto} {xs : List PV} {Q : PV → Sto → Prop} (h : GivesL r s xs) (k : ∀ i s', Fr [] s s' → At s' i xs → s.n ≤ i → Q (.lst i) s') : r.to Q := to_mono h fun a s' ⟨f, i, e, a1, a2⟩ => by rw [e]; exact k i s' f a1 a2
theorem Gives.eq {r : Res PV} {s : Sto} {v : PV} (h : r = .ok v s) : Gives r s v := to_eq h ⟨rfl, .refl⟩
/-! ### codes -/
section
variable {T : Tab} {call : Nat → List PV → Sto → Res PV} {σ : Sl} {s : Sto} {Q : PV → Sto → Prop}
theorem w_int {i : Int} : (ev T call (.int i) σ s).to Q = Q (.int i) s := by simp only [ev, to_ok]
theorem w_bl {i : Bool} : (ev T call (.bl i) σ s).to Q = Q (.bl i) s := by simp only [ev, to_ok]
theorem w_non : (ev T call .non σ s).to Q = Q .non s := by simp only [ev, to_ok]
theorem w_no : (ev T call .no σ s).to Q = Q .non s := by simp only [ev, to_ok]
theorem w_str {i : Str} : (ev T call (.str i) σ s).to Q = Q (.str i) s := by simp only [ev, to_ok]
theorem w_nil : (ev T call .nil σ s).to Q = Q (.tup []) s := by simp only [ev, to_ok]
theorem w_one {a : E} : (ev T call (.one a) σ s).to Q = (ev T call a σ s).to Q := by simp only [ev]
def toVar (o : Option (Option PV)) (Q : PV → Prop) : Prop := match o with | some (some v) => Q v | _ => False
theorem toVar_some {v : PV} {Q : PV → Prop} : toVar (some (some v)) Q = Q v := rfl
theorem w_var {i : Nat} : (ev T call (.var i) σ s).to Q = toVar σ[i]? fun v => Q v s := by
  simp only [ev, toVar]
  cases σ[i]? with
  | none => rfl
  | some o => cases o <;> rfl
def toGl (o : Option PV) (Q : PV → Prop) : Prop := match o with | some v => Q v | _ => False
theorem toGl_some {v : PV} {Q : PV → Prop} : toGl (some v) Q = Q v := rfl
theorem w_glob {i : Nat} : (ev T call (.glob i) σ s).to Q = toGl T.consts[i]? fun v => Q v s := by
  simp only [ev, toGl]
  cases T.consts[i]? <;> rfl
def toTup (v : PV) (Q : List PV → Prop) : Prop := match v with | .tup vs => Q vs | _ => False
theorem toTup_tup {vs : List PV} {Q : List PV → Prop} : toTup (.tup vs) Q = Q vs := rfl
def toBl (v : PV) (P N : Prop) : Prop := match v with | .bl true => P | .bl false => N | _ => False
theorem toBl_true {P N : Prop} : toBl (.bl true) P N = P := rfl
theorem toBl_false {P N : Prop} : toBl (.bl false) P N = N := rfl
theorem w_cons {a r : E} : (ev T call (.cons a r) σ s).to Q = (ev T call a σ s).to fun v s1 => (ev T call r σ s1).to fun w s2 => toTup w fun vs => Q (.tup (v :: vs)) s2 := by
  simp only [ev]
  cases ev T call a σ s with
  | ok v s1 =>
    simp only [to_ok]
    cases ev T call r σ s1 with
    | ok w s2 => cases w <;> rfl
    | _ => rfl
  | _ => rfl
theorem w_tup {a : E} : (ev T call (.tup a) σ s).to Q = (ev T call a σ s).to fun w s2 => toTup w fun vs => vs.length ≤ cap ∧ Q (.tup vs) s2 := by
  simp only [ev]
  cases ev T call a σ s with
  | ok w s2 =>
    cases w <;> try rfl
    simp only [to_ok, toTup]
    split <;> rename_i h
    · simp only [h, true_and, to_ok]
    · simp only [h, false_and]; rfl
  | _ => rfl
theorem w_lst {a : E} : (ev T call (.lst a) σ s).to Q = (ev T call a σ s).to fun w s2 => toTup w fun vs => vs.length ≤ cap ∧ Q (.lst s2.n) (s2.new (.lst vs)) := by
  simp only [ev]
  cases ev T call a σ s with
  | ok w s2 =>
    cases w <;> try rfl
    simp only [to_ok, toTup]
    split <;> rename_i h
    · simp only [h, true_and, to_ok]
    · simp only [h, false_and]; rfl
  | _ => rfl
theorem w_bin {o : Bop} {a b : E} : (ev T call (.bin o a b) σ s).to Q = (ev T call a σ s).to fun x s1 => (ev T call b σ s1).to fun y s2 => (evBin o x y s2).to Q := by simp only [ev, to_bind]
theorem w_cmp {o : Cop} {a b : E} : (ev T call (.cmp o a b) σ s).to Q = (ev T call a σ s).to fun x s1 => (ev T call b σ s1).to fun y s2 => (evCmp o x y s2).to Q := by simp only [ev, to_bind]
theorem w_chain {o p : Cop} {a b c : E} : (ev T call (.chain o p a b c) σ s).to Q = (ev T call a σ s).to fun x s1 => (ev T call b σ s1).to fun y s2 => (evCmp o x y s2).to fun z s3 => toBl z ((ev T call c σ s3).to fun u s4 => (evCmp p y u s4).to Q) (Q (.bl false) s3) := by
  simp only [ev, to_bind]
  congr 1; funext x s1; congr 1; funext y s2; congr 1; funext z s3
  cases z <;> try rfl
  rename_i b; cases b
  · rfl
  · simp only [toBl, to_bind]
theorem w_not {a : E} : (ev T call (.not a) σ s).to Q = (ev T call a σ s).to fun x s1 => toBl x (Q (.bl false) s1) (Q (.bl true) s1) := by
  simp only [ev, to_bind]
  congr 1; funext x s1
  cases x <;> try rfl
  rename_i b; cases b <;> rfl
theorem w_and {a b : E} : (ev T call (.and a b) σ s).to Q = (ev T call a σ s).to fun x s1 => toBl x ((ev T call b σ s1).to Q) (Q (.bl false) s1) := by
  simp only [ev, to_bind]
  congr 1; funext x s1
  cases x <;> try rfl
  rename_i b; cases b <;> rfl
theorem w_or {a b : E} : (ev T call (.or a b) σ s).to Q = (ev T call a σ s).to fun x s1 => toBl x (Q (.bl true) s1) ((ev T call b σ s1).to Q) := by
  simp only [ev, to_bind]
  congr 1; funext x s1
  cases x <;> try rfl
  rename_i b; cases b <;> rfl
theorem w_ife {c a b : E} : (ev T call (.ife c a b) σ s).to Q = (ev T call c σ s).to fun x s1 => toBl x ((ev T call a σ s1).to Q) ((ev T call b σ s1).to Q) := by
  simp only [ev, to_bind]
  congr 1; funext x s1
  cases x <;> try rfl
  rename_i b; cases b <;> rfl
def toInt (v : PV) (Q : Int → Prop) : Prop := match v with | .int i => Q i | _ => False
theorem toInt_int {i : Int} {Q : Int → Prop} : toInt (.int i) Q = Q i := rfl
theorem w_neg {a : E} : (ev T call (.neg a) σ s).to Q = (ev T call a σ s).to fun x s1 => toInt x fun i => Q (.int (-i)) s1 := by
  simp only [ev, to_bind]
  congr 1; funext x s1
  cases x <;> rfl
theorem w_idx {a b : E} : (ev T call (.idx a b) σ s).to Q = (ev T call a σ s).to fun x s1 => (ev T call b σ s1).to fun y s2 => (evIdx x y s2).to Q := by simp only [ev, to_bind]
theorem w_slice {a lo hi : E} : (ev T call (.slice a lo hi) σ s).to Q = (ev T call a σ s).to fun x s1 => (ev T call lo σ s1).to fun y s2 => (ev T call hi σ s2).to fun z s3 => ∃ l h, partOf lo y = some l ∧ partOf hi z = some h ∧ (evSlice x l h s3).to Q := by
  simp only [ev, to_bind]
  congr 1; funext x s1; congr 1; funext y s2
  cases e : partOf lo y with
  | none =>
    simp only [reduceCtorEq, false_and, exists_false]
    cases ev T call hi σ s2 <;> rfl
  | some l =>
    simp only [to_bind]
    congr 1; funext z s3
    cases e2 : partOf hi z with
    | none => simp only [reduceCtorEq, false_and, and_false, exists_false]; rfl
    | some h => simp
theorem w_isi {t : Ty} {a : E} : (ev T call (.isi t a) σ s).to Q = (ev T call a σ s).to fun x s1 => ∃ b, isTyS s1 t x = some b ∧ Q (.bl b) s1 := by
  simp only [ev, to_bind]
  congr 1; funext x s1
  cases e : isTyS s1 t x <;> simp [Res.to]
theorem w_call {f : Nat} {a : E} : (ev T call (.call f a) σ s).to Q = (ev T call a σ s).to fun x s1 => toTup x fun vs => (call f vs s1).to Q := by
  simp only [ev, to_bind]
  congr 1; funext x s1
  cases x <;> rfl
theorem w_blt {f : Blt} {a : E} : (ev T call (.blt f a) σ s).to Q = (ev T call a σ s).to fun x s1 => toTup x fun vs => (evBlt f vs s1).to Q := by
  simp only [ev, to_bind]
  congr 1; funext x s1
  cases x <;> rfl
theorem w_app {i : Nat} {xs : List PV} {a b : E} (ha : (ev T call a σ s) = .ok (.lst i) s) (hi : At s i xs) (hb : (ev T call b σ s).to fun y s2 => ∃ ys, At s2 i ys ∧ ys.length < cap ∧ Q .non ⟨s2.n, put i (.lst (ys ++ [y])) s2.os⟩) : (ev T call (.app a b) σ s).to Q := by
  simp only [ev, to_bind, ha, to_ok, hi.getW]
  refine to_mono hb fun y s2 ⟨ys, h1, h2, h3⟩ => ?_
  simp only [h1.getW, h2, if_true]
  exact h3
def toSeq (s : Sto) (v : PV) (Q : List PV → Prop) : Prop := match seqOf s v with | some xs => Q xs | none => False
theorem toSeq_tup {s : Sto} {xs : List PV} {Q : List PV → Prop} : toSeq s (.tup xs) Q = Q xs := rfl
theorem toSeq_lst {s : Sto} {i : Nat} {xs : List PV} {Q : List PV → Prop} (h : At s i xs) : toSeq s (.lst i) Q = Q xs := by simp only [toSeq, h.seq]
theorem w_star {a r : E} : (ev T call (.star a r) σ s).to Q = (ev T call a σ s).to fun x s1 => toSeq s1 x fun xs => (ev T call r σ s1).to fun w s2 => toTup w fun vs => Q (.tup (xs ++ vs)) s2 := by
  simp only [ev, to_bind, toSeq]
  congr 1; funext x s1
  cases seqOf s1 x with
  | none => rfl
  | some xs =>
    dsimp only
    cases ev T call r σ s1 with
    | ok w s2 => cases w <;> rfl
    | _ => rfl
theorem w_rev {a : E} : (ev T call (.rev a) σ s).to Q = (ev T call a σ s).to fun x s1 => toTup x fun xs => xs.length ≤ cap ∧ Q (.tup xs.reverse) s1 := by
  simp only [ev, to_bind]
  congr 1; funext x s1
  cases x <;> try rfl
  simp only [toTup]
  split <;> rename_i h
  · simp only [h, true_and, to_ok]
  · simp only [h, false_and]; rfl
/-! ### statements -/
variable {P : Fl → Sto → Prop}
/-- after a statement: on with the next, or out -/
def onNx (P : Fl → Sto → Prop) (k : Sl → Sto → Prop) : Fl → Sto → Prop := fun fl s => match fl with
  | .nx σ => k σ s
  | .rt v => P (.rt v) s
  | .bk σ => P (.bk σ) s
  | .ct σ => P (.ct σ) s
theorem onNx_nx {k : Sl → Sto → Prop} {σ : Sl} {s : Sto} : onNx P k (.nx σ) s = k σ s := rfl
theorem onNx_rt {k : Sl → Sto → Prop} {v : PV} {s : Sto} : onNx P k (.rt v) s = P (.rt v) s := rfl
theorem onNx_ct {k : Sl → Sto → Prop} {σ : Sl} {s : Sto} : onNx P k (.ct σ) s = P (.ct σ) s := rfl
theorem x_skip : (ex T call .skip σ s).to P = P (.nx σ) s := by simp only [ex, to_ok]
theorem x_seq {a r : E} : (ex T call (.seq a r) σ s).to P = (ex T call a σ s).to (onNx P fun σ1 s1 => (ex T call r σ1 s1).to P) := by
  simp only [ex]
  cases ex T call a σ s with
  | ok fl s1 => cases fl <;> rfl
  | _ => rfl
def toSl (o : Option Sl) (Q : Sl → Prop) : Prop := match o with | some σ => Q σ | none => False
theorem toSl_some {σ : Sl} {Q : Sl → Prop} : toSl (some σ) Q = Q σ := rfl
theorem x_set {g e : E} : (ex T call (.set g e) σ s).to P = (ev T call e σ s).to fun v s1 => toSl (lay g v σ) fun σ1 => P (.nx σ1) s1 := by
  simp only [ex, to_bind, toSl]
  congr 1; funext x s1
  cases lay g x σ <;> rfl
theorem x_setC {i : Nat} {e : E} : (ex T call (.setC i e) σ s).to P = (ev T call e σ s).to fun v s1 => P (.nx (σ.set i (some v))) s1 := by
  simp only [ex, to_bind, to_ok]
theorem x_par {js : List Nat} {a : E} : (ex T call (.par js a) σ s).to P = (ev T call a σ s).to fun v s1 => toTup v fun vs => toSl (layN js vs σ) fun σ1 => P (.nx σ1) s1 := by
  simp only [ex, to_bind, toSl]
  congr 1; funext x s1
  cases x <;> try rfl
  simp only [toTup]
  cases layN js _ σ <;> rfl
theorem x_ret {e : E} : (ex T call (.ret e) σ s).to P = (ev T call e σ s).to fun v s1 => P (.rt v) s1 := by simp only [ex, to_bind, to_ok]
theorem x_expr {e : E} : (ex T call (.expr e) σ s).to P = (ev T call e σ s).to fun _ s1 => P (.nx σ) s1 := by simp only [ex, to_bind, to_ok]
theorem x_cont : (ex T call .cont σ s).to P = P (.ct σ) s := by simp only [ex, to_ok]
theorem x_sif {c a b : E} : (ex T call (.sif c a b) σ s).to P = (ev T call c σ s).to fun v s1 => toBl v ((ex T call a σ s1).to P) ((ex T call b σ s1).to P) := by
  simp only [ex, to_bind]
  congr 1; funext x s1
  cases x <;> try rfl
  rename_i b; cases b <;> rfl
theorem x_sfor {g it b : E} : (ex T call (.sfor g it b) σ s).to P = (evI T call it σ s).to fun j s1 => (forF j (fun v σ => lay g v σ) (fun σ s => ex T call b σ s) (j.most s1) 0 σ s1).to P := by simp only [ex, to_bind]
theorem x_whl {c b : E} : (ex T call (.whl c b) σ s).to P = (whileF (fun σ s => ev T call c σ s) (fun σ s => ex T call b σ s) T.fuel σ s).to P := by simp only [ex]
/-- a def's call -/
def onRt (Q : PV → Sto → Prop) : Fl → Sto → Prop := fun fl s => match fl with
  | .rt v => Q v s
  | .nx _ => Q .non s
  | _ => False
theorem onRt_rt {v : PV} : onRt Q (.rt v) s = Q v s := rfl
theorem onRt_nx : onRt Q (.nx σ) s = Q .non s := rfl
theorem run_to {n f : Nat} {vs : List PV} {np ns : Nat} {b : E} (hd : T.defs[f]? = some ⟨np, ns, b⟩) (hl : vs.length = np) (h : (ex T (runF T n) b (vs.map some ++ List.replicate (ns - np) none) s).to (onRt Q)) : (runF T (n + 1) f vs s).to Q := by
  simp only [runF, hd]
  rw [if_pos (by rw [hl]; exact Nat.beq_refl _)]
  obtain ⟨fl, s1, e, h⟩ := to_ex h
  rw [e]
  cases fl <;> first | exact h | exact h.elim
/-! ### iterations -/
theorem j_seq {a : E} {K : It → Sto → Prop} : (evI T call (.iseq a) σ s).to K = (ev T call a σ s).to fun x s1 => (match x with | .tup xs => K (.t xs) s1 | .lst i => ∃ xs, s1.getL i = some xs ∧ K (.l i) s1 | _ => False) := by
  simp only [evI, to_bind]
  congr 1; funext x s1
  cases x <;> try rfl
  dsimp only
  cases e : s1.getL _ <;> simp [Res.to]
theorem j_rng {a : E} {K : It → Sto → Prop} : (evI T call (.irng a) σ s).to K = (ev T call a σ s).to fun x s1 => toInt x fun j => (-1000000 ≤ j ∧ j ≤ 1000000) ∧ K (.r 0 j.toNat) s1 := by
  simp only [evI, to_bind]
  congr 1; funext x s1
  cases x <;> try rfl
  simp only [toInt, Bool.and_eq_true, decide_eq_true_eq]
  split <;> rename_i h
  · simp only [h, true_and, and_true, to_ok]
  · simp only [h, false_and]; rfl
end
end GI

namespace GI
open PySem FI
/-! ### turns by an invariant -/
/-- the walk sees xs, whatever is added to the store that satisfies I -/
def Sees {α : Type} (j : It) (I : Sto → Prop) (L : List α) (g : α → PV) : Prop := ∀ k s, I s → k ≤ L.length → j.at k s = some (L[k]?.map g)
theorem turns_inv {α : Type} {j : It} {body : PV → Sto → Res (Option PV)} {L : List α} {g : α → PV} {I : Sto → Prop} (J : Nat → List PV → Sto → Prop) {Q : List PV → Sto → Prop} (hs : Sees j I L g)
    (hI : ∀ k acc s, J k acc s → I s ∧ acc.length ≤ k) (hc : L.length ≤ cap)
    (hb : ∀ k a acc s, L[k]? = some a → J k acc s → (body (g a) s).to fun y s' => J (k + 1) (acc ++ y.toList) s')
    (hQ : ∀ acc s, J L.length acc s → Q acc s) : ∀ (m k : Nat) (acc : List PV) (s : Sto), k + m = L.length → J k acc s → (turns j body m k acc s).to Q
  | 0, k, acc, s, e, h => by
    have hk := hs k s (hI _ _ _ h).1 (by omega)
    rw [List.getElem?_eq_none (by omega)] at hk
    simp only [turns, hk]
    refine hQ acc s ?_
    rw [← e]; exact h
  | m + 1, k, acc, s, e, h => by
    have hlt : k < L.length := by omega
    have hk := hs k s (hI _ _ _ h).1 (by omega)
    rw [List.getElem?_eq_getElem hlt] at hk
    simp only [turns, hk, Option.map_some]
    obtain ⟨y, s1, e1, h1⟩ := to_ex (hb k L[k] acc s (List.getElem?_eq_getElem hlt) h)
    rw [e1]
    have hl := (hI _ _ _ h).2
    cases y with
    | none =>
      dsimp only
      refine turns_inv J hs hI hc hb hQ m (k + 1) acc s1 (by omega) ?_
      simpa using h1
    | some y =>
      dsimp only
      rw [if_pos (by omega)]
      exact turns_inv J hs hI hc hb hQ m (k + 1) (acc ++ [y]) s1 (by omega) h1
section
variable {T : Tab} {call : Nat → List PV → Sto → Res PV} {σ : Sl} {s : Sto} {Q : PV → Sto → Prop}
/-- one turn of a comprehension -/
def Turn (T : Tab) (call : Nat → List PV → Sto → Res PV) (tg c elt : E) (σ : Sl) (x : PV) (s : Sto) (R : Option PV → Sto → Prop) : Prop :=
  toSl (lay tg x σ) fun σ1 => (ev T call c σ1 s).to fun b s1 => toBl b ((ev T call elt σ1 s1).to fun y s2 => R (some y) s2) (R none s1)
theorem turn_to {tg c elt : E} {x : PV} {R : Option PV → Sto → Prop} (h : Turn T call tg c elt σ x s R) : (match lay tg x σ with
        | none => (.bad : Res (Option PV))
        | some σ1 => match ev T call c σ1 s with
          | .ok (.bl true) s3 => match ev T call elt σ1 s3 with
            | .ok y s4 => .ok (some y) s4
            | _ => .bad
          | .ok (.bl false) s3 => .ok none s3
          | _ => .bad).to R := by
  unfold Turn at h
  cases e : lay tg x σ with
  | none => rw [e] at h; exact h.elim
  | some σ1 =>
    rw [e] at h
    simp only [toSl_some] at h
    obtain ⟨b, s1, e1, h⟩ := to_ex h
    simp only [e1]
    cases b with
    | bl b =>
      cases b with
      | false => exact h
      | true =>
        simp only [toBl_true] at h
        obtain ⟨y, s2, e2, h⟩ := to_ex h
        simp only [e2]
        exact h
    | _ => exact h.elim
/-- a comprehension by an invariant -/
theorem comp_inv {α : Type} {own : List (Str × Nat)} {tg it c elt : E} (L : List α) (g : α → PV) (I : Sto → Prop) (J : Nat → List PV → Sto → Prop)
    (hit : (evI T call it σ s).to fun j s1 => j.most s1 = L.length ∧ Sees j I L g ∧ J 0 [] s1) (hI : ∀ k acc s, J k acc s → I s ∧ acc.length ≤ k) (hc : L.length ≤ cap)
    (hb : ∀ k a acc s, L[k]? = some a → J k acc s → Turn T call tg c elt (wipeP σ (own.map (·.2))) (g a) s fun y s' => J (k + 1) (acc ++ y.toList) s')
    (hQ : ∀ acc s', J L.length acc s' → Q (.lst s'.n) (s'.new (.lst acc))) : (ev T call (.comp own tg it c elt) σ s).to Q := by
  simp only [ev, to_bind]
  refine to_mono hit fun j s1 ⟨hm, hs, hJ⟩ => ?_
  rw [hm]
  refine turns_inv J hs hI hc (fun k a acc s h1 h2 => turn_to (hb k a acc s h1 h2)) (fun acc s' h => ?_) L.length 0 [] s1 (by omega) hJ
  rw [if_pos (by have := (hI _ _ _ h).2; omega)]
  exact hQ acc s' h
/-- a comprehension that only reads: f tells what each item gives -/
theorem comp_pure {α : Type} {own : List (Str × Nat)} {tg it c elt : E} (L : List α) (g : α → PV) (f : α → Option PV)
    (hit : (evI T call it σ s).to fun j s1 => j.most s1 = L.length ∧ Sees j (Fr [] s1) L g ∧ Fr [] s s1) (hc : L.length ≤ cap)
    (hb : ∀ a ∈ L, ∀ s', Fr [] s s' → Turn T call tg c elt (wipeP σ (own.map (·.2))) (g a) s' fun y s'' => y = f a ∧ Fr [] s' s'')
    (hQ : ∀ i s', Fr [] s s' → At s' i (L.filterMap f) → s.n ≤ i → Q (.lst i) s') : (ev T call (.comp own tg it c elt) σ s).to Q := by
  obtain ⟨j, s1, e, hm, hs, hf⟩ := to_ex hit
  refine comp_inv L g (Fr [] s1) (fun k acc s' => Fr [] s1 s' ∧ acc = (L.take k).filterMap f) (to_eq e ⟨hm, hs, .refl, rfl⟩) (fun k acc s' ⟨h1, h2⟩ => ⟨h1, ?_⟩) hc (fun k a acc s' h1 ⟨h2, h3⟩ => ?_) fun acc s' ⟨h1, h2⟩ => ?_
  · rw [h2]
    refine Nat.le_trans (List.length_filterMap_le _ _) ?_
    rw [List.length_take]
    omega
  · have hm := hb a (List.mem_of_getElem? h1) s' (hf.trans h2)
    unfold Turn at hm ⊢
    revert hm
    cases lay tg (g a) (wipeP σ (own.map (·.2))) with
    | none => exact fun z => z.elim
    | some σ1 =>
      simp only [toSl_some]
      intro hm
      refine to_mono hm fun b s2 hm => ?_
      have key : ∀ (y : Option PV) (s'' : Sto), (y = f a ∧ Fr [] s' s'') → Fr [] s1 s'' ∧ acc ++ y.toList = (L.take (k + 1)).filterMap f := fun y s'' ⟨e1, e2⟩ => by
        refine ⟨h2.trans e2, ?_⟩
        rw [List.take_add_one, h1, h3, e1, List.filterMap_append]
        cases hfa : f a <;> simp [hfa]
      cases b with
      | bl b =>
        cases b with
        | false => exact key none s2 hm
        | true => exact to_mono hm fun y s3 hm => key (some y) s3 hm
      | _ => exact hm
  · rw [List.take_length] at h2
    subst h2
    exact hQ _ _ ((hf.trans h1).trans .new) .new (Nat.le_trans hf.le h1.le)
theorem sees_t {α : Type} {I : Sto → Prop} {L : List α} {g : α → PV} : Sees (.t (L.map g)) I L g := fun k s _ _ => by simp [It.at]
theorem sees_l {α : Type} {I : Sto → Prop} {L : List α} {g : α → PV} {i : Nat} (h : ∀ s, I s → At s i (L.map g)) : Sees (.l i) I L g := fun k s hi _ => by simp [It.at, (h s hi).getL]
theorem sees_r {I : Sto → Prop} {n : Nat} : Sees (.r 0 n) I (List.range n) fun k => .int (k : Int) := fun k s _ hk => by
  simp only [It.at, List.length_range] at *
  by_cases h : k < n
  · simp [h]
  · simp [h]
theorem sees_en_t {α : Type} {I : Sto → Prop} {L : List α} {g : α → PV} : Sees (.en (.t (L.map g))) I L.zipIdx fun p => .tup [.int (p.2 : Int), g p.1] := fun k s _ hk => by
  simp only [It.at, It.items]
  by_cases h : k < L.length
  · simp [h]
  · have e : k = L.length := by simp at hk; omega
    subst e
    simp
theorem sees_zp {α β : Type} {I : Sto → Prop} {L : List α} {M : List β} {g : α → PV} {h : β → PV} {a b : It} (ha : ∀ s, I s → a.items s = some (L.map g)) (hb : ∀ s, I s → b.items s = some (M.map h)) : Sees (.zp a b) I (L.zip M) fun p => .tup [g p.1, h p.2] := fun k s hi hk => by
  simp only [It.at, ha s hi, hb s hi]
  by_cases h : k < L.length ∧ k < M.length
  · have e : (L.zip M)[k]? = some (L[k]'h.1, M[k]'h.2) := by rw [List.getElem?_eq_getElem (by simp only [List.length_zip]; omega), List.getElem_zip]
    rw [e]
    simp [h.1, h.2]
  · have e : k = min L.length M.length := by simp at hk; omega
    subst e
    by_cases h1 : L.length ≤ M.length
    · rw [Nat.min_eq_left h1] at h ⊢
      simp [Nat.min_eq_left h1]
    · rw [Nat.min_eq_right (by omega)] at h ⊢
      simp [Nat.min_eq_right (by omega : M.length ≤ L.length)]
theorem sees_zp3 {α β γ : Type} {I : Sto → Prop} {L : List α} {M : List β} {N : List γ} {g : α → PV} {h : β → PV} {f : γ → PV} {a b c : It} (ha : ∀ s, I s → a.items s = some (L.map g)) (hb : ∀ s, I s → b.items s = some (M.map h)) (hc : ∀ s, I s → c.items s = some (N.map f)) : Sees (.zp3 a b c) I (L.zip (M.zip N)) fun p => .tup [g p.1, h p.2.1, f p.2.2] := fun k s hi hk => by
  simp only [It.at, ha s hi, hb s hi, hc s hi]
  simp only [List.length_zip] at hk
  by_cases h : k < L.length ∧ k < M.length ∧ k < N.length
  · have e : (L.zip (M.zip N))[k]? = some (L[k]'h.1, M[k]'h.2.1, N[k]'h.2.2) := by rw [List.getElem?_eq_getElem (by simp only [List.length_zip]; omega), List.getElem_zip, List.getElem_zip]
    rw [e]
    simp [h.1, h.2.1, h.2.2]
  · have e : k = min L.length (min M.length N.length) := by omega
    have e2 : k = min (min L.length M.length) N.length := by omega
    have e3 : (L.zip (M.zip N))[k]? = none := List.getElem?_eq_none (by simp only [List.length_zip]; omega)
    rw [e3]
    simp only [List.length_map, Option.map_none]
    have e4 : Nat.beq k (min (min L.length M.length) N.length) = true := by rw [← e2]; exact Nat.beq_refl _
    split
    · rename_i v u w h1 h2 h3
      have := (List.getElem?_eq_some_iff.mp h1).1
      have := (List.getElem?_eq_some_iff.mp h2).1
      have := (List.getElem?_eq_some_iff.mp h3).1
      simp only [List.length_map] at *
      omega
    · rw [if_pos e4]
/-! ### a for by an invariant -/
/-- after a turn -/
def onTurn (P : Fl → Sto → Prop) (k : Sl → Sto → Prop) : Fl → Sto → Prop := fun fl s => match fl with
  | .nx σ => k σ s
  | .ct σ => k σ s
  | .rt v => P (.rt v) s
  | .bk σ => P (.nx σ) s
theorem onTurn_nx {P : Fl → Sto → Prop} {k : Sl → Sto → Prop} {σ : Sl} {s : Sto} : onTurn P k (.nx σ) s = k σ s := rfl
theorem onTurn_ct {P : Fl → Sto → Prop} {k : Sl → Sto → Prop} {σ : Sl} {s : Sto} : onTurn P k (.ct σ) s = k σ s := rfl
theorem onTurn_rt {P : Fl → Sto → Prop} {k : Sl → Sto → Prop} {v : PV} {s : Sto} : onTurn P k (.rt v) s = P (.rt v) s := rfl
theorem for_inv {α : Type} {j : It} {gl : PV → Sl → Option Sl} {tb : Sl → Sto → Res Fl} {L : List α} {g : α → PV} {I : Sto → Prop} (J : Nat → Sl → Sto → Prop) {P : Fl → Sto → Prop} (hs : Sees j I L g)
    (hI : ∀ k σ s, J k σ s → I s)
    (hb : ∀ k a σ s, L[k]? = some a → J k σ s → toSl (gl (g a) σ) fun σ1 => (tb σ1 s).to (onTurn P (J (k + 1))))
    (hQ : ∀ σ s, J L.length σ s → P (.nx σ) s) : ∀ (m k : Nat) (σ : Sl) (s : Sto), k + m = L.length → J k σ s → (forF j gl tb m k σ s).to P
  | 0, k, σ, s, e, h => by
    have hk := hs k s (hI _ _ _ h) (by omega)
    rw [List.getElem?_eq_none (by omega)] at hk
    simp only [forF, hk]
    refine hQ σ s ?_
    rw [← e]; exact h
  | m + 1, k, σ, s, e, h => by
    have hlt : k < L.length := by omega
    have hk := hs k s (hI _ _ _ h) (by omega)
    rw [List.getElem?_eq_getElem hlt] at hk
    simp only [forF, hk, Option.map_some]
    have hb1 := hb k L[k] σ s (List.getElem?_eq_getElem hlt) h
    cases e1 : gl (g L[k]) σ with
    | none => rw [e1] at hb1; exact hb1.elim
    | some σ1 =>
      rw [e1] at hb1
      simp only [toSl_some] at hb1
      obtain ⟨fl, s1, e2, h2⟩ := to_ex hb1
      dsimp only
      rw [e2]
      cases fl with
      | nx σ2 => exact for_inv J hs hI hb hQ m (k + 1) σ2 s1 (by omega) h2
      | ct σ2 => exact for_inv J hs hI hb hQ m (k + 1) σ2 s1 (by omega) h2
      | rt v => exact h2
      | bk σ2 => exact h2
/-- a for statement -/
theorem x_for {α : Type} {g' it b : E} {P : Fl → Sto → Prop} (L : List α) (g : α → PV) (I : Sto → Prop) (J : Nat → Sl → Sto → Prop)
    (hit : (evI T call it σ s).to fun j s1 => j.most s1 = L.length ∧ Sees j I L g ∧ J 0 σ s1) (hI : ∀ k σ s, J k σ s → I s)
    (hb : ∀ k a σ s, L[k]? = some a → J k σ s → toSl (lay g' (g a) σ) fun σ1 => (ex T call b σ1 s).to (onTurn P (J (k + 1))))
    (hQ : ∀ σ s, J L.length σ s → P (.nx σ) s) : (ex T call (.sfor g' it b) σ s).to P := by
  rw [x_sfor]
  refine to_mono hit fun j s1 ⟨hm, hs, hJ⟩ => ?_
  rw [hm]
  exact for_inv J hs hI hb hQ L.length 0 σ s1 (by omega) hJ
end
end GI

namespace GI
open PySem FI
/-! ### fractions -/
def q (r : Rat) : PV := .tup [.int r.num, .int (r.den : Int)]
/-- small -/
structure W (k : Nat) (r : Rat) : Prop where
  num : r.num.natAbs < 2 ^ k
  den : r.den < 2 ^ k
theorem pow_le {i j : Nat} (h : i ≤ j) : 2 ^ i ≤ 2 ^ j := Nat.pow_le_pow_right (by decide) h
theorem W.mono {i j : Nat} {r : Rat} (h : W i r) (l : i ≤ j) : W j r := ⟨Nat.lt_of_lt_of_le h.num (pow_le l), Nat.lt_of_lt_of_le h.den (pow_le l)⟩
theorem W.neg {i : Nat} {r : Rat} (h : W i r) : W i (-r) := ⟨by rw [Rat.neg_num, Int.natAbs_neg]; exact h.num, by rw [Rat.neg_den]; exact h.den⟩
theorem mkRat_small {t : Int} {b k : Nat} (hb : b ≠ 0) (h1 : t.natAbs < 2 ^ k) (h2 : b < 2 ^ k) : W k (mkRat t b) := by
  rw [← Rat.normalize_eq_mkRat hb, Rat.normalize_eq hb]
  refine ⟨?_, ?_⟩
  · dsimp only
    refine Nat.lt_of_le_of_lt ?_ h1
    rw [Int.natAbs_ediv_of_dvd]
    · exact Nat.div_le_self _ _
    · exact Int.ofNat_dvd_left.mpr (Nat.gcd_dvd_left _ _)
  · exact Nat.lt_of_le_of_lt (Nat.div_le_self _ _) h2
theorem mul_lt_pow {a b i j : Nat} (h1 : a < 2 ^ i) (h2 : b < 2 ^ j) : a * b < 2 ^ (i + j) := by
  rw [Nat.pow_add]
  exact Nat.mul_lt_mul'' h1 h2
theorem W.mul {i j : Nat} {a b : Rat} (h : W i a) (k : W j b) : W (i + j) (a * b) := by
  rw [Rat.mul_def']
  refine mkRat_small (Nat.mul_ne_zero a.den_nz b.den_nz) ?_ (mul_lt_pow h.den k.den)
  rw [Int.natAbs_mul]
  exact mul_lt_pow h.num k.num
theorem W.add {i j : Nat} {a b : Rat} (h : W i a) (k : W j b) : W (i + j + 1) (a + b) := by
  rw [Rat.add_def']
  refine mkRat_small (Nat.mul_ne_zero a.den_nz b.den_nz) ?_ (Nat.lt_of_lt_of_le (mul_lt_pow h.den k.den) (pow_le (Nat.le_succ _)))
  refine Nat.lt_of_le_of_lt (Int.natAbs_add_le _ _) ?_
  rw [Int.natAbs_mul, Int.natAbs_mul, Int.natAbs_natCast, Int.natAbs_natCast]
  have h1 := mul_lt_pow h.num k.den
  have h2 := mul_lt_pow k.num h.den
  rw [Nat.add_comm j i] at h2
  rw [Nat.pow_succ]
  omega
theorem W.sub {i j : Nat} {a b : Rat} (h : W i a) (k : W j b) : W (i + j + 1) (a - b) := by
  rw [Rat.sub_eq_add_neg]
  exact h.add k.neg
theorem W.inv {i : Nat} {a : Rat} (h : W i a) (n : a ≠ 0) : W i a⁻¹ := by
  refine ⟨?_, ?_⟩
  · rw [Rat.num_inv, Int.natAbs_mul, Int.natAbs_natCast]
    have : a.num.sign.natAbs ≤ 1 := by
      rcases Int.lt_trichotomy a.num 0 with z | z | z
      · rw [Int.sign_eq_neg_one_of_neg z]; decide
      · rw [z]; decide
      · rw [Int.sign_eq_one_of_pos z]; decide
    have hd := h.den
    calc a.num.sign.natAbs * a.den ≤ 1 * a.den := Nat.mul_le_mul_right _ this
      _ < 2 ^ i := by omega
  · rw [Rat.den_inv]
    split
    · rename_i z
      exact absurd (Rat.num_eq_zero.mp z) n
    · exact h.num
theorem W.div {i j : Nat} {a b : Rat} (h : W i a) (k : W j b) (n : b ≠ 0) : W (i + j) (a / b) := by
  rw [Rat.div_def]
  exact h.mul (k.inv n)
theorem W.zero : W 1 0 := ⟨by decide, by decide⟩
theorem log2_lt {a k : Nat} (h : a < 2 ^ k) (hk : 0 < k) : a.log2 < k := by
  by_cases z : a = 0
  · rw [z]; simpa using hk
  · exact (Nat.log2_lt z).mpr h
/-! ### data -/
def dq (r : Rat) : PyData := .tuple [.int r.num, .int (r.den : Int)]
theorem toD_int {s : Sto} {n : Nat} {i : Int} : toD s (n + 1) (.int i) = some (.int i) := rfl
theorem toD_str {s : Sto} {n : Nat} {i : Str} : toD s (n + 1) (.str i) = some (.str i) := rfl
theorem toD_q {s : Sto} {n : Nat} {r : Rat} : toD s (n + 2) (q r) = some (dq r) := rfl
theorem mapO_map {α β γ : Type} {f : β → Option γ} {g : α → β} {h : α → γ} : ∀ {L : List α}, (∀ a ∈ L, f (g a) = some (h a)) → mapO f (L.map g) = some (L.map h)
  | [], _ => rfl
  | a :: L, e => by
    simp only [List.map_cons, mapO, e a List.mem_cons_self, mapO_map fun b hb => e b (List.mem_cons_of_mem _ hb)]
theorem toD_tup {α : Type} {s : Sto} {n : Nat} {g : α → PV} {h : α → PyData} {L : List α} (e : ∀ a ∈ L, toD s n (g a) = some (h a)) : toD s (n + 1) (.tup (L.map g)) = some (.tuple (L.map h)) := by
  simp only [toD, mapO_map e]
theorem toD_lst {α : Type} {s : Sto} {n i : Nat} {g : α → PV} {h : α → PyData} {L : List α} (hi : At s i (L.map g)) (e : ∀ a ∈ L, toD s n (g a) = some (h a)) : toD s (n + 1) (.lst i) = some (.list (L.map h)) := by
  simp only [toD, hi.getL, mapO_map e]
theorem canAll {α : Type} {h : α → PyData} : ∀ {L : List α}, (∀ a ∈ L, (h a).canLay0 = true) → PyData.canLayAll0 (L.map h) = true
  | [], _ => rfl
  | a :: L, e => by
    simp only [List.map_cons, PyData.canLayAll0, e a List.mem_cons_self, canAll fun b hb => e b (List.mem_cons_of_mem _ hb), Bool.and_self]
theorem can_q {r : Rat} : (dq r).canLay0 = true := rfl
theorem eqv_q {a b : Rat} : PyData.eqv (dq a) (dq b) = decide (a = b) := by
  simp only [dq, PyData.eqv, PyData.eqvAll, Bool.and_true]
  by_cases h : a = b
  · subst h; simp
  · rw [decide_eq_false h]
    by_cases h1 : a.num = b.num
    · have h2 : a.den ≠ b.den := fun z => h (Rat.ext h1 z)
      simp [h1]
      omega
    · simp [h1]
theorem eq_q {s : Sto} {a b : Rat} : eqP s (q a) (q b) = some (decide (a = b)) := by
  simp only [eqP, toD_q]
  have h : (SeqAt.shaped (dq a) && SeqAt.shaped (dq b)) = true := rfl
  rw [if_pos h, eqv_q]
theorem eq_int {s : Sto} {a b : Int} : eqP s (.int a) (.int b) = some (decide (a = b)) := by
  simp only [eqP, toD]
  have h : (SeqAt.shaped (PyData.int a) && SeqAt.shaped (PyData.int b)) = true := rfl
  rw [if_pos h, PyData.eqv]
  congr 1
theorem eq_same {s : Sto} {a b : PV} {d : PyData} (ha : toD s 60 a = some d) (hb : toD s 60 b = some d) (hc : d.canLay0 = true) (hd : d.depth ≤ 64) : eqP s a b = some true := by
  simp only [eqP, ha, hb]
  have hs : SeqAt.shaped d = true := by simp [SeqAt.shaped, hc, hd]
  rw [hs]
  simp only [Bool.and_self, if_true]
  rw [SeqAt.eqv_refl d hc]
end GI

namespace K69
open PySem FI GI
theorem ne_int {s : Sto} {a b : Int} {Q : PV → Sto → Prop} : (evCmp .ne (.int a) (.int b) s).to Q = Q (.bl (!decide (a = b))) s := by simp only [evCmp, eq_int, to_ok]
theorem w_add {s : Sto} {a b : Int} {Q : PV → Sto → Prop} : (evBin .add (.int a) (.int b) s).to Q = Q (.int (a + b)) s := by simp only [evBin, to_ok]
theorem w_sub {s : Sto} {a b : Int} {Q : PV → Sto → Prop} : (evBin .sub (.int a) (.int b) s).to Q = Q (.int (a - b)) s := by simp only [evBin, to_ok]
theorem w_mul {s : Sto} {a b : Int} {Q : PV → Sto → Prop} (ha : a.natAbs < 2 ^ 9000) (hb : b.natAbs < 2 ^ 9000) : (evBin .mul (.int a) (.int b) s).to Q = Q (.int (a * b)) s := by
  have h1 := log2_lt ha (by decide)
  have h2 := log2_lt hb (by decide)
  simp only [evBin]
  rw [if_pos (by omega), to_ok]
theorem w_mod {s : Sto} {a b : Int} {Q : PV → Sto → Prop} (hb : 0 < b) : (evBin .mod (.int a) (.int b) s).to Q = Q (.int (a % b)) s := by
  simp only [evBin]
  rw [if_pos hb, to_ok]
theorem w_fdiv {s : Sto} {a b : Int} {Q : PV → Sto → Prop} (hb : 0 < b) (h : b.natAbs < 2 ^ 9000) : (evBin .fdiv (.int a) (.int b) s).to Q = Q (.int (a / b)) s := by
  have h1 := log2_lt h (by decide)
  simp only [evBin]
  rw [if_pos (by simp [hb, h1]), to_ok]
theorem gcd_loop {c b : E} {n : Nat} (hc : c = .cmp .ne (.var 1) (.int 0)) (hb : b = .seq (.par [0, 1] (.cons (.var 1) (.cons (.bin .mod (.var 0) (.blt .int (.cons (.var 1) .nil))) .nil))) .skip) : ∀ (m : Nat) (x y : Nat) (s : Sto), y < m → whileF (fun σ s => ev T (runF T n) c σ s) (fun σ s => ex T (runF T n) b σ s) m [some (.int x), some (.int y)] s = .ok (.nx [some (.int (Nat.gcd x y : Nat)), some (.int 0)]) s
  | 0, _, _, _, h => absurd h (Nat.not_lt_zero _)
  | m + 1, x, y, s, h => by
    have e1 : ev T (runF T n) c [some (.int x), some (.int y)] s = .ok (.bl (!decide ((y : Int) = 0))) s := by
      subst hc
      simp [ev, Res.bind, evCmp, eq_int]
    simp only [whileF, e1]
    by_cases z : y = 0
    · subst z
      simp
    · have hz : ¬ ((y : Int) = 0) := by omega
      have e2 : ex T (runF T n) b [some (.int x), some (.int y)] s = .ok (.nx [some (.int (y : Int)), some (.int ((x % y : Nat) : Int))]) s := by
        subst hb
        simp [ex, ev, Res.bind, evBin, evBlt, layN, Nat.pos_of_ne_zero z]
      simp only [hz, decide_false, Bool.not_false, e2]
      rw [gcd_loop hc hb m y (x % y) s (by have := Nat.mod_lt x (Nat.pos_of_ne_zero z); omega)]
      rw [Nat.gcd_comm x y, Nat.gcd_rec y x, Nat.gcd_comm]
theorem eq_of_to {r : Res PV} {v : PV} {s : Sto} (h : ∀ Q : PV → Sto → Prop, Q v s → r.to Q) : r = .ok v s := by
  obtain ⟨a, s', e, h1, h2⟩ := to_ex (h (fun a s' => a = v ∧ s' = s) ⟨rfl, rfl⟩)
  rw [e, h1, h2]
theorem w_abs {s : Sto} {i : Int} {Q : PV → Sto → Prop} : (evBlt .abs [.int i] s).to Q = Q (.int (i.natAbs : Int)) s := by
  have e : (if i < 0 then -i else i) = (i.natAbs : Int) := by split <;> omega
  simp only [evBlt, e, to_ok]
theorem w_toint {s : Sto} {i : Int} {Q : PV → Sto → Prop} : (evBlt .int [.int i] s).to Q = Q (.int i) s := by simp only [evBlt, to_ok]
theorem w_lt {s : Sto} {a b : Int} {Q : PV → Sto → Prop} : (evCmp .lt (.int a) (.int b) s).to Q = Q (.bl (decide (a < b))) s := by simp only [evCmp, to_ok]
theorem w_le {s : Sto} {a b : Int} {Q : PV → Sto → Prop} : (evCmp .le (.int a) (.int b) s).to Q = Q (.bl (decide (a ≤ b))) s := by simp only [evCmp, to_ok]
theorem w_gt {s : Sto} {a b : Int} {Q : PV → Sto → Prop} : (evCmp .gt (.int a) (.int b) s).to Q = Q (.bl (decide (b < a))) s := by simp only [evCmp, to_ok]
theorem w_ge {s : Sto} {a b : Int} {Q : PV → Sto → Prop} : (evCmp .ge (.int a) (.int b) s).to Q = Q (.bl (decide (b ≤ a))) s := by simp only [evCmp, to_ok]
theorem w_eqI {s : Sto} {a b : Int} {Q : PV → Sto → Prop} : (evCmp .eq (.int a) (.int b) s).to Q = Q (.bl (decide (a = b))) s := by simp only [evCmp, eq_int, to_ok]
theorem w_eqq {s : Sto} {a b : Rat} {Q : PV → Sto → Prop} : (evCmp .eq (q a) (q b) s).to Q = Q (.bl (decide (a = b))) s := by simp only [evCmp, eq_q, to_ok]
theorem w_neq {s : Sto} {a b : Rat} {Q : PV → Sto → Prop} : (evCmp .ne (q a) (q b) s).to Q = Q (.bl (!decide (a = b))) s := by simp only [evCmp, eq_q, to_ok]
theorem q_num {s : Sto} {a : Rat} {Q : PV → Sto → Prop} : (evIdx (q a) (.int 0) s).to Q = Q (.int a.num) s := rfl
theorem q_den {s : Sto} {a : Rat} {Q : PV → Sto → Prop} : (evIdx (q a) (.int 1) s).to Q = Q (.int (a.den : Int)) s := rfl
theorem common_ok {n : Nat} {a b : Int} {s : Sto} (hb : b.natAbs < 2 ^ 9000) : runF T (n + 1) 1 [.int a, .int b] s = .ok (.int (Int.gcd a b : Nat)) s := by
  have hf : T.fuel = 2 ^ 9000 := rfl
  refine eq_of_to fun Q hQ => run_to d_common rfl ?_
  simp only [c_common, w_int, w_bl, w_non, w_no, w_str, w_nil, w_one, w_var, toVar_some, w_glob, toGl_some, toTup_tup, toBl_true, toBl_false, w_cons, w_tup, w_lst, w_bin, w_cmp, w_chain, w_not, w_and, w_or, w_ife, toInt_int, w_neg, w_idx, w_slice, w_isi, w_call, w_blt, toSeq_tup, w_star, w_rev, onNx_nx, onNx_rt, onNx_ct, x_skip, x_seq, toSl_some, x_set, x_setC, x_par, x_ret, x_expr, x_cont, x_sif, onRt_rt, onRt_nx, onTurn_nx, onTurn_ct, onTurn_rt, lay, layN, List.map_cons, List.map_nil, List.getElem?_cons_zero, List.getElem?_cons_succ, Nat.sub_self, List.replicate_zero, List.replicate_succ, List.append_nil, List.cons_append, List.nil_append, List.set_cons_zero, List.set_cons_succ, Nat.reduceSub, to_ok, wipeP, true_and, w_abs]
  rw [x_whl, hf, gcd_loop rfl rfl _ _ _ _ hb]
  simp only [w_int, w_bl, w_non, w_no, w_str, w_nil, w_one, w_var, toVar_some, w_glob, toGl_some, toTup_tup, toBl_true, toBl_false, w_cons, w_tup, w_lst, w_bin, w_cmp, w_chain, w_not, w_and, w_or, w_ife, toInt_int, w_neg, w_idx, w_slice, w_isi, w_call, w_blt, toSeq_tup, w_star, w_rev, onNx_nx, onNx_rt, onNx_ct, x_skip, x_seq, toSl_some, x_set, x_setC, x_par, x_ret, x_expr, x_cont, x_sif, onRt_rt, onRt_nx, onTurn_nx, onTurn_ct, onTurn_rt, lay, layN, List.map_cons, List.map_nil, List.getElem?_cons_zero, List.getElem?_cons_succ, Nat.sub_self, List.replicate_zero, List.replicate_succ, List.append_nil, List.cons_append, List.nil_append, List.set_cons_zero, List.set_cons_succ, Nat.reduceSub, to_ok, wipeP, true_and]
  exact hQ
theorem made_ok {n : Nat} {t : Int} {b : Nat} {s : Sto} (h0 : b ≠ 0) (hb : b < 2 ^ 9000) : runF T (n + 2) 2 [.int t, .int (b : Int)] s = .ok (q (mkRat t b)) s := by
  have hg : Int.gcd t b < 2 ^ 9000 := Nat.lt_of_le_of_lt (Nat.gcd_le_right _ (Nat.pos_of_ne_zero h0)) (by simpa using hb)
  have hg0 : 0 < Int.gcd t b := Nat.gcd_pos_of_pos_right _ (by simpa using Nat.pos_of_ne_zero h0)
  have hn : ¬ ((b : Int) < 0) := by omega
  have hz : (0 : Int) < (Int.gcd t b : Nat) := by omega
  have e : (q (mkRat t b)) = .tup [.int (t / (Int.gcd t b : Nat)), .int ((b : Int) / (Int.gcd t b : Nat))] := by
    rw [← Rat.normalize_eq_mkRat h0, Rat.normalize_eq h0]
    simp only [q, Int.gcd, Int.natAbs_natCast, Int.natCast_ediv]
  refine eq_of_to fun Q hQ => run_to d_made rfl ?_
  simp only [c_made, w_int, w_bl, w_non, w_no, w_str, w_nil, w_one, w_var, toVar_some, w_glob, toGl_some, toTup_tup, toBl_true, toBl_false, w_cons, w_tup, w_lst, w_bin, w_cmp, w_chain, w_not, w_and, w_or, w_ife, toInt_int, w_neg, w_idx, w_slice, w_isi, w_call, w_blt, toSeq_tup, w_star, w_rev, onNx_nx, onNx_rt, onNx_ct, x_skip, x_seq, toSl_some, x_set, x_setC, x_par, x_ret, x_expr, x_cont, x_sif, onRt_rt, onRt_nx, onTurn_nx, onTurn_ct, onTurn_rt, lay, layN, List.map_cons, List.map_nil, List.getElem?_cons_zero, List.getElem?_cons_succ, Nat.sub_self, List.replicate_zero, List.replicate_succ, List.append_nil, List.cons_append, List.nil_append, List.set_cons_zero, List.set_cons_succ, Nat.reduceSub, to_ok, wipeP, true_and, w_lt, hn, decide_false, common_ok (a := t) (b := (b : Int)) (by simpa using hb), w_fdiv hz (by simpa using hg)]
  rw [e] at hQ
  exact ⟨by simp [cap], hQ⟩
section
variable {n : Nat} {a b : Rat} {s : Sto}
theorem den_pos (a : Rat) : (0 : Int) < a.den := by have := a.den_pos; omega
theorem bound_den (ha : W 4000 a) (hb : W 4000 b) : a.den * b.den < 2 ^ 9000 := Nat.lt_of_lt_of_le (mul_lt_pow ha.den hb.den) (pow_le (by decide))
theorem add_ok (ha : W 4000 a) (hb : W 4000 b) : runF T (n + 3) 4 [q a, q b] s = .ok (q (a + b)) s := by
  have h1 := ha.mono (by decide : 4000 ≤ 9000)
  have h2 := hb.mono (by decide : 4000 ≤ 9000)
  refine eq_of_to fun Q hQ => run_to d_add rfl ?_
  simp only [c_add, w_int, w_bl, w_non, w_no, w_str, w_nil, w_one, w_var, toVar_some, w_glob, toGl_some, toTup_tup, toBl_true, toBl_false, w_cons, w_tup, w_lst, w_bin, w_cmp, w_chain, w_not, w_and, w_or, w_ife, toInt_int, w_neg, w_idx, w_slice, w_isi, w_call, w_blt, toSeq_tup, w_star, w_rev, onNx_nx, onNx_rt, onNx_ct, x_skip, x_seq, toSl_some, x_set, x_setC, x_par, x_ret, x_expr, x_cont, x_sif, onRt_rt, onRt_nx, onTurn_nx, onTurn_ct, onTurn_rt, lay, layN, List.map_cons, List.map_nil, List.getElem?_cons_zero, List.getElem?_cons_succ, Nat.sub_self, List.replicate_zero, List.replicate_succ, List.append_nil, List.cons_append, List.nil_append, List.set_cons_zero, List.set_cons_succ, Nat.reduceSub, to_ok, wipeP, true_and, q_num, q_den, w_mul h1.num (b := (b.den : Int)) (by simpa using h2.den), w_mul h2.num (b := (a.den : Int)) (by simpa using h1.den), w_mul (a := (a.den : Int)) (by simpa using h1.den) (b := (b.den : Int)) (by simpa using h2.den), w_add]
  rw [← Int.natCast_mul, made_ok (Nat.mul_ne_zero a.den_nz b.den_nz) (bound_den ha hb), to_ok, ← Rat.add_def']
  exact hQ
theorem sub_ok (ha : W 4000 a) (hb : W 4000 b) : runF T (n + 3) 5 [q a, q b] s = .ok (q (a - b)) s := by
  have h1 := ha.mono (by decide : 4000 ≤ 9000)
  have h2 := hb.mono (by decide : 4000 ≤ 9000)
  refine eq_of_to fun Q hQ => run_to d_sub rfl ?_
  simp only [c_sub, w_int, w_bl, w_non, w_no, w_str, w_nil, w_one, w_var, toVar_some, w_glob, toGl_some, toTup_tup, toBl_true, toBl_false, w_cons, w_tup, w_lst, w_bin, w_cmp, w_chain, w_not, w_and, w_or, w_ife, toInt_int, w_neg, w_idx, w_slice, w_isi, w_call, w_blt, toSeq_tup, w_star, w_rev, onNx_nx, onNx_rt, onNx_ct, x_skip, x_seq, toSl_some, x_set, x_setC, x_par, x_ret, x_expr, x_cont, x_sif, onRt_rt, onRt_nx, onTurn_nx, onTurn_ct, onTurn_rt, lay, layN, List.map_cons, List.map_nil, List.getElem?_cons_zero, List.getElem?_cons_succ, Nat.sub_self, List.replicate_zero, List.replicate_succ, List.append_nil, List.cons_append, List.nil_append, List.set_cons_zero, List.set_cons_succ, Nat.reduceSub, to_ok, wipeP, true_and, q_num, q_den, w_mul h1.num (b := (b.den : Int)) (by simpa using h2.den), w_mul h2.num (b := (a.den : Int)) (by simpa using h1.den), w_mul (a := (a.den : Int)) (by simpa using h1.den) (b := (b.den : Int)) (by simpa using h2.den), w_sub]
  rw [← Int.natCast_mul, made_ok (Nat.mul_ne_zero a.den_nz b.den_nz) (bound_den ha hb), to_ok, ← Rat.sub_def']
  exact hQ
theorem mul_ok (ha : W 4000 a) (hb : W 4000 b) : runF T (n + 3) 6 [q a, q b] s = .ok (q (a * b)) s := by
  have h1 := ha.mono (by decide : 4000 ≤ 9000)
  have h2 := hb.mono (by decide : 4000 ≤ 9000)
  refine eq_of_to fun Q hQ => run_to d_mul rfl ?_
  simp only [c_mul, w_int, w_bl, w_non, w_no, w_str, w_nil, w_one, w_var, toVar_some, w_glob, toGl_some, toTup_tup, toBl_true, toBl_false, w_cons, w_tup, w_lst, w_bin, w_cmp, w_chain, w_not, w_and, w_or, w_ife, toInt_int, w_neg, w_idx, w_slice, w_isi, w_call, w_blt, toSeq_tup, w_star, w_rev, onNx_nx, onNx_rt, onNx_ct, x_skip, x_seq, toSl_some, x_set, x_setC, x_par, x_ret, x_expr, x_cont, x_sif, onRt_rt, onRt_nx, onTurn_nx, onTurn_ct, onTurn_rt, lay, layN, List.map_cons, List.map_nil, List.getElem?_cons_zero, List.getElem?_cons_succ, Nat.sub_self, List.replicate_zero, List.replicate_succ, List.append_nil, List.cons_append, List.nil_append, List.set_cons_zero, List.set_cons_succ, Nat.reduceSub, to_ok, wipeP, true_and, q_num, q_den, w_mul h1.num h2.num, w_mul (a := (a.den : Int)) (by simpa using h1.den) (b := (b.den : Int)) (by simpa using h2.den)]
  rw [← Int.natCast_mul, made_ok (Nat.mul_ne_zero a.den_nz b.den_nz) (bound_den ha hb), to_ok, ← Rat.mul_def']
  exact hQ
theorem num_pos (h : 0 < b) : 0 < b.num := by
  have := (Rat.lt_iff 0 b).mp h
  simpa using this
theorem div_mk (h : 0 < b) : a / b = mkRat (a.num * b.den) (a.den * b.num.natAbs) := by
  have hn := num_pos h
  rw [Rat.div_def, Rat.inv_def]
  conv => lhs; rw [← Rat.num_divInt_den a]
  rw [Rat.divInt_mul_divInt]
  have e : (a.den : Int) * b.num = ((a.den * b.num.natAbs : Nat) : Int) := by
    rw [Int.natCast_mul, Int.natAbs_of_nonneg (by omega)]
  rw [e, Rat.divInt_ofNat]
theorem div_ok (ha : W 4000 a) (hb : W 4000 b) (h : 0 < b) : runF T (n + 3) 7 [q a, q b] s = .ok (q (a / b)) s := by
  have h1 := ha.mono (by decide : 4000 ≤ 9000)
  have h2 := hb.mono (by decide : 4000 ≤ 9000)
  have hn := num_pos h
  refine eq_of_to fun Q hQ => run_to d_div rfl ?_
  simp only [c_div, w_int, w_bl, w_non, w_no, w_str, w_nil, w_one, w_var, toVar_some, w_glob, toGl_some, toTup_tup, toBl_true, toBl_false, w_cons, w_tup, w_lst, w_bin, w_cmp, w_chain, w_not, w_and, w_or, w_ife, toInt_int, w_neg, w_idx, w_slice, w_isi, w_call, w_blt, toSeq_tup, w_star, w_rev, onNx_nx, onNx_rt, onNx_ct, x_skip, x_seq, toSl_some, x_set, x_setC, x_par, x_ret, x_expr, x_cont, x_sif, onRt_rt, onRt_nx, onTurn_nx, onTurn_ct, onTurn_rt, lay, layN, List.map_cons, List.map_nil, List.getElem?_cons_zero, List.getElem?_cons_succ, Nat.sub_self, List.replicate_zero, List.replicate_succ, List.append_nil, List.cons_append, List.nil_append, List.set_cons_zero, List.set_cons_succ, Nat.reduceSub, to_ok, wipeP, true_and, q_num, q_den, w_mul h1.num (b := (b.den : Int)) (by simpa using h2.den), w_mul (a := (a.den : Int)) (by simpa using h1.den) h2.num]
  have e : (a.den : Int) * b.num = ((a.den * b.num.natAbs : Nat) : Int) := by
    rw [Int.natCast_mul, Int.natAbs_of_nonneg (by omega)]
  rw [e, made_ok (Nat.mul_ne_zero a.den_nz (by omega)) (Nat.lt_of_lt_of_le (mul_lt_pow ha.den hb.num) (pow_le (by decide))), to_ok, ← div_mk h]
  exact hQ
theorem under_ok (ha : W 4000 a) (hb : W 4000 b) : runF T (n + 1) 8 [q a, q b] s = .ok (.bl (decide (a < b))) s := by
  have h1 := ha.mono (by decide : 4000 ≤ 9000)
  have h2 := hb.mono (by decide : 4000 ≤ 9000)
  refine eq_of_to fun Q hQ => run_to d_is_under rfl ?_
  simp only [c_is_under, w_int, w_bl, w_non, w_no, w_str, w_nil, w_one, w_var, toVar_some, w_glob, toGl_some, toTup_tup, toBl_true, toBl_false, w_cons, w_tup, w_lst, w_bin, w_cmp, w_chain, w_not, w_and, w_or, w_ife, toInt_int, w_neg, w_idx, w_slice, w_isi, w_call, w_blt, toSeq_tup, w_star, w_rev, onNx_nx, onNx_rt, onNx_ct, x_skip, x_seq, toSl_some, x_set, x_setC, x_par, x_ret, x_expr, x_cont, x_sif, onRt_rt, onRt_nx, onTurn_nx, onTurn_ct, onTurn_rt, lay, layN, List.map_cons, List.map_nil, List.getElem?_cons_zero, List.getElem?_cons_succ, Nat.sub_self, List.replicate_zero, List.replicate_succ, List.append_nil, List.cons_append, List.nil_append, List.set_cons_zero, List.set_cons_succ, Nat.reduceSub, to_ok, wipeP, true_and, q_num, q_den, w_mul h1.num (b := (b.den : Int)) (by simpa using h2.den), w_mul h2.num (b := (a.den : Int)) (by simpa using h1.den), w_lt]
  rw [← (decide_eq_decide.mpr (Rat.lt_iff a b))]
  exact hQ
/-! the law's own fractions -/
theorem gcd_loop2 {c b : E} {n : Nat} {u v : Option PV} (hc : c = .cmp .ne (.var 3) (.int 0)) (hb : b = .seq (.par [2, 3] (.cons (.var 3) (.cons (.bin .mod (.blt .int (.cons (.var 2) .nil)) (.var 3)) .nil))) .skip) : ∀ (m : Nat) (x y : Nat) (s : Sto), y < m → whileF (fun σ s => ev T (runF T n) c σ s) (fun σ s => ex T (runF T n) b σ s) m [u, v, some (.int x), some (.int y)] s = .ok (.nx [u, v, some (.int (Nat.gcd x y : Nat)), some (.int 0)]) s
  | 0, _, _, _, h => absurd h (Nat.not_lt_zero _)
  | m + 1, x, y, s, h => by
    have e1 : ev T (runF T n) c [u, v, some (.int x), some (.int y)] s = .ok (.bl (!decide ((y : Int) = 0))) s := by
      subst hc
      simp [ev, Res.bind, evCmp, eq_int]
    simp only [whileF, e1]
    by_cases z : y = 0
    · subst z
      simp
    · have hz : ¬ ((y : Int) = 0) := by omega
      have e2 : ex T (runF T n) b [u, v, some (.int x), some (.int y)] s = .ok (.nx [u, v, some (.int (y : Int)), some (.int ((x % y : Nat) : Int))]) s := by
        subst hb
        simp [ex, ev, Res.bind, evBin, evBlt, layN, Nat.pos_of_ne_zero z]
      simp only [hz, decide_false, Bool.not_false, e2]
      rw [gcd_loop2 hc hb m y (x % y) s (by have := Nat.mod_lt x (Nat.pos_of_ne_zero z); omega)]
      rw [Nat.gcd_comm x y, Nat.gcd_rec y x, Nat.gcd_comm]
theorem ratio_ok {t : Int} {b : Nat} (h0 : b ≠ 0) (hb : b < 2 ^ 9000) : runF T (n + 1) 57 [.int t, .int (b : Int)] s = .ok (q (mkRat t b)) s := by
  have hf : T.fuel = 2 ^ 9000 := rfl
  have hg : Nat.gcd t.natAbs b < 2 ^ 9000 := Nat.lt_of_le_of_lt (Nat.gcd_le_right _ (Nat.pos_of_ne_zero h0)) hb
  have hg0 : 0 < Nat.gcd t.natAbs b := Nat.gcd_pos_of_pos_right _ (Nat.pos_of_ne_zero h0)
  have hz : (0 : Int) < (Nat.gcd t.natAbs b : Nat) := by omega
  have e : (q (mkRat t b)) = .tup [.int (t / (Nat.gcd t.natAbs b : Nat)), .int ((b : Int) / (Nat.gcd t.natAbs b : Nat))] := by
    rw [← Rat.normalize_eq_mkRat h0, Rat.normalize_eq h0]
    simp only [q, Int.natCast_ediv]
  refine eq_of_to fun Q hQ => run_to d__law_ratio rfl ?_
  simp only [c__law_ratio, w_int, w_bl, w_non, w_no, w_str, w_nil, w_one, w_var, toVar_some, w_glob, toGl_some, toTup_tup, toBl_true, toBl_false, w_cons, w_tup, w_lst, w_bin, w_cmp, w_chain, w_not, w_and, w_or, w_ife, toInt_int, w_neg, w_idx, w_slice, w_isi, w_call, w_blt, toSeq_tup, w_star, w_rev, onNx_nx, onNx_rt, onNx_ct, x_skip, x_seq, toSl_some, x_set, x_setC, x_par, x_ret, x_expr, x_cont, x_sif, onRt_rt, onRt_nx, onTurn_nx, onTurn_ct, onTurn_rt, lay, layN, List.map_cons, List.map_nil, List.getElem?_cons_zero, List.getElem?_cons_succ, Nat.sub_self, List.replicate_zero, List.replicate_succ, List.append_nil, List.cons_append, List.nil_append, List.set_cons_zero, List.set_cons_succ, Nat.reduceSub, to_ok, wipeP, true_and, w_abs]
  rw [x_whl, hf, gcd_loop2 rfl rfl _ _ _ _ hb]
  simp only [w_int, w_bl, w_non, w_no, w_str, w_nil, w_one, w_var, toVar_some, w_glob, toGl_some, toTup_tup, toBl_true, toBl_false, w_cons, w_tup, w_lst, w_bin, w_cmp, w_chain, w_not, w_and, w_or, w_ife, toInt_int, w_neg, w_idx, w_slice, w_isi, w_call, w_blt, toSeq_tup, w_star, w_rev, onNx_nx, onNx_rt, onNx_ct, x_skip, x_seq, toSl_some, x_set, x_setC, x_par, x_ret, x_expr, x_cont, x_sif, onRt_rt, onRt_nx, onTurn_nx, onTurn_ct, onTurn_rt, lay, layN, List.map_cons, List.map_nil, List.getElem?_cons_zero, List.getElem?_cons_succ, Nat.sub_self, List.replicate_zero, List.replicate_succ, List.append_nil, List.cons_append, List.nil_append, List.set_cons_zero, List.set_cons_succ, Nat.reduceSub, to_ok, wipeP, true_and, w_fdiv hz (by simpa using hg)]
  rw [e] at hQ
  exact ⟨by simp [cap], hQ⟩
theorem plus_ok (ha : W 4000 a) (hb : W 4000 b) : runF T (n + 2) 58 [q a, q b] s = .ok (q (a + b)) s := by
  have h1 := ha.mono (by decide : 4000 ≤ 9000)
  have h2 := hb.mono (by decide : 4000 ≤ 9000)
  refine eq_of_to fun Q hQ => run_to d__law_plus rfl ?_
  simp only [c__law_plus, w_int, w_bl, w_non, w_no, w_str, w_nil, w_one, w_var, toVar_some, w_glob, toGl_some, toTup_tup, toBl_true, toBl_false, w_cons, w_tup, w_lst, w_bin, w_cmp, w_chain, w_not, w_and, w_or, w_ife, toInt_int, w_neg, w_idx, w_slice, w_isi, w_call, w_blt, toSeq_tup, w_star, w_rev, onNx_nx, onNx_rt, onNx_ct, x_skip, x_seq, toSl_some, x_set, x_setC, x_par, x_ret, x_expr, x_cont, x_sif, onRt_rt, onRt_nx, onTurn_nx, onTurn_ct, onTurn_rt, lay, layN, List.map_cons, List.map_nil, List.getElem?_cons_zero, List.getElem?_cons_succ, Nat.sub_self, List.replicate_zero, List.replicate_succ, List.append_nil, List.cons_append, List.nil_append, List.set_cons_zero, List.set_cons_succ, Nat.reduceSub, to_ok, wipeP, true_and, q_num, q_den, w_mul h1.num (b := (b.den : Int)) (by simpa using h2.den), w_mul h2.num (b := (a.den : Int)) (by simpa using h1.den), w_mul (a := (a.den : Int)) (by simpa using h1.den) (b := (b.den : Int)) (by simpa using h2.den), w_add]
  rw [← Int.natCast_mul, ratio_ok (Nat.mul_ne_zero a.den_nz b.den_nz) (bound_den ha hb), to_ok, ← Rat.add_def']
  exact hQ
theorem less_ok (ha : W 4000 a) (hb : W 4000 b) : runF T (n + 2) 59 [q a, q b] s = .ok (q (a - b)) s := by
  have h1 := ha.mono (by decide : 4000 ≤ 9000)
  have h2 := hb.mono (by decide : 4000 ≤ 9000)
  refine eq_of_to fun Q hQ => run_to d__law_less rfl ?_
  simp only [c__law_less, w_int, w_bl, w_non, w_no, w_str, w_nil, w_one, w_var, toVar_some, w_glob, toGl_some, toTup_tup, toBl_true, toBl_false, w_cons, w_tup, w_lst, w_bin, w_cmp, w_chain, w_not, w_and, w_or, w_ife, toInt_int, w_neg, w_idx, w_slice, w_isi, w_call, w_blt, toSeq_tup, w_star, w_rev, onNx_nx, onNx_rt, onNx_ct, x_skip, x_seq, toSl_some, x_set, x_setC, x_par, x_ret, x_expr, x_cont, x_sif, onRt_rt, onRt_nx, onTurn_nx, onTurn_ct, onTurn_rt, lay, layN, List.map_cons, List.map_nil, List.getElem?_cons_zero, List.getElem?_cons_succ, Nat.sub_self, List.replicate_zero, List.replicate_succ, List.append_nil, List.cons_append, List.nil_append, List.set_cons_zero, List.set_cons_succ, Nat.reduceSub, to_ok, wipeP, true_and, q_num, q_den, w_mul h1.num (b := (b.den : Int)) (by simpa using h2.den), w_mul h2.num (b := (a.den : Int)) (by simpa using h1.den), w_mul (a := (a.den : Int)) (by simpa using h1.den) (b := (b.den : Int)) (by simpa using h2.den), w_sub]
  rw [← Int.natCast_mul, ratio_ok (Nat.mul_ne_zero a.den_nz b.den_nz) (bound_den ha hb), to_ok, ← Rat.sub_def']
  exact hQ
theorem times_ok (ha : W 4000 a) (hb : W 4000 b) : runF T (n + 2) 60 [q a, q b] s = .ok (q (a * b)) s := by
  have h1 := ha.mono (by decide : 4000 ≤ 9000)
  have h2 := hb.mono (by decide : 4000 ≤ 9000)
  refine eq_of_to fun Q hQ => run_to d__law_times rfl ?_
  simp only [c__law_times, w_int, w_bl, w_non, w_no, w_str, w_nil, w_one, w_var, toVar_some, w_glob, toGl_some, toTup_tup, toBl_true, toBl_false, w_cons, w_tup, w_lst, w_bin, w_cmp, w_chain, w_not, w_and, w_or, w_ife, toInt_int, w_neg, w_idx, w_slice, w_isi, w_call, w_blt, toSeq_tup, w_star, w_rev, onNx_nx, onNx_rt, onNx_ct, x_skip, x_seq, toSl_some, x_set, x_setC, x_par, x_ret, x_expr, x_cont, x_sif, onRt_rt, onRt_nx, onTurn_nx, onTurn_ct, onTurn_rt, lay, layN, List.map_cons, List.map_nil, List.getElem?_cons_zero, List.getElem?_cons_succ, Nat.sub_self, List.replicate_zero, List.replicate_succ, List.append_nil, List.cons_append, List.nil_append, List.set_cons_zero, List.set_cons_succ, Nat.reduceSub, to_ok, wipeP, true_and, q_num, q_den, w_mul h1.num h2.num, w_mul (a := (a.den : Int)) (by simpa using h1.den) (b := (b.den : Int)) (by simpa using h2.den)]
  rw [← Int.natCast_mul, ratio_ok (Nat.mul_ne_zero a.den_nz b.den_nz) (bound_den ha hb), to_ok, ← Rat.mul_def']
  exact hQ
theorem lunder_ok (ha : W 4000 a) (hb : W 4000 b) : runF T (n + 1) 61 [q a, q b] s = .ok (.bl (decide (a < b))) s := by
  have h1 := ha.mono (by decide : 4000 ≤ 9000)
  have h2 := hb.mono (by decide : 4000 ≤ 9000)
  refine eq_of_to fun Q hQ => run_to d__law_under rfl ?_
  simp only [c__law_under, w_int, w_bl, w_non, w_no, w_str, w_nil, w_one, w_var, toVar_some, w_glob, toGl_some, toTup_tup, toBl_true, toBl_false, w_cons, w_tup, w_lst, w_bin, w_cmp, w_chain, w_not, w_and, w_or, w_ife, toInt_int, w_neg, w_idx, w_slice, w_isi, w_call, w_blt, toSeq_tup, w_star, w_rev, onNx_nx, onNx_rt, onNx_ct, x_skip, x_seq, toSl_some, x_set, x_setC, x_par, x_ret, x_expr, x_cont, x_sif, onRt_rt, onRt_nx, onTurn_nx, onTurn_ct, onTurn_rt, lay, layN, List.map_cons, List.map_nil, List.getElem?_cons_zero, List.getElem?_cons_succ, Nat.sub_self, List.replicate_zero, List.replicate_succ, List.append_nil, List.cons_append, List.nil_append, List.set_cons_zero, List.set_cons_succ, Nat.reduceSub, to_ok, wipeP, true_and, q_num, q_den, w_mul h1.num (b := (b.den : Int)) (by simpa using h2.den), w_mul h2.num (b := (a.den : Int)) (by simpa using h1.den), w_lt]
  rw [← (decide_eq_decide.mpr (Rat.lt_iff a b))]
  exact hQ
/-! sums -/
def S : List Rat → Rat
  | [] => 0
  | x :: l => x + S l
theorem S_snoc {x : Rat} : ∀ {l : List Rat}, S (l ++ [x]) = S l + x
  | [] => by simp only [List.nil_append, S]; grind
  | y :: l => by simp only [List.cons_append, S, S_snoc]; grind
theorem S_app {l : List Rat} : ∀ {m : List Rat}, S (m ++ l) = S m + S l
  | [] => by simp only [List.nil_append, S]; grind
  | y :: m => by simp only [List.cons_append, S, S_app]; grind
theorem W_S {k : Nat} : ∀ {l : List Rat}, (∀ x ∈ l, W k x) → W (1 + l.length * (k + 1)) (S l)
  | [], _ => W.zero.mono (by omega)
  | x :: l, h => by
    have h1 := (h x List.mem_cons_self).add (W_S fun y hy => h y (List.mem_cons_of_mem _ hy))
    refine h1.mono ?_
    rw [List.length_cons, Nat.add_mul]
    omega
theorem W_St {k m j : Nat} {l : List Rat} (h : ∀ x ∈ l, W k x) (hl : l.length ≤ m) (hk : 1 + m * (k + 1) ≤ j) : W j (S l) := by
  refine (W_S h).mono (Nat.le_trans ?_ hk)
  have := Nat.mul_le_mul_right (k + 1) hl
  omega
theorem q_zero : q 0 = .tup [.int 0, .int 1] := rfl
theorem q_one : q 1 = .tup [.int 1, .int 1] := rfl
theorem sum_ok {i k : Nat} {l : List Rat} (hi : At s i (l.map q)) (hw : ∀ x ∈ l, W k x) (hk : k ≤ 4000) (hl : 1 + l.length * (k + 1) ≤ 4000) : runF T (n + 4) 9 [.lst i] s = .ok (q (S l)) s := by
  refine eq_of_to fun Q hQ => run_to d_sum_in rfl ?_
  simp only [c_sum_in, w_int, w_bl, w_non, w_no, w_str, w_nil, w_one, w_var, toVar_some, w_glob, toGl_some, toTup_tup, toBl_true, toBl_false, w_cons, w_tup, w_lst, w_bin, w_cmp, w_chain, w_not, w_and, w_or, w_ife, toInt_int, w_neg, w_idx, w_slice, w_isi, w_call, w_blt, toSeq_tup, w_star, w_rev, onNx_nx, onNx_rt, onNx_ct, x_skip, x_seq, toSl_some, x_set, x_setC, x_par, x_ret, x_expr, x_cont, x_sif, onRt_rt, onRt_nx, onTurn_nx, onTurn_ct, onTurn_rt, lay, layN, List.map_cons, List.map_nil, List.getElem?_cons_zero, List.getElem?_cons_succ, Nat.sub_self, List.replicate_zero, List.replicate_succ, List.append_nil, List.cons_append, List.nil_append, List.set_cons_zero, List.set_cons_succ, Nat.reduceSub, to_ok, wipeP, true_and]
  refine x_for l q (fun s' => s' = s) (fun k σ s' => s' = s ∧ ∃ o, σ = [some (.lst i), some (q (S (l.take k))), o]) ?_ (fun k σ s' h => h.1) (fun k x σ s' hx ⟨e, o, eσ⟩ => ?_) (fun σ s' ⟨e, o, eσ⟩ => ?_)
  · simp only [j_seq, w_int, w_bl, w_non, w_no, w_str, w_nil, w_one, w_var, toVar_some, w_glob, toGl_some, toTup_tup, toBl_true, toBl_false, w_cons, w_tup, w_lst, w_bin, w_cmp, w_chain, w_not, w_and, w_or, w_ife, toInt_int, w_neg, w_idx, w_slice, w_isi, w_call, w_blt, toSeq_tup, w_star, w_rev, onNx_nx, onNx_rt, onNx_ct, x_skip, x_seq, toSl_some, x_set, x_setC, x_par, x_ret, x_expr, x_cont, x_sif, onRt_rt, onRt_nx, onTurn_nx, onTurn_ct, onTurn_rt, lay, layN, List.map_cons, List.map_nil, List.getElem?_cons_zero, List.getElem?_cons_succ, Nat.sub_self, List.replicate_zero, List.replicate_succ, List.append_nil, List.cons_append, List.nil_append, List.set_cons_zero, List.set_cons_succ, Nat.reduceSub, to_ok, wipeP, true_and]
    exact ⟨_, hi.getL, by simp [It.most, hi.getL], sees_l (fun s' e => e ▸ hi), none, rfl⟩
  · subst e; subst eσ
    have hm := List.mem_of_getElem? hx
    simp only [w_int, w_bl, w_non, w_no, w_str, w_nil, w_one, w_var, toVar_some, w_glob, toGl_some, toTup_tup, toBl_true, toBl_false, w_cons, w_tup, w_lst, w_bin, w_cmp, w_chain, w_not, w_and, w_or, w_ife, toInt_int, w_neg, w_idx, w_slice, w_isi, w_call, w_blt, toSeq_tup, w_star, w_rev, onNx_nx, onNx_rt, onNx_ct, x_skip, x_seq, toSl_some, x_set, x_setC, x_par, x_ret, x_expr, x_cont, x_sif, onRt_rt, onRt_nx, onTurn_nx, onTurn_ct, onTurn_rt, lay, layN, List.map_cons, List.map_nil, List.getElem?_cons_zero, List.getElem?_cons_succ, Nat.sub_self, List.replicate_zero, List.replicate_succ, List.append_nil, List.cons_append, List.nil_append, List.set_cons_zero, List.set_cons_succ, Nat.reduceSub, to_ok, wipeP, true_and]
    have h1 : W 4000 (S (l.take k)) := W_St (m := l.length) (fun y hy => hw y (List.mem_of_mem_take hy)) (by simp; omega) hl
    rw [add_ok h1 ((hw x hm).mono hk)]
    simp only [w_int, w_bl, w_non, w_no, w_str, w_nil, w_one, w_var, toVar_some, w_glob, toGl_some, toTup_tup, toBl_true, toBl_false, w_cons, w_tup, w_lst, w_bin, w_cmp, w_chain, w_not, w_and, w_or, w_ife, toInt_int, w_neg, w_idx, w_slice, w_isi, w_call, w_blt, toSeq_tup, w_star, w_rev, onNx_nx, onNx_rt, onNx_ct, x_skip, x_seq, toSl_some, x_set, x_setC, x_par, x_ret, x_expr, x_cont, x_sif, onRt_rt, onRt_nx, onTurn_nx, onTurn_ct, onTurn_rt, lay, layN, List.map_cons, List.map_nil, List.getElem?_cons_zero, List.getElem?_cons_succ, Nat.sub_self, List.replicate_zero, List.replicate_succ, List.append_nil, List.cons_append, List.nil_append, List.set_cons_zero, List.set_cons_succ, Nat.reduceSub, to_ok, wipeP, true_and]
    refine ⟨some (q x), ?_⟩
    rw [List.take_add_one, hx, Option.toList_some, S_snoc]
  · subst e; subst eσ
    simp only [w_int, w_bl, w_non, w_no, w_str, w_nil, w_one, w_var, toVar_some, w_glob, toGl_some, toTup_tup, toBl_true, toBl_false, w_cons, w_tup, w_lst, w_bin, w_cmp, w_chain, w_not, w_and, w_or, w_ife, toInt_int, w_neg, w_idx, w_slice, w_isi, w_call, w_blt, toSeq_tup, w_star, w_rev, onNx_nx, onNx_rt, onNx_ct, x_skip, x_seq, toSl_some, x_set, x_setC, x_par, x_ret, x_expr, x_cont, x_sif, onRt_rt, onRt_nx, onTurn_nx, onTurn_ct, onTurn_rt, lay, layN, List.map_cons, List.map_nil, List.getElem?_cons_zero, List.getElem?_cons_succ, Nat.sub_self, List.replicate_zero, List.replicate_succ, List.append_nil, List.cons_append, List.nil_append, List.set_cons_zero, List.set_cons_succ, Nat.reduceSub, to_ok, wipeP, true_and, List.take_length]
    exact hQ
theorem lsum_ok {i k : Nat} {l : List Rat} (hi : At s i (l.map q)) (hw : ∀ x ∈ l, W k x) (hk : k ≤ 4000) (hl : 1 + l.length * (k + 1) ≤ 4000) : runF T (n + 3) 62 [.lst i] s = .ok (q (S l)) s := by
  refine eq_of_to fun Q hQ => run_to d__law_sum rfl ?_
  simp only [c__law_sum, w_int, w_bl, w_non, w_no, w_str, w_nil, w_one, w_var, toVar_some, w_glob, toGl_some, toTup_tup, toBl_true, toBl_false, w_cons, w_tup, w_lst, w_bin, w_cmp, w_chain, w_not, w_and, w_or, w_ife, toInt_int, w_neg, w_idx, w_slice, w_isi, w_call, w_blt, toSeq_tup, w_star, w_rev, onNx_nx, onNx_rt, onNx_ct, x_skip, x_seq, toSl_some, x_set, x_setC, x_par, x_ret, x_expr, x_cont, x_sif, onRt_rt, onRt_nx, onTurn_nx, onTurn_ct, onTurn_rt, lay, layN, List.map_cons, List.map_nil, List.getElem?_cons_zero, List.getElem?_cons_succ, Nat.sub_self, List.replicate_zero, List.replicate_succ, List.append_nil, List.cons_append, List.nil_append, List.set_cons_zero, List.set_cons_succ, Nat.reduceSub, to_ok, wipeP, true_and]
  refine ⟨by simp [cap], ?_⟩
  refine x_for l q (fun s' => s' = s) (fun k σ s' => s' = s ∧ ∃ o, σ = [some (.lst i), some (q (S (l.take k))), o]) ?_ (fun k σ s' h => h.1) (fun k x σ s' hx ⟨e, o, eσ⟩ => ?_) (fun σ s' ⟨e, o, eσ⟩ => ?_)
  · simp only [j_seq, w_int, w_bl, w_non, w_no, w_str, w_nil, w_one, w_var, toVar_some, w_glob, toGl_some, toTup_tup, toBl_true, toBl_false, w_cons, w_tup, w_lst, w_bin, w_cmp, w_chain, w_not, w_and, w_or, w_ife, toInt_int, w_neg, w_idx, w_slice, w_isi, w_call, w_blt, toSeq_tup, w_star, w_rev, onNx_nx, onNx_rt, onNx_ct, x_skip, x_seq, toSl_some, x_set, x_setC, x_par, x_ret, x_expr, x_cont, x_sif, onRt_rt, onRt_nx, onTurn_nx, onTurn_ct, onTurn_rt, lay, layN, List.map_cons, List.map_nil, List.getElem?_cons_zero, List.getElem?_cons_succ, Nat.sub_self, List.replicate_zero, List.replicate_succ, List.append_nil, List.cons_append, List.nil_append, List.set_cons_zero, List.set_cons_succ, Nat.reduceSub, to_ok, wipeP, true_and]
    exact ⟨_, hi.getL, by simp [It.most, hi.getL], sees_l (fun s' e => e ▸ hi), none, rfl⟩
  · subst e; subst eσ
    have hm := List.mem_of_getElem? hx
    simp only [w_int, w_bl, w_non, w_no, w_str, w_nil, w_one, w_var, toVar_some, w_glob, toGl_some, toTup_tup, toBl_true, toBl_false, w_cons, w_tup, w_lst, w_bin, w_cmp, w_chain, w_not, w_and, w_or, w_ife, toInt_int, w_neg, w_idx, w_slice, w_isi, w_call, w_blt, toSeq_tup, w_star, w_rev, onNx_nx, onNx_rt, onNx_ct, x_skip, x_seq, toSl_some, x_set, x_setC, x_par, x_ret, x_expr, x_cont, x_sif, onRt_rt, onRt_nx, onTurn_nx, onTurn_ct, onTurn_rt, lay, layN, List.map_cons, List.map_nil, List.getElem?_cons_zero, List.getElem?_cons_succ, Nat.sub_self, List.replicate_zero, List.replicate_succ, List.append_nil, List.cons_append, List.nil_append, List.set_cons_zero, List.set_cons_succ, Nat.reduceSub, to_ok, wipeP, true_and]
    have h1 : W 4000 (S (l.take k)) := W_St (m := l.length) (fun y hy => hw y (List.mem_of_mem_take hy)) (by simp; omega) hl
    rw [plus_ok h1 ((hw x hm).mono hk)]
    simp only [w_int, w_bl, w_non, w_no, w_str, w_nil, w_one, w_var, toVar_some, w_glob, toGl_some, toTup_tup, toBl_true, toBl_false, w_cons, w_tup, w_lst, w_bin, w_cmp, w_chain, w_not, w_and, w_or, w_ife, toInt_int, w_neg, w_idx, w_slice, w_isi, w_call, w_blt, toSeq_tup, w_star, w_rev, onNx_nx, onNx_rt, onNx_ct, x_skip, x_seq, toSl_some, x_set, x_setC, x_par, x_ret, x_expr, x_cont, x_sif, onRt_rt, onRt_nx, onTurn_nx, onTurn_ct, onTurn_rt, lay, layN, List.map_cons, List.map_nil, List.getElem?_cons_zero, List.getElem?_cons_succ, Nat.sub_self, List.replicate_zero, List.replicate_succ, List.append_nil, List.cons_append, List.nil_append, List.set_cons_zero, List.set_cons_succ, Nat.reduceSub, to_ok, wipeP, true_and]
    refine ⟨some (q x), ?_⟩
    rw [List.take_add_one, hx, Option.toList_some, S_snoc]
  · subst e; subst eσ
    simp only [w_int, w_bl, w_non, w_no, w_str, w_nil, w_one, w_var, toVar_some, w_glob, toGl_some, toTup_tup, toBl_true, toBl_false, w_cons, w_tup, w_lst, w_bin, w_cmp, w_chain, w_not, w_and, w_or, w_ife, toInt_int, w_neg, w_idx, w_slice, w_isi, w_call, w_blt, toSeq_tup, w_star, w_rev, onNx_nx, onNx_rt, onNx_ct, x_skip, x_seq, toSl_some, x_set, x_setC, x_par, x_ret, x_expr, x_cont, x_sif, onRt_rt, onRt_nx, onTurn_nx, onTurn_ct, onTurn_rt, lay, layN, List.map_cons, List.map_nil, List.getElem?_cons_zero, List.getElem?_cons_succ, Nat.sub_self, List.replicate_zero, List.replicate_succ, List.append_nil, List.cons_append, List.nil_append, List.set_cons_zero, List.set_cons_succ, Nat.reduceSub, to_ok, wipeP, true_and, List.take_length]
    exact hQ
/-! is_fraction -/
theorem isint_ok {i : Int} : runF T (n + 1) 0 [.int i] s = .ok (.bl true) s := by
  refine eq_of_to fun Q hQ => run_to d_is_integer rfl ?_
  simp only [c_is_integer, w_int, w_bl, w_non, w_no, w_str, w_nil, w_one, w_var, toVar_some, w_glob, toGl_some, toTup_tup, toBl_true, toBl_false, w_cons, w_tup, w_lst, w_bin, w_cmp, w_chain, w_not, w_and, w_or, w_ife, toInt_int, w_neg, w_idx, w_slice, w_isi, w_call, w_blt, toSeq_tup, w_star, w_rev, onNx_nx, onNx_rt, onNx_ct, x_skip, x_seq, toSl_some, x_set, x_setC, x_par, x_ret, x_expr, x_cont, x_sif, onRt_rt, onRt_nx, onTurn_nx, onTurn_ct, onTurn_rt, lay, layN, List.map_cons, List.map_nil, List.getElem?_cons_zero, List.getElem?_cons_succ, Nat.sub_self, List.replicate_zero, List.replicate_succ, List.append_nil, List.cons_append, List.nil_append, List.set_cons_zero, List.set_cons_succ, Nat.reduceSub, to_ok, wipeP, true_and]
  exact ⟨true, rfl, false, rfl, hQ⟩
theorem isTy_tup {t : Ty} {xs : List PV} : isTyS s t (.tup xs) = some (isTy t (.tup xs)) := rfl
theorem len_tup {xs : List PV} {Q : PV → Sto → Prop} : (evBlt .len [.tup xs] s).to Q = Q (.int (xs.length : Int)) s := by simp only [evBlt, seqOf, to_ok]
theorem len_lst {i : Nat} {xs : List PV} {Q : PV → Sto → Prop} (h : At s i xs) : (evBlt .len [.lst i] s).to Q = Q (.int (xs.length : Int)) s := by simp only [evBlt, h.seq, to_ok]
theorem bools_map {α : Type} {f : α → Bool} : ∀ {l : List α}, bools (l.map fun a => .bl (f a)) = some (l.map f)
  | [] => rfl
  | a :: l => by simp only [List.map_cons, bools, bools_map]
theorem all_lst {α : Type} {i : Nat} {l : List α} {f : α → Bool} {Q : PV → Sto → Prop} (h : At s i (l.map fun a => .bl (f a))) : (evBlt .all [.lst i] s).to Q = Q (.bl (l.all f)) s := by
  simp only [evBlt, h.getL, bools_map, to_ok, List.all_map]
  rfl
theorem any_lst {α : Type} {i : Nat} {l : List α} {f : α → Bool} {Q : PV → Sto → Prop} (h : At s i (l.map fun a => .bl (f a))) : (evBlt .any [.lst i] s).to Q = Q (.bl (l.any f)) s := by
  simp only [evBlt, h.getL, bools_map, to_ok, List.any_map]
  rfl
theorem fm_some {α β : Type} {f : α → β} {l : List α} : l.filterMap (fun a => some (f a)) = l.map f := by
  induction l with
  | nil => rfl
  | cons a l ih => simp [ih]
theorem isfrac_ok (ha : W 9000 a) : Gives (runF T (n + 2) 3 [q a] s) s (.bl true) := by
  refine run_to d_is_fraction rfl ?_
  simp only [c_is_fraction, w_int, w_bl, w_non, w_no, w_str, w_nil, w_one, w_var, toVar_some, w_glob, toGl_some, toTup_tup, toBl_true, toBl_false, w_cons, w_tup, w_lst, w_bin, w_cmp, w_chain, w_not, w_and, w_or, w_ife, toInt_int, w_neg, w_idx, w_slice, w_isi, w_call, w_blt, toSeq_tup, w_star, w_rev, onNx_nx, onNx_rt, onNx_ct, x_skip, x_seq, toSl_some, x_set, x_setC, x_par, x_ret, x_expr, x_cont, x_sif, onRt_rt, onRt_nx, onTurn_nx, onTurn_ct, onTurn_rt, lay, layN, List.map_cons, List.map_nil, List.getElem?_cons_zero, List.getElem?_cons_succ, Nat.sub_self, List.replicate_zero, List.replicate_succ, List.append_nil, List.cons_append, List.nil_append, List.set_cons_zero, List.set_cons_succ, Nat.reduceSub, to_ok, wipeP, true_and, q, isTy_tup, len_tup, ne_int, List.length_cons, List.length_nil]
  refine ⟨true, rfl, ?_⟩
  simp only [w_int, w_bl, w_non, w_no, w_str, w_nil, w_one, w_var, toVar_some, w_glob, toGl_some, toTup_tup, toBl_true, toBl_false, w_cons, w_tup, w_lst, w_bin, w_cmp, w_chain, w_not, w_and, w_or, w_ife, toInt_int, w_neg, w_idx, w_slice, w_isi, w_call, w_blt, toSeq_tup, w_star, w_rev, onNx_nx, onNx_rt, onNx_ct, x_skip, x_seq, toSl_some, x_set, x_setC, x_par, x_ret, x_expr, x_cont, x_sif, onRt_rt, onRt_nx, onTurn_nx, onTurn_ct, onTurn_rt, lay, layN, List.map_cons, List.map_nil, List.getElem?_cons_zero, List.getElem?_cons_succ, Nat.sub_self, List.replicate_zero, List.replicate_succ, List.append_nil, List.cons_append, List.nil_append, List.set_cons_zero, List.set_cons_succ, Nat.reduceSub, to_ok, wipeP, true_and, Nat.reduceAdd, Int.cast_ofNat_Int, decide_true, Bool.not_true]
  refine comp_pure [a.num, (a.den : Int)] PV.int (fun _ => some (.bl true)) ?_ (by simp [cap]) (fun x hx s' hs => ?_) fun i s' hf hA hi => ?_
  · simp only [j_seq, w_int, w_bl, w_non, w_no, w_str, w_nil, w_one, w_var, toVar_some, w_glob, toGl_some, toTup_tup, toBl_true, toBl_false, w_cons, w_tup, w_lst, w_bin, w_cmp, w_chain, w_not, w_and, w_or, w_ife, toInt_int, w_neg, w_idx, w_slice, w_isi, w_call, w_blt, toSeq_tup, w_star, w_rev, onNx_nx, onNx_rt, onNx_ct, x_skip, x_seq, toSl_some, x_set, x_setC, x_par, x_ret, x_expr, x_cont, x_sif, onRt_rt, onRt_nx, onTurn_nx, onTurn_ct, onTurn_rt, lay, layN, List.map_cons, List.map_nil, List.getElem?_cons_zero, List.getElem?_cons_succ, Nat.sub_self, List.replicate_zero, List.replicate_succ, List.append_nil, List.cons_append, List.nil_append, List.set_cons_zero, List.set_cons_succ, Nat.reduceSub, to_ok, wipeP, true_and]
    exact ⟨rfl, sees_t (L := [a.num, (a.den : Int)]), .refl⟩
  · simp only [Turn, w_int, w_bl, w_non, w_no, w_str, w_nil, w_one, w_var, toVar_some, w_glob, toGl_some, toTup_tup, toBl_true, toBl_false, w_cons, w_tup, w_lst, w_bin, w_cmp, w_chain, w_not, w_and, w_or, w_ife, toInt_int, w_neg, w_idx, w_slice, w_isi, w_call, w_blt, toSeq_tup, w_star, w_rev, onNx_nx, onNx_rt, onNx_ct, x_skip, x_seq, toSl_some, x_set, x_setC, x_par, x_ret, x_expr, x_cont, x_sif, onRt_rt, onRt_nx, onTurn_nx, onTurn_ct, onTurn_rt, lay, layN, List.map_cons, List.map_nil, List.getElem?_cons_zero, List.getElem?_cons_succ, Nat.sub_self, List.replicate_zero, List.replicate_succ, List.append_nil, List.cons_append, List.nil_append, List.set_cons_zero, List.set_cons_succ, Nat.reduceSub, to_ok, wipeP, true_and, isint_ok]
    exact .refl
  · rw [fm_some] at hA
    rw [all_lst hA]
    simp only [w_int, w_bl, w_non, w_no, w_str, w_nil, w_one, w_var, toVar_some, w_glob, toGl_some, toTup_tup, toBl_true, toBl_false, w_cons, w_tup, w_lst, w_bin, w_cmp, w_chain, w_not, w_and, w_or, w_ife, toInt_int, w_neg, w_idx, w_slice, w_isi, w_call, w_blt, toSeq_tup, w_star, w_rev, onNx_nx, onNx_rt, onNx_ct, x_skip, x_seq, toSl_some, x_set, x_setC, x_par, x_ret, x_expr, x_cont, x_sif, onRt_rt, onRt_nx, onTurn_nx, onTurn_ct, onTurn_rt, lay, layN, List.map_cons, List.map_nil, List.getElem?_cons_zero, List.getElem?_cons_succ, Nat.sub_self, List.replicate_zero, List.replicate_succ, List.append_nil, List.cons_append, List.nil_append, List.set_cons_zero, List.set_cons_succ, Nat.reduceSub, to_ok, wipeP, true_and, List.all_cons, List.all_nil, Bool.and_self]
    have hd := den_pos a
    have e1 : evIdx (.tup [.int a.num, .int (a.den : Int)]) (.int 1) s' = .ok (.int (a.den : Int)) s' := rfl
    have e0 : evIdx (.tup [.int a.num, .int (a.den : Int)]) (.int 0) s' = .ok (.int a.num) s' := rfl
    have e2 : Int.gcd a.num (a.den : Int) = 1 := a.reduced
    simp only [w_int, w_bl, w_non, w_no, w_str, w_nil, w_one, w_var, toVar_some, w_glob, toGl_some, toTup_tup, toBl_true, toBl_false, w_cons, w_tup, w_lst, w_bin, w_cmp, w_chain, w_not, w_and, w_or, w_ife, toInt_int, w_neg, w_idx, w_slice, w_isi, w_call, w_blt, toSeq_tup, w_star, w_rev, onNx_nx, onNx_rt, onNx_ct, x_skip, x_seq, toSl_some, x_set, x_setC, x_par, x_ret, x_expr, x_cont, x_sif, onRt_rt, onRt_nx, onTurn_nx, onTurn_ct, onTurn_rt, lay, layN, List.map_cons, List.map_nil, List.getElem?_cons_zero, List.getElem?_cons_succ, Nat.sub_self, List.replicate_zero, List.replicate_succ, List.append_nil, List.cons_append, List.nil_append, List.set_cons_zero, List.set_cons_succ, Nat.reduceSub, to_ok, wipeP, true_and, e1, e0, w_ge, decide_eq_true (by omega : (1 : Int) ≤ (a.den : Int)), common_ok (a := a.num) (b := (a.den : Int)) (by simpa using ha.den), w_eqI, e2]
    exact ⟨rfl, hf⟩
theorem needfrac_ok (ha : W 9000 a) : Gives (runF T (n + 3) 10 [q a] s) s (q a) := by
  refine run_to d_need_fraction rfl ?_
  simp only [c_need_fraction, w_int, w_bl, w_non, w_no, w_str, w_nil, w_one, w_var, toVar_some, w_glob, toGl_some, toTup_tup, toBl_true, toBl_false, w_cons, w_tup, w_lst, w_bin, w_cmp, w_chain, w_not, w_and, w_or, w_ife, toInt_int, w_neg, w_idx, w_slice, w_isi, w_call, w_blt, toSeq_tup, w_star, w_rev, onNx_nx, onNx_rt, onNx_ct, x_skip, x_seq, toSl_some, x_set, x_setC, x_par, x_ret, x_expr, x_cont, x_sif, onRt_rt, onRt_nx, onTurn_nx, onTurn_ct, onTurn_rt, lay, layN, List.map_cons, List.map_nil, List.getElem?_cons_zero, List.getElem?_cons_succ, Nat.sub_self, List.replicate_zero, List.replicate_succ, List.append_nil, List.cons_append, List.nil_append, List.set_cons_zero, List.set_cons_succ, Nat.reduceSub, to_ok, wipeP, true_and]
  refine (isfrac_ok ha).to fun s' hs => ?_
  simp only [w_int, w_bl, w_non, w_no, w_str, w_nil, w_one, w_var, toVar_some, w_glob, toGl_some, toTup_tup, toBl_true, toBl_false, w_cons, w_tup, w_lst, w_bin, w_cmp, w_chain, w_not, w_and, w_or, w_ife, toInt_int, w_neg, w_idx, w_slice, w_isi, w_call, w_blt, toSeq_tup, w_star, w_rev, onNx_nx, onNx_rt, onNx_ct, x_skip, x_seq, toSl_some, x_set, x_setC, x_par, x_ret, x_expr, x_cont, x_sif, onRt_rt, onRt_nx, onTurn_nx, onTurn_ct, onTurn_rt, lay, layN, List.map_cons, List.map_nil, List.getElem?_cons_zero, List.getElem?_cons_succ, Nat.sub_self, List.replicate_zero, List.replicate_succ, List.append_nil, List.cons_append, List.nil_append, List.set_cons_zero, List.set_cons_succ, Nat.reduceSub, to_ok, wipeP, true_and]
  exact hs
end
end K69

namespace K69
open PySem FI GI
def row (p : Rat × Rat) : PV := .tup [q p.1, q p.2]
def lad (L : List (Rat × Rat)) : PV := .tup (L.map row)
def mk (p : Rat × Rat) : PV := .tup [.str "mark", q p.1, q p.2]
section
variable {n : Nat} {a b : Rat} {s : Sto} {p : Rat × Rat} {L : List (Rat × Rat)} {Q : PV → Sto → Prop}
theorem row_0 : (evIdx (row p) (.int 0) s).to Q = Q (q p.1) s := rfl
theorem row_1 : (evIdx (row p) (.int 1) s).to Q = Q (q p.2) s := rfl
theorem glob0 : T.consts[0]? = some (q 0) := rfl
theorem glob1 : T.consts[1]? = some (.str "mark") := rfl
theorem glob2 : T.consts[2]? = some (.str "stretch") := rfl
theorem glob3 : T.consts[3]? = some (.int 10) := rfl
theorem half_num : (1 / 2 : Rat).num = 1 := by decide +kernel
theorem half_den : (1 / 2 : Rat).den = 2 := by decide +kernel
theorem glob4 : T.consts[4]? = some (q (1 / 2)) := by
  rw [q, half_num, half_den]
  rfl
theorem glob5 : T.consts[5]? = some (.int 36) := rfl
theorem glob6 : T.consts[6]? = some (.int 10) := rfl
theorem glob7 : T.consts[7]? = some (.int 2) := rfl
theorem glob8 : T.consts[8]? = some (.int 12) := rfl
theorem glob9 : T.consts[9]? = some (q 1) := rfl
theorem isTy_row {t : Ty} : isTyS s t (row p) = some (isTy t (row p)) := rfl
theorem len_row : (evBlt .len [row p] s).to Q = Q (.int 2) s := rfl
theorem W0 : W 4000 0 := W.zero.mono (by decide)
theorem isweight_ok (ha : W 4000 a) (h : 0 < a) : Gives (runF T (n + 3) 25 [q a] s) s (.bl true) := by
  refine run_to d_is_weight rfl ?_
  simp only [c_is_weight, w_int, w_bl, w_non, w_no, w_str, w_nil, w_one, w_var, toVar_some, w_glob, toGl_some, toTup_tup, toBl_true, toBl_false, w_cons, w_tup, w_lst, w_bin, w_cmp, w_chain, w_not, w_and, w_or, w_ife, toInt_int, w_neg, w_idx, w_slice, w_isi, w_call, w_blt, toSeq_tup, w_star, w_rev, onNx_nx, onNx_rt, onNx_ct, x_skip, x_seq, toSl_some, x_set, x_setC, x_par, x_ret, x_expr, x_cont, x_sif, onRt_rt, onRt_nx, onTurn_nx, onTurn_ct, onTurn_rt, lay, layN, List.map_cons, List.map_nil, List.getElem?_cons_zero, List.getElem?_cons_succ, Nat.sub_self, List.replicate_zero, List.replicate_succ, List.append_nil, List.cons_append, List.nil_append, List.set_cons_zero, List.set_cons_succ, Nat.reduceSub, to_ok, wipeP, true_and, glob0, glob1, glob2, glob3, glob4, glob5, glob6, glob7, glob8, glob9]
  refine (isfrac_ok (ha.mono (by decide))).to fun s' hs => ?_
  try simp only [w_int, w_bl, w_non, w_no, w_str, w_nil, w_one, w_var, toVar_some, w_glob, toGl_some, toTup_tup, toBl_true, toBl_false, w_cons, w_tup, w_lst, w_bin, w_cmp, w_chain, w_not, w_and, w_or, w_ife, toInt_int, w_neg, w_idx, w_slice, w_isi, w_call, w_blt, toSeq_tup, w_star, w_rev, onNx_nx, onNx_rt, onNx_ct, x_skip, x_seq, toSl_some, x_set, x_setC, x_par, x_ret, x_expr, x_cont, x_sif, onRt_rt, onRt_nx, onTurn_nx, onTurn_ct, onTurn_rt, lay, layN, List.map_cons, List.map_nil, List.getElem?_cons_zero, List.getElem?_cons_succ, Nat.sub_self, List.replicate_zero, List.replicate_succ, List.append_nil, List.cons_append, List.nil_append, List.set_cons_zero, List.set_cons_succ, Nat.reduceSub, to_ok, wipeP, true_and, glob0, glob1, glob2, glob3, glob4, glob5, glob6, glob7, glob8, glob9]
  rw [under_ok W0 ha]
  simp only [w_int, w_bl, w_non, w_no, w_str, w_nil, w_one, w_var, toVar_some, w_glob, toGl_some, toTup_tup, toBl_true, toBl_false, w_cons, w_tup, w_lst, w_bin, w_cmp, w_chain, w_not, w_and, w_or, w_ife, toInt_int, w_neg, w_idx, w_slice, w_isi, w_call, w_blt, toSeq_tup, w_star, w_rev, onNx_nx, onNx_rt, onNx_ct, x_skip, x_seq, toSl_some, x_set, x_setC, x_par, x_ret, x_expr, x_cont, x_sif, onRt_rt, onRt_nx, onTurn_nx, onTurn_ct, onTurn_rt, lay, layN, List.map_cons, List.map_nil, List.getElem?_cons_zero, List.getElem?_cons_succ, Nat.sub_self, List.replicate_zero, List.replicate_succ, List.append_nil, List.cons_append, List.nil_append, List.set_cons_zero, List.set_cons_succ, Nat.reduceSub, to_ok, wipeP, true_and, glob0, glob1, glob2, glob3, glob4, glob5, glob6, glob7, glob8, glob9, h, decide_true]
  exact hs
theorem isoffer_ok (h1 : W 4000 p.1) (h2 : W 4000 p.2) (h : 0 < p.2) : Gives (runF T (n + 4) 29 [row p] s) s (.bl true) := by
  refine run_to d_is_offer rfl ?_
  simp only [c_is_offer, w_int, w_bl, w_non, w_no, w_str, w_nil, w_one, w_var, toVar_some, w_glob, toGl_some, toTup_tup, toBl_true, toBl_false, w_cons, w_tup, w_lst, w_bin, w_cmp, w_chain, w_not, w_and, w_or, w_ife, toInt_int, w_neg, w_idx, w_slice, w_isi, w_call, w_blt, toSeq_tup, w_star, w_rev, onNx_nx, onNx_rt, onNx_ct, x_skip, x_seq, toSl_some, x_set, x_setC, x_par, x_ret, x_expr, x_cont, x_sif, onRt_rt, onRt_nx, onTurn_nx, onTurn_ct, onTurn_rt, lay, layN, List.map_cons, List.map_nil, List.getElem?_cons_zero, List.getElem?_cons_succ, Nat.sub_self, List.replicate_zero, List.replicate_succ, List.append_nil, List.cons_append, List.nil_append, List.set_cons_zero, List.set_cons_succ, Nat.reduceSub, to_ok, wipeP, true_and, glob0, glob1, glob2, glob3, glob4, glob5, glob6, glob7, glob8, glob9, isTy_row, len_row, row_0, row_1, w_eqI]
  refine ⟨true, rfl, ?_⟩
  simp only [w_int, w_bl, w_non, w_no, w_str, w_nil, w_one, w_var, toVar_some, w_glob, toGl_some, toTup_tup, toBl_true, toBl_false, w_cons, w_tup, w_lst, w_bin, w_cmp, w_chain, w_not, w_and, w_or, w_ife, toInt_int, w_neg, w_idx, w_slice, w_isi, w_call, w_blt, toSeq_tup, w_star, w_rev, onNx_nx, onNx_rt, onNx_ct, x_skip, x_seq, toSl_some, x_set, x_setC, x_par, x_ret, x_expr, x_cont, x_sif, onRt_rt, onRt_nx, onTurn_nx, onTurn_ct, onTurn_rt, lay, layN, List.map_cons, List.map_nil, List.getElem?_cons_zero, List.getElem?_cons_succ, Nat.sub_self, List.replicate_zero, List.replicate_succ, List.append_nil, List.cons_append, List.nil_append, List.set_cons_zero, List.set_cons_succ, Nat.reduceSub, to_ok, wipeP, true_and, glob0, glob1, glob2, glob3, glob4, glob5, glob6, glob7, glob8, glob9, decide_true]
  refine (isfrac_ok (h1.mono (by decide))).to fun s' hs => ?_
  try simp only [w_int, w_bl, w_non, w_no, w_str, w_nil, w_one, w_var, toVar_some, w_glob, toGl_some, toTup_tup, toBl_true, toBl_false, w_cons, w_tup, w_lst, w_bin, w_cmp, w_chain, w_not, w_and, w_or, w_ife, toInt_int, w_neg, w_idx, w_slice, w_isi, w_call, w_blt, toSeq_tup, w_star, w_rev, onNx_nx, onNx_rt, onNx_ct, x_skip, x_seq, toSl_some, x_set, x_setC, x_par, x_ret, x_expr, x_cont, x_sif, onRt_rt, onRt_nx, onTurn_nx, onTurn_ct, onTurn_rt, lay, layN, List.map_cons, List.map_nil, List.getElem?_cons_zero, List.getElem?_cons_succ, Nat.sub_self, List.replicate_zero, List.replicate_succ, List.append_nil, List.cons_append, List.nil_append, List.set_cons_zero, List.set_cons_succ, Nat.reduceSub, to_ok, wipeP, true_and, glob0, glob1, glob2, glob3, glob4, glob5, glob6, glob7, glob8, glob9]
  refine (isweight_ok h2 h).to fun s'' hs' => ?_
  first | exact ⟨rfl, hs.trans hs'⟩ | exact hs.trans hs'
/-- a ladder -/
structure Lad (L : List (Rat × Rat)) : Prop where
  len : L.length ≤ 10
  w : ∀ p ∈ L, W 20 p.1 ∧ W 20 p.2
  pos : ∀ p ∈ L, 0 < p.2
  srt : L.Pairwise fun a b => a.1 < b.1
theorem w20 {k : Nat} {r : Rat} (h : W k r) (hk : k ≤ 4000 := by decide) : W 4000 r := h.mono hk
theorem Lad.lt (h : Lad L) {i j : Nat} (hij : i < j) (hj : j < L.length) : (L[i]'(by omega)).1 < L[j].1 := List.pairwise_iff_getElem.mp h.srt i j (by omega) hj hij
theorem needlad_ok (h : Lad L) : Gives (runF T (n + 5) 30 [lad L] s) s (lad L) := by
  refine run_to d_need_ladder rfl ?_
  have hl := h.len
  have e : (decide ((10 : Int) < (L.map row).length)) = false := by simp; omega
  simp only [c_need_ladder, w_int, w_bl, w_non, w_no, w_str, w_nil, w_one, w_var, toVar_some, w_glob, toGl_some, toTup_tup, toBl_true, toBl_false, w_cons, w_tup, w_lst, w_bin, w_cmp, w_chain, w_not, w_and, w_or, w_ife, toInt_int, w_neg, w_idx, w_slice, w_isi, w_call, w_blt, toSeq_tup, w_star, w_rev, onNx_nx, onNx_rt, onNx_ct, x_skip, x_seq, toSl_some, x_set, x_setC, x_par, x_ret, x_expr, x_cont, x_sif, onRt_rt, onRt_nx, onTurn_nx, onTurn_ct, onTurn_rt, lay, layN, List.map_cons, List.map_nil, List.getElem?_cons_zero, List.getElem?_cons_succ, Nat.sub_self, List.replicate_zero, List.replicate_succ, List.append_nil, List.cons_append, List.nil_append, List.set_cons_zero, List.set_cons_succ, Nat.reduceSub, to_ok, wipeP, true_and, glob0, glob1, glob2, glob3, glob4, glob5, glob6, glob7, glob8, glob9, lad, isTy_tup, len_tup, w_gt, e]
  refine ⟨true, rfl, ?_⟩
  try simp only [w_int, w_bl, w_non, w_no, w_str, w_nil, w_one, w_var, toVar_some, w_glob, toGl_some, toTup_tup, toBl_true, toBl_false, w_cons, w_tup, w_lst, w_bin, w_cmp, w_chain, w_not, w_and, w_or, w_ife, toInt_int, w_neg, w_idx, w_slice, w_isi, w_call, w_blt, toSeq_tup, w_star, w_rev, onNx_nx, onNx_rt, onNx_ct, x_skip, x_seq, toSl_some, x_set, x_setC, x_par, x_ret, x_expr, x_cont, x_sif, onRt_rt, onRt_nx, onTurn_nx, onTurn_ct, onTurn_rt, lay, layN, List.map_cons, List.map_nil, List.getElem?_cons_zero, List.getElem?_cons_succ, Nat.sub_self, List.replicate_zero, List.replicate_succ, List.append_nil, List.cons_append, List.nil_append, List.set_cons_zero, List.set_cons_succ, Nat.reduceSub, to_ok, wipeP, true_and, glob0, glob1, glob2, glob3, glob4, glob5, glob6, glob7, glob8, glob9]
  refine x_for L.zipIdx (fun p => .tup [.int (p.2 : Int), row p.1]) (Fr [] s) (fun k σ s' => Fr [] s s' ∧ ∃ o o', σ = [some (lad L), o, o']) ?_ (fun k σ s' h => h.1) (fun k x σ s' hx ⟨hf, o, o', eσ⟩ => ?_) (fun σ s' ⟨hf, o, o', eσ⟩ => ?_)
  · simp only [evI, to_bind, w_int, w_bl, w_non, w_no, w_str, w_nil, w_one, w_var, toVar_some, w_glob, toGl_some, toTup_tup, toBl_true, toBl_false, w_cons, w_tup, w_lst, w_bin, w_cmp, w_chain, w_not, w_and, w_or, w_ife, toInt_int, w_neg, w_idx, w_slice, w_isi, w_call, w_blt, toSeq_tup, w_star, w_rev, onNx_nx, onNx_rt, onNx_ct, x_skip, x_seq, toSl_some, x_set, x_setC, x_par, x_ret, x_expr, x_cont, x_sif, onRt_rt, onRt_nx, onTurn_nx, onTurn_ct, onTurn_rt, lay, layN, List.map_cons, List.map_nil, List.getElem?_cons_zero, List.getElem?_cons_succ, Nat.sub_self, List.replicate_zero, List.replicate_succ, List.append_nil, List.cons_append, List.nil_append, List.set_cons_zero, List.set_cons_succ, Nat.reduceSub, to_ok, wipeP, true_and, glob0, glob1, glob2, glob3, glob4, glob5, glob6, glob7, glob8, glob9, seqIt]
    exact ⟨by simp [It.most], sees_en_t (L := L), .refl, none, none, rfl⟩
  · subst eσ
    have hk : k < L.length := by
      have := (List.getElem?_eq_some_iff.mp hx).1
      simpa using this
    have ex : x = (L[k], k) := by
      have := (List.getElem?_eq_some_iff.mp hx).2
      rw [← this]
      simp
    subst ex
    have hm : L[k] ∈ L := List.getElem_mem hk
    have hw := h.w _ hm
    try simp only [w_int, w_bl, w_non, w_no, w_str, w_nil, w_one, w_var, toVar_some, w_glob, toGl_some, toTup_tup, toBl_true, toBl_false, w_cons, w_tup, w_lst, w_bin, w_cmp, w_chain, w_not, w_and, w_or, w_ife, toInt_int, w_neg, w_idx, w_slice, w_isi, w_call, w_blt, toSeq_tup, w_star, w_rev, onNx_nx, onNx_rt, onNx_ct, x_skip, x_seq, toSl_some, x_set, x_setC, x_par, x_ret, x_expr, x_cont, x_sif, onRt_rt, onRt_nx, onTurn_nx, onTurn_ct, onTurn_rt, lay, layN, List.map_cons, List.map_nil, List.getElem?_cons_zero, List.getElem?_cons_succ, Nat.sub_self, List.replicate_zero, List.replicate_succ, List.append_nil, List.cons_append, List.nil_append, List.set_cons_zero, List.set_cons_succ, Nat.reduceSub, to_ok, wipeP, true_and, glob0, glob1, glob2, glob3, glob4, glob5, glob6, glob7, glob8, glob9]
    refine (isoffer_ok (w20 hw.1) (w20 hw.2) (h.pos _ hm)).to fun s1 hs1 => ?_
    simp only [w_int, w_bl, w_non, w_no, w_str, w_nil, w_one, w_var, toVar_some, w_glob, toGl_some, toTup_tup, toBl_true, toBl_false, w_cons, w_tup, w_lst, w_bin, w_cmp, w_chain, w_not, w_and, w_or, w_ife, toInt_int, w_neg, w_idx, w_slice, w_isi, w_call, w_blt, toSeq_tup, w_star, w_rev, onNx_nx, onNx_rt, onNx_ct, x_skip, x_seq, toSl_some, x_set, x_setC, x_par, x_ret, x_expr, x_cont, x_sif, onRt_rt, onRt_nx, onTurn_nx, onTurn_ct, onTurn_rt, lay, layN, List.map_cons, List.map_nil, List.getElem?_cons_zero, List.getElem?_cons_succ, Nat.sub_self, List.replicate_zero, List.replicate_succ, List.append_nil, List.cons_append, List.nil_append, List.set_cons_zero, List.set_cons_succ, Nat.reduceSub, to_ok, wipeP, true_and, glob0, glob1, glob2, glob3, glob4, glob5, glob6, glob7, glob8, glob9, w_gt]
    by_cases hk0 : k = 0
    · subst hk0
      simp only [Int.natCast_zero, decide_false, w_int, w_bl, w_non, w_no, w_str, w_nil, w_one, w_var, toVar_some, w_glob, toGl_some, toTup_tup, toBl_true, toBl_false, w_cons, w_tup, w_lst, w_bin, w_cmp, w_chain, w_not, w_and, w_or, w_ife, toInt_int, w_neg, w_idx, w_slice, w_isi, w_call, w_blt, toSeq_tup, w_star, w_rev, onNx_nx, onNx_rt, onNx_ct, x_skip, x_seq, toSl_some, x_set, x_setC, x_par, x_ret, x_expr, x_cont, x_sif, onRt_rt, onRt_nx, onTurn_nx, onTurn_ct, onTurn_rt, lay, layN, List.map_cons, List.map_nil, List.getElem?_cons_zero, List.getElem?_cons_succ, Nat.sub_self, List.replicate_zero, List.replicate_succ, List.append_nil, List.cons_append, List.nil_append, List.set_cons_zero, List.set_cons_succ, Nat.reduceSub, to_ok, wipeP, true_and, glob0, glob1, glob2, glob3, glob4, glob5, glob6, glob7, glob8, glob9, Int.lt_irrefl]
      exact ⟨hf.trans hs1, _, _, rfl⟩
    · have hp : (0 : Int) < (k : Int) := by omega
      have hlt := h.lt (by omega : k - 1 < k) hk
      have hm' : L[k - 1] ∈ L := List.getElem_mem (by omega)
      have e1 : evIdx (lad L) (.int ((k : Int) - 1)) s1 = .ok (row (L[k - 1]'(by omega))) s1 := by
        have e2 : ((k : Int) - 1) = ((k - 1 : Nat) : Int) := by omega
        rw [e2]
        simp only [evIdx, lad, seqOf]
        rw [show L2.atI (L.map row) ((k - 1 : Nat) : Int) = some (row (L[k - 1]'(by omega))) from ?_]
        simp [L2.atI, L2.ixN]
        rw [if_pos (by omega)]
        simp [List.getElem?_eq_getElem (by omega : k - 1 < L.length)]
      simp only [hp, decide_true, w_int, w_bl, w_non, w_no, w_str, w_nil, w_one, w_var, toVar_some, w_glob, toGl_some, toTup_tup, toBl_true, toBl_false, w_cons, w_tup, w_lst, w_bin, w_cmp, w_chain, w_not, w_and, w_or, w_ife, toInt_int, w_neg, w_idx, w_slice, w_isi, w_call, w_blt, toSeq_tup, w_star, w_rev, onNx_nx, onNx_rt, onNx_ct, x_skip, x_seq, toSl_some, x_set, x_setC, x_par, x_ret, x_expr, x_cont, x_sif, onRt_rt, onRt_nx, onTurn_nx, onTurn_ct, onTurn_rt, lay, layN, List.map_cons, List.map_nil, List.getElem?_cons_zero, List.getElem?_cons_succ, Nat.sub_self, List.replicate_zero, List.replicate_succ, List.append_nil, List.cons_append, List.nil_append, List.set_cons_zero, List.set_cons_succ, Nat.reduceSub, to_ok, wipeP, true_and, glob0, glob1, glob2, glob3, glob4, glob5, glob6, glob7, glob8, glob9, w_sub, e1, row_0, under_ok (w20 (h.w _ hm').1) (w20 hw.1), hlt]
      exact ⟨hf.trans hs1, _, _, rfl⟩
  · subst eσ
    try simp only [w_int, w_bl, w_non, w_no, w_str, w_nil, w_one, w_var, toVar_some, w_glob, toGl_some, toTup_tup, toBl_true, toBl_false, w_cons, w_tup, w_lst, w_bin, w_cmp, w_chain, w_not, w_and, w_or, w_ife, toInt_int, w_neg, w_idx, w_slice, w_isi, w_call, w_blt, toSeq_tup, w_star, w_rev, onNx_nx, onNx_rt, onNx_ct, x_skip, x_seq, toSl_some, x_set, x_setC, x_par, x_ret, x_expr, x_cont, x_sif, onRt_rt, onRt_nx, onTurn_nx, onTurn_ct, onTurn_rt, lay, layN, List.map_cons, List.map_nil, List.getElem?_cons_zero, List.getElem?_cons_succ, Nat.sub_self, List.replicate_zero, List.replicate_succ, List.append_nil, List.cons_append, List.nil_append, List.set_cons_zero, List.set_cons_succ, Nat.reduceSub, to_ok, wipeP, true_and, glob0, glob1, glob2, glob3, glob4, glob5, glob6, glob7, glob8, glob9]
    first | exact ⟨rfl, hf⟩ | exact hf
theorem fm_if {α β : Type} {c : α → Bool} {f : α → β} {l : List α} : l.filterMap (fun a => if c a = true then some (f a) else none) = (l.filter c).map f := by
  induction l with
  | nil => rfl
  | cons a l ih => by_cases h : c a = true <;> simp [h, ih]
theorem tuple_lst {i : Nat} {xs : List PV} (h : At s i xs) : (evBlt .tuple [.lst i] s).to Q = Q (.tup xs) s := by simp only [evBlt, h.getL, to_ok]
theorem asscore_ok (h : Lad L) : Gives (runF T (n + 6) 31 [lad L] s) s (.tup (L.map mk)) := by
  refine run_to d_as_score rfl ?_
  simp only [c_as_score, w_int, w_bl, w_non, w_no, w_str, w_nil, w_one, w_var, toVar_some, w_glob, toGl_some, toTup_tup, toBl_true, toBl_false, w_cons, w_tup, w_lst, w_bin, w_cmp, w_chain, w_not, w_and, w_or, w_ife, toInt_int, w_neg, w_idx, w_slice, w_isi, w_call, w_blt, toSeq_tup, w_star, w_rev, onNx_nx, onNx_rt, onNx_ct, x_skip, x_seq, toSl_some, x_set, x_setC, x_par, x_ret, x_expr, x_cont, x_sif, onRt_rt, onRt_nx, onTurn_nx, onTurn_ct, onTurn_rt, lay, layN, List.map_cons, List.map_nil, List.getElem?_cons_zero, List.getElem?_cons_succ, Nat.sub_self, List.replicate_zero, List.replicate_succ, List.append_nil, List.cons_append, List.nil_append, List.set_cons_zero, List.set_cons_succ, Nat.reduceSub, to_ok, wipeP, true_and, glob0, glob1, glob2, glob3, glob4, glob5, glob6, glob7, glob8, glob9]
  refine comp_pure L row (fun p => some (mk p)) ?_ (by have := h.len; simp [cap]; omega) (fun p hp s' hs => ?_) fun i s' hf hA hi => ?_
  · simp only [j_seq, w_int, w_bl, w_non, w_no, w_str, w_nil, w_one, w_var, toVar_some, w_glob, toGl_some, toTup_tup, toBl_true, toBl_false, w_cons, w_tup, w_lst, w_bin, w_cmp, w_chain, w_not, w_and, w_or, w_ife, toInt_int, w_neg, w_idx, w_slice, w_isi, w_call, w_blt, toSeq_tup, w_star, w_rev, onNx_nx, onNx_rt, onNx_ct, x_skip, x_seq, toSl_some, x_set, x_setC, x_par, x_ret, x_expr, x_cont, x_sif, onRt_rt, onRt_nx, onTurn_nx, onTurn_ct, onTurn_rt, lay, layN, List.map_cons, List.map_nil, List.getElem?_cons_zero, List.getElem?_cons_succ, Nat.sub_self, List.replicate_zero, List.replicate_succ, List.append_nil, List.cons_append, List.nil_append, List.set_cons_zero, List.set_cons_succ, Nat.reduceSub, to_ok, wipeP, true_and, glob0, glob1, glob2, glob3, glob4, glob5, glob6, glob7, glob8, glob9]
    refine (needlad_ok h).to fun s' hs => ?_
    exact ⟨by simp [It.most], sees_t, hs⟩
  · simp only [Turn, w_int, w_bl, w_non, w_no, w_str, w_nil, w_one, w_var, toVar_some, w_glob, toGl_some, toTup_tup, toBl_true, toBl_false, w_cons, w_tup, w_lst, w_bin, w_cmp, w_chain, w_not, w_and, w_or, w_ife, toInt_int, w_neg, w_idx, w_slice, w_isi, w_call, w_blt, toSeq_tup, w_star, w_rev, onNx_nx, onNx_rt, onNx_ct, x_skip, x_seq, toSl_some, x_set, x_setC, x_par, x_ret, x_expr, x_cont, x_sif, onRt_rt, onRt_nx, onTurn_nx, onTurn_ct, onTurn_rt, lay, layN, List.map_cons, List.map_nil, List.getElem?_cons_zero, List.getElem?_cons_succ, Nat.sub_self, List.replicate_zero, List.replicate_succ, List.append_nil, List.cons_append, List.nil_append, List.set_cons_zero, List.set_cons_succ, Nat.reduceSub, to_ok, wipeP, true_and, glob0, glob1, glob2, glob3, glob4, glob5, glob6, glob7, glob8, glob9, row]
    exact ⟨by simp [cap], rfl, .refl⟩
  · try simp only [w_int, w_bl, w_non, w_no, w_str, w_nil, w_one, w_var, toVar_some, w_glob, toGl_some, toTup_tup, toBl_true, toBl_false, w_cons, w_tup, w_lst, w_bin, w_cmp, w_chain, w_not, w_and, w_or, w_ife, toInt_int, w_neg, w_idx, w_slice, w_isi, w_call, w_blt, toSeq_tup, w_star, w_rev, onNx_nx, onNx_rt, onNx_ct, x_skip, x_seq, toSl_some, x_set, x_setC, x_par, x_ret, x_expr, x_cont, x_sif, onRt_rt, onRt_nx, onTurn_nx, onTurn_ct, onTurn_rt, lay, layN, List.map_cons, List.map_nil, List.getElem?_cons_zero, List.getElem?_cons_succ, Nat.sub_self, List.replicate_zero, List.replicate_succ, List.append_nil, List.cons_append, List.nil_append, List.set_cons_zero, List.set_cons_succ, Nat.reduceSub, to_ok, wipeP, true_and, glob0, glob1, glob2, glob3, glob4, glob5, glob6, glob7, glob8, glob9]
    rw [fm_some] at hA
    rw [tuple_lst hA]
    first | exact ⟨rfl, hf⟩ | exact hf
/-- between two numbers -/
def btw (L : List (Rat × Rat)) (a b : Rat) : List (Rat × Rat) := L.filter fun p => decide (a < p.1) && !decide (b < p.1)
theorem between_ok (h : Lad L) (ha : W 30 a) (hb : W 30 b) : GivesL (runF T (n + 2) 33 [lad L, q a, q b] s) s ((btw L a b).map row) := by
  refine run_to d_between rfl ?_
  simp only [c_between, w_int, w_bl, w_non, w_no, w_str, w_nil, w_one, w_var, toVar_some, w_glob, toGl_some, toTup_tup, toBl_true, toBl_false, w_cons, w_tup, w_lst, w_bin, w_cmp, w_chain, w_not, w_and, w_or, w_ife, toInt_int, w_neg, w_idx, w_slice, w_isi, w_call, w_blt, toSeq_tup, w_star, w_rev, onNx_nx, onNx_rt, onNx_ct, x_skip, x_seq, toSl_some, x_set, x_setC, x_par, x_ret, x_expr, x_cont, x_sif, onRt_rt, onRt_nx, onTurn_nx, onTurn_ct, onTurn_rt, lay, layN, List.map_cons, List.map_nil, List.getElem?_cons_zero, List.getElem?_cons_succ, Nat.sub_self, List.replicate_zero, List.replicate_succ, List.append_nil, List.cons_append, List.nil_append, List.set_cons_zero, List.set_cons_succ, Nat.reduceSub, to_ok, wipeP, true_and, glob0, glob1, glob2, glob3, glob4, glob5, glob6, glob7, glob8, glob9]
  refine comp_pure L row (fun p => if (decide (a < p.1) && !decide (b < p.1)) = true then some (row p) else none) ?_ (by have := h.len; simp [cap]; omega) (fun p hp s' hs => ?_) fun i s' hf hA hi => ?_
  · simp only [j_seq, w_int, w_bl, w_non, w_no, w_str, w_nil, w_one, w_var, toVar_some, w_glob, toGl_some, toTup_tup, toBl_true, toBl_false, w_cons, w_tup, w_lst, w_bin, w_cmp, w_chain, w_not, w_and, w_or, w_ife, toInt_int, w_neg, w_idx, w_slice, w_isi, w_call, w_blt, toSeq_tup, w_star, w_rev, onNx_nx, onNx_rt, onNx_ct, x_skip, x_seq, toSl_some, x_set, x_setC, x_par, x_ret, x_expr, x_cont, x_sif, onRt_rt, onRt_nx, onTurn_nx, onTurn_ct, onTurn_rt, lay, layN, List.map_cons, List.map_nil, List.getElem?_cons_zero, List.getElem?_cons_succ, Nat.sub_self, List.replicate_zero, List.replicate_succ, List.append_nil, List.cons_append, List.nil_append, List.set_cons_zero, List.set_cons_succ, Nat.reduceSub, to_ok, wipeP, true_and, glob0, glob1, glob2, glob3, glob4, glob5, glob6, glob7, glob8, glob9, lad]
    exact ⟨by simp [It.most], sees_t, .refl⟩
  · have hw := (h.w p hp).1
    simp only [Turn, w_int, w_bl, w_non, w_no, w_str, w_nil, w_one, w_var, toVar_some, w_glob, toGl_some, toTup_tup, toBl_true, toBl_false, w_cons, w_tup, w_lst, w_bin, w_cmp, w_chain, w_not, w_and, w_or, w_ife, toInt_int, w_neg, w_idx, w_slice, w_isi, w_call, w_blt, toSeq_tup, w_star, w_rev, onNx_nx, onNx_rt, onNx_ct, x_skip, x_seq, toSl_some, x_set, x_setC, x_par, x_ret, x_expr, x_cont, x_sif, onRt_rt, onRt_nx, onTurn_nx, onTurn_ct, onTurn_rt, lay, layN, List.map_cons, List.map_nil, List.getElem?_cons_zero, List.getElem?_cons_succ, Nat.sub_self, List.replicate_zero, List.replicate_succ, List.append_nil, List.cons_append, List.nil_append, List.set_cons_zero, List.set_cons_succ, Nat.reduceSub, to_ok, wipeP, true_and, glob0, glob1, glob2, glob3, glob4, glob5, glob6, glob7, glob8, glob9, row_0, under_ok (w20 ha) (w20 hw)]
    by_cases h1 : a < p.1
    · simp only [h1, decide_true, w_int, w_bl, w_non, w_no, w_str, w_nil, w_one, w_var, toVar_some, w_glob, toGl_some, toTup_tup, toBl_true, toBl_false, w_cons, w_tup, w_lst, w_bin, w_cmp, w_chain, w_not, w_and, w_or, w_ife, toInt_int, w_neg, w_idx, w_slice, w_isi, w_call, w_blt, toSeq_tup, w_star, w_rev, onNx_nx, onNx_rt, onNx_ct, x_skip, x_seq, toSl_some, x_set, x_setC, x_par, x_ret, x_expr, x_cont, x_sif, onRt_rt, onRt_nx, onTurn_nx, onTurn_ct, onTurn_rt, lay, layN, List.map_cons, List.map_nil, List.getElem?_cons_zero, List.getElem?_cons_succ, Nat.sub_self, List.replicate_zero, List.replicate_succ, List.append_nil, List.cons_append, List.nil_append, List.set_cons_zero, List.set_cons_succ, Nat.reduceSub, to_ok, wipeP, true_and, glob0, glob1, glob2, glob3, glob4, glob5, glob6, glob7, glob8, glob9, row_0, under_ok (w20 hb) (w20 hw), Bool.true_and]
      by_cases h2 : b < p.1
      · simp only [h2, decide_true, w_int, w_bl, w_non, w_no, w_str, w_nil, w_one, w_var, toVar_some, w_glob, toGl_some, toTup_tup, toBl_true, toBl_false, w_cons, w_tup, w_lst, w_bin, w_cmp, w_chain, w_not, w_and, w_or, w_ife, toInt_int, w_neg, w_idx, w_slice, w_isi, w_call, w_blt, toSeq_tup, w_star, w_rev, onNx_nx, onNx_rt, onNx_ct, x_skip, x_seq, toSl_some, x_set, x_setC, x_par, x_ret, x_expr, x_cont, x_sif, onRt_rt, onRt_nx, onTurn_nx, onTurn_ct, onTurn_rt, lay, layN, List.map_cons, List.map_nil, List.getElem?_cons_zero, List.getElem?_cons_succ, Nat.sub_self, List.replicate_zero, List.replicate_succ, List.append_nil, List.cons_append, List.nil_append, List.set_cons_zero, List.set_cons_succ, Nat.reduceSub, to_ok, wipeP, true_and, glob0, glob1, glob2, glob3, glob4, glob5, glob6, glob7, glob8, glob9]
        first | exact ⟨rfl, .refl⟩ | exact .refl
      · simp only [h2, decide_false, w_int, w_bl, w_non, w_no, w_str, w_nil, w_one, w_var, toVar_some, w_glob, toGl_some, toTup_tup, toBl_true, toBl_false, w_cons, w_tup, w_lst, w_bin, w_cmp, w_chain, w_not, w_and, w_or, w_ife, toInt_int, w_neg, w_idx, w_slice, w_isi, w_call, w_blt, toSeq_tup, w_star, w_rev, onNx_nx, onNx_rt, onNx_ct, x_skip, x_seq, toSl_some, x_set, x_setC, x_par, x_ret, x_expr, x_cont, x_sif, onRt_rt, onRt_nx, onTurn_nx, onTurn_ct, onTurn_rt, lay, layN, List.map_cons, List.map_nil, List.getElem?_cons_zero, List.getElem?_cons_succ, Nat.sub_self, List.replicate_zero, List.replicate_succ, List.append_nil, List.cons_append, List.nil_append, List.set_cons_zero, List.set_cons_succ, Nat.reduceSub, to_ok, wipeP, true_and, glob0, glob1, glob2, glob3, glob4, glob5, glob6, glob7, glob8, glob9]
        first | exact ⟨rfl, .refl⟩ | exact .refl
    · simp only [h1, decide_false, w_int, w_bl, w_non, w_no, w_str, w_nil, w_one, w_var, toVar_some, w_glob, toGl_some, toTup_tup, toBl_true, toBl_false, w_cons, w_tup, w_lst, w_bin, w_cmp, w_chain, w_not, w_and, w_or, w_ife, toInt_int, w_neg, w_idx, w_slice, w_isi, w_call, w_blt, toSeq_tup, w_star, w_rev, onNx_nx, onNx_rt, onNx_ct, x_skip, x_seq, toSl_some, x_set, x_setC, x_par, x_ret, x_expr, x_cont, x_sif, onRt_rt, onRt_nx, onTurn_nx, onTurn_ct, onTurn_rt, lay, layN, List.map_cons, List.map_nil, List.getElem?_cons_zero, List.getElem?_cons_succ, Nat.sub_self, List.replicate_zero, List.replicate_succ, List.append_nil, List.cons_append, List.nil_append, List.set_cons_zero, List.set_cons_succ, Nat.reduceSub, to_ok, wipeP, true_and, glob0, glob1, glob2, glob3, glob4, glob5, glob6, glob7, glob8, glob9]
      first | exact ⟨rfl, .refl⟩ | exact .refl
  · rw [fm_if] at hA
    exact ⟨hf, i, rfl, hA, hi⟩
/-- how many units, how much they cost, to a number -/
def N (L : List (Rat × Rat)) (r : Rat) : Rat := S ((L.filter fun p => decide (p.1 ≤ r)).map (·.2))
def C (L : List (Rat × Rat)) (r : Rat) : Rat := S ((L.filter fun p => decide (p.1 ≤ r)).map fun p => p.2 * p.1)
theorem S_filter (f : Rat × Rat → Rat) (hab : a ≤ b) : S ((btw L a b).map f) = S ((L.filter fun p => decide (p.1 ≤ b)).map f) - S ((L.filter fun p => decide (p.1 ≤ a)).map f) := by
  unfold btw
  induction L with
  | nil => simp only [List.filter_nil, List.map_nil, S]; grind
  | cons p L ih =>
    by_cases h1 : p.1 ≤ a
    · have h2 : p.1 ≤ b := by grind
      have h3 : ¬ a < p.1 := by grind
      simp only [List.filter_cons, h1, h2, h3, decide_true, decide_false, if_true, Bool.false_and, Bool.false_eq_true, if_false, List.map_cons, S]
      rw [ih]; grind
    · have h3 : a < p.1 := by grind
      by_cases h2 : p.1 ≤ b
      · have h4 : ¬ b < p.1 := by grind
        simp only [List.filter_cons, h1, h2, h3, h4, decide_true, decide_false, if_true, Bool.true_and, Bool.not_false, Bool.false_eq_true, if_false, List.map_cons, S]
        rw [ih]; grind
      · have h4 : b < p.1 := by grind
        simp only [List.filter_cons, h1, h2, h3, h4, decide_true, decide_false, if_true, Bool.true_and, Bool.not_true, Bool.false_eq_true, if_false, List.map_cons, S]
        rw [ih]
theorem btw_mem {x : Rat × Rat} (h : x ∈ btw L a b) : x ∈ L := (List.mem_filter.mp h).1
theorem btw_len : (btw L a b).length ≤ L.length := List.length_filter_le _ _
theorem W_N (h : Lad L) : W 300 (N L a) := by
  refine W_St (k := 20) (m := 10) (fun x hx => ?_) ?_ (by decide)
  · obtain ⟨p, hp, rfl⟩ := List.mem_map.mp hx
    exact (h.w p (List.mem_filter.mp hp).1).2
  · rw [List.length_map]
    exact Nat.le_trans (List.length_filter_le _ _) h.len
theorem W_C (h : Lad L) : W 500 (C L a) := by
  refine W_St (k := 40) (m := 10) (fun x hx => ?_) ?_ (by decide)
  · obtain ⟨p, hp, rfl⟩ := List.mem_map.mp hx
    have hw := h.w p (List.mem_filter.mp hp).1
    exact hw.2.mul hw.1
  · rw [List.length_map]
    exact Nat.le_trans (List.length_filter_le _ _) h.len
theorem position_up (h : Lad L) (ha : W 30 a) (hb : W 30 b) (hab : a ≤ b) : Gives (runF T (n + 5) 34 [lad L, q a, q b] s) s (q (N L b - N L a)) := by
  refine run_to d_position_in rfl ?_
  have h1 : ¬ b < a := by grind
  simp only [c_position_in, w_int, w_bl, w_non, w_no, w_str, w_nil, w_one, w_var, toVar_some, w_glob, toGl_some, toTup_tup, toBl_true, toBl_false, w_cons, w_tup, w_lst, w_bin, w_cmp, w_chain, w_not, w_and, w_or, w_ife, toInt_int, w_neg, w_idx, w_slice, w_isi, w_call, w_blt, toSeq_tup, w_star, w_rev, onNx_nx, onNx_rt, onNx_ct, x_skip, x_seq, toSl_some, x_set, x_setC, x_par, x_ret, x_expr, x_cont, x_sif, onRt_rt, onRt_nx, onTurn_nx, onTurn_ct, onTurn_rt, lay, layN, List.map_cons, List.map_nil, List.getElem?_cons_zero, List.getElem?_cons_succ, Nat.sub_self, List.replicate_zero, List.replicate_succ, List.append_nil, List.cons_append, List.nil_append, List.set_cons_zero, List.set_cons_succ, Nat.reduceSub, to_ok, wipeP, true_and, glob0, glob1, glob2, glob3, glob4, glob5, glob6, glob7, glob8, glob9, under_ok (w20 hb) (w20 ha), h1, decide_false]
  refine comp_pure (btw L a b) row (fun p => some (q p.2)) ?_ (by have := h.len; have := btw_len (L := L) (a := a) (b := b); simp [cap]; omega) (fun p hp s' hs => ?_) fun i s' hf hA hi => ?_
  · simp only [j_seq, w_int, w_bl, w_non, w_no, w_str, w_nil, w_one, w_var, toVar_some, w_glob, toGl_some, toTup_tup, toBl_true, toBl_false, w_cons, w_tup, w_lst, w_bin, w_cmp, w_chain, w_not, w_and, w_or, w_ife, toInt_int, w_neg, w_idx, w_slice, w_isi, w_call, w_blt, toSeq_tup, w_star, w_rev, onNx_nx, onNx_rt, onNx_ct, x_skip, x_seq, toSl_some, x_set, x_setC, x_par, x_ret, x_expr, x_cont, x_sif, onRt_rt, onRt_nx, onTurn_nx, onTurn_ct, onTurn_rt, lay, layN, List.map_cons, List.map_nil, List.getElem?_cons_zero, List.getElem?_cons_succ, Nat.sub_self, List.replicate_zero, List.replicate_succ, List.append_nil, List.cons_append, List.nil_append, List.set_cons_zero, List.set_cons_succ, Nat.reduceSub, to_ok, wipeP, true_and, glob0, glob1, glob2, glob3, glob4, glob5, glob6, glob7, glob8, glob9]
    refine (between_ok h ha hb).to fun i s' hs hA hi => ?_
    exact ⟨_, hA.getL, by simp [It.most, hA.getL], sees_l fun s'' hs'' => hA.fr0 hs'', hs⟩
  · simp only [Turn, w_int, w_bl, w_non, w_no, w_str, w_nil, w_one, w_var, toVar_some, w_glob, toGl_some, toTup_tup, toBl_true, toBl_false, w_cons, w_tup, w_lst, w_bin, w_cmp, w_chain, w_not, w_and, w_or, w_ife, toInt_int, w_neg, w_idx, w_slice, w_isi, w_call, w_blt, toSeq_tup, w_star, w_rev, onNx_nx, onNx_rt, onNx_ct, x_skip, x_seq, toSl_some, x_set, x_setC, x_par, x_ret, x_expr, x_cont, x_sif, onRt_rt, onRt_nx, onTurn_nx, onTurn_ct, onTurn_rt, lay, layN, List.map_cons, List.map_nil, List.getElem?_cons_zero, List.getElem?_cons_succ, Nat.sub_self, List.replicate_zero, List.replicate_succ, List.append_nil, List.cons_append, List.nil_append, List.set_cons_zero, List.set_cons_succ, Nat.reduceSub, to_ok, wipeP, true_and, glob0, glob1, glob2, glob3, glob4, glob5, glob6, glob7, glob8, glob9, row]
    first | exact ⟨rfl, .refl⟩ | exact .refl
  · try simp only [w_int, w_bl, w_non, w_no, w_str, w_nil, w_one, w_var, toVar_some, w_glob, toGl_some, toTup_tup, toBl_true, toBl_false, w_cons, w_tup, w_lst, w_bin, w_cmp, w_chain, w_not, w_and, w_or, w_ife, toInt_int, w_neg, w_idx, w_slice, w_isi, w_call, w_blt, toSeq_tup, w_star, w_rev, onNx_nx, onNx_rt, onNx_ct, x_skip, x_seq, toSl_some, x_set, x_setC, x_par, x_ret, x_expr, x_cont, x_sif, onRt_rt, onRt_nx, onTurn_nx, onTurn_ct, onTurn_rt, lay, layN, List.map_cons, List.map_nil, List.getElem?_cons_zero, List.getElem?_cons_succ, Nat.sub_self, List.replicate_zero, List.replicate_succ, List.append_nil, List.cons_append, List.nil_append, List.set_cons_zero, List.set_cons_succ, Nat.reduceSub, to_ok, wipeP, true_and, glob0, glob1, glob2, glob3, glob4, glob5, glob6, glob7, glob8, glob9]
    rw [fm_some, show (btw L a b).map (fun p => q p.2) = ((btw L a b).map (·.2)).map q by simp] at hA
    have hw : ∀ x ∈ (btw L a b).map (·.2), W 20 x := fun x hx => by
      obtain ⟨p, hp, rfl⟩ := List.mem_map.mp hx
      exact (h.w p (btw_mem hp)).2
    have hl : ((btw L a b).map (·.2)).length ≤ 10 := by rw [List.length_map]; exact Nat.le_trans btw_len h.len
    rw [sum_ok hA hw (by decide) (by omega)]
    try simp only [w_int, w_bl, w_non, w_no, w_str, w_nil, w_one, w_var, toVar_some, w_glob, toGl_some, toTup_tup, toBl_true, toBl_false, w_cons, w_tup, w_lst, w_bin, w_cmp, w_chain, w_not, w_and, w_or, w_ife, toInt_int, w_neg, w_idx, w_slice, w_isi, w_call, w_blt, toSeq_tup, w_star, w_rev, onNx_nx, onNx_rt, onNx_ct, x_skip, x_seq, toSl_some, x_set, x_setC, x_par, x_ret, x_expr, x_cont, x_sif, onRt_rt, onRt_nx, onTurn_nx, onTurn_ct, onTurn_rt, lay, layN, List.map_cons, List.map_nil, List.getElem?_cons_zero, List.getElem?_cons_succ, Nat.sub_self, List.replicate_zero, List.replicate_succ, List.append_nil, List.cons_append, List.nil_append, List.set_cons_zero, List.set_cons_succ, Nat.reduceSub, to_ok, wipeP, true_and, glob0, glob1, glob2, glob3, glob4, glob5, glob6, glob7, glob8, glob9]
    rw [add_ok W0 (W_St hw hl (by decide))]
    try simp only [w_int, w_bl, w_non, w_no, w_str, w_nil, w_one, w_var, toVar_some, w_glob, toGl_some, toTup_tup, toBl_true, toBl_false, w_cons, w_tup, w_lst, w_bin, w_cmp, w_chain, w_not, w_and, w_or, w_ife, toInt_int, w_neg, w_idx, w_slice, w_isi, w_call, w_blt, toSeq_tup, w_star, w_rev, onNx_nx, onNx_rt, onNx_ct, x_skip, x_seq, toSl_some, x_set, x_setC, x_par, x_ret, x_expr, x_cont, x_sif, onRt_rt, onRt_nx, onTurn_nx, onTurn_ct, onTurn_rt, lay, layN, List.map_cons, List.map_nil, List.getElem?_cons_zero, List.getElem?_cons_succ, Nat.sub_self, List.replicate_zero, List.replicate_succ, List.append_nil, List.cons_append, List.nil_append, List.set_cons_zero, List.set_cons_succ, Nat.reduceSub, to_ok, wipeP, true_and, glob0, glob1, glob2, glob3, glob4, glob5, glob6, glob7, glob8, glob9]
    refine ⟨?_, hf⟩
    rw [S_filter _ hab, Rat.zero_add]
    rfl
theorem paid_up (h : Lad L) (ha : W 30 a) (hb : W 30 b) (hab : a ≤ b) : Gives (runF T (n + 5) 35 [lad L, q a, q b] s) s (q (C L b - C L a)) := by
  refine run_to d_paid_in rfl ?_
  have h1 : ¬ b < a := by grind
  simp only [c_paid_in, w_int, w_bl, w_non, w_no, w_str, w_nil, w_one, w_var, toVar_some, w_glob, toGl_some, toTup_tup, toBl_true, toBl_false, w_cons, w_tup, w_lst, w_bin, w_cmp, w_chain, w_not, w_and, w_or, w_ife, toInt_int, w_neg, w_idx, w_slice, w_isi, w_call, w_blt, toSeq_tup, w_star, w_rev, onNx_nx, onNx_rt, onNx_ct, x_skip, x_seq, toSl_some, x_set, x_setC, x_par, x_ret, x_expr, x_cont, x_sif, onRt_rt, onRt_nx, onTurn_nx, onTurn_ct, onTurn_rt, lay, layN, List.map_cons, List.map_nil, List.getElem?_cons_zero, List.getElem?_cons_succ, Nat.sub_self, List.replicate_zero, List.replicate_succ, List.append_nil, List.cons_append, List.nil_append, List.set_cons_zero, List.set_cons_succ, Nat.reduceSub, to_ok, wipeP, true_and, glob0, glob1, glob2, glob3, glob4, glob5, glob6, glob7, glob8, glob9, under_ok (w20 hb) (w20 ha), h1, decide_false]
  refine comp_pure (btw L a b) row (fun p => some (q (p.2 * p.1))) ?_ (by have := h.len; have := btw_len (L := L) (a := a) (b := b); simp [cap]; omega) (fun p hp s' hs => ?_) fun i s' hf hA hi => ?_
  · simp only [j_seq, w_int, w_bl, w_non, w_no, w_str, w_nil, w_one, w_var, toVar_some, w_glob, toGl_some, toTup_tup, toBl_true, toBl_false, w_cons, w_tup, w_lst, w_bin, w_cmp, w_chain, w_not, w_and, w_or, w_ife, toInt_int, w_neg, w_idx, w_slice, w_isi, w_call, w_blt, toSeq_tup, w_star, w_rev, onNx_nx, onNx_rt, onNx_ct, x_skip, x_seq, toSl_some, x_set, x_setC, x_par, x_ret, x_expr, x_cont, x_sif, onRt_rt, onRt_nx, onTurn_nx, onTurn_ct, onTurn_rt, lay, layN, List.map_cons, List.map_nil, List.getElem?_cons_zero, List.getElem?_cons_succ, Nat.sub_self, List.replicate_zero, List.replicate_succ, List.append_nil, List.cons_append, List.nil_append, List.set_cons_zero, List.set_cons_succ, Nat.reduceSub, to_ok, wipeP, true_and, glob0, glob1, glob2, glob3, glob4, glob5, glob6, glob7, glob8, glob9]
    refine (between_ok h ha hb).to fun i s' hs hA hi => ?_
    exact ⟨_, hA.getL, by simp [It.most, hA.getL], sees_l fun s'' hs'' => hA.fr0 hs'', hs⟩
  · have hw := h.w p (btw_mem hp)
    simp only [Turn, w_int, w_bl, w_non, w_no, w_str, w_nil, w_one, w_var, toVar_some, w_glob, toGl_some, toTup_tup, toBl_true, toBl_false, w_cons, w_tup, w_lst, w_bin, w_cmp, w_chain, w_not, w_and, w_or, w_ife, toInt_int, w_neg, w_idx, w_slice, w_isi, w_call, w_blt, toSeq_tup, w_star, w_rev, onNx_nx, onNx_rt, onNx_ct, x_skip, x_seq, toSl_some, x_set, x_setC, x_par, x_ret, x_expr, x_cont, x_sif, onRt_rt, onRt_nx, onTurn_nx, onTurn_ct, onTurn_rt, lay, layN, List.map_cons, List.map_nil, List.getElem?_cons_zero, List.getElem?_cons_succ, Nat.sub_self, List.replicate_zero, List.replicate_succ, List.append_nil, List.cons_append, List.nil_append, List.set_cons_zero, List.set_cons_succ, Nat.reduceSub, to_ok, wipeP, true_and, glob0, glob1, glob2, glob3, glob4, glob5, glob6, glob7, glob8, glob9, row, mul_ok (w20 hw.2) (w20 hw.1)]
    exact .refl
  · try simp only [w_int, w_bl, w_non, w_no, w_str, w_nil, w_one, w_var, toVar_some, w_glob, toGl_some, toTup_tup, toBl_true, toBl_false, w_cons, w_tup, w_lst, w_bin, w_cmp, w_chain, w_not, w_and, w_or, w_ife, toInt_int, w_neg, w_idx, w_slice, w_isi, w_call, w_blt, toSeq_tup, w_star, w_rev, onNx_nx, onNx_rt, onNx_ct, x_skip, x_seq, toSl_some, x_set, x_setC, x_par, x_ret, x_expr, x_cont, x_sif, onRt_rt, onRt_nx, onTurn_nx, onTurn_ct, onTurn_rt, lay, layN, List.map_cons, List.map_nil, List.getElem?_cons_zero, List.getElem?_cons_succ, Nat.sub_self, List.replicate_zero, List.replicate_succ, List.append_nil, List.cons_append, List.nil_append, List.set_cons_zero, List.set_cons_succ, Nat.reduceSub, to_ok, wipeP, true_and, glob0, glob1, glob2, glob3, glob4, glob5, glob6, glob7, glob8, glob9]
    rw [fm_some, show (btw L a b).map (fun p => q (p.2 * p.1)) = ((btw L a b).map (fun p => p.2 * p.1)).map q by simp] at hA
    have hw : ∀ x ∈ (btw L a b).map (fun p => p.2 * p.1), W 40 x := fun x hx => by
      obtain ⟨p, hp, rfl⟩ := List.mem_map.mp hx
      have := h.w p (btw_mem hp)
      exact this.2.mul this.1
    have hl : ((btw L a b).map (fun p => p.2 * p.1)).length ≤ 10 := by rw [List.length_map]; exact Nat.le_trans btw_len h.len
    rw [sum_ok hA hw (by decide) (by omega)]
    try simp only [w_int, w_bl, w_non, w_no, w_str, w_nil, w_one, w_var, toVar_some, w_glob, toGl_some, toTup_tup, toBl_true, toBl_false, w_cons, w_tup, w_lst, w_bin, w_cmp, w_chain, w_not, w_and, w_or, w_ife, toInt_int, w_neg, w_idx, w_slice, w_isi, w_call, w_blt, toSeq_tup, w_star, w_rev, onNx_nx, onNx_rt, onNx_ct, x_skip, x_seq, toSl_some, x_set, x_setC, x_par, x_ret, x_expr, x_cont, x_sif, onRt_rt, onRt_nx, onTurn_nx, onTurn_ct, onTurn_rt, lay, layN, List.map_cons, List.map_nil, List.getElem?_cons_zero, List.getElem?_cons_succ, Nat.sub_self, List.replicate_zero, List.replicate_succ, List.append_nil, List.cons_append, List.nil_append, List.set_cons_zero, List.set_cons_succ, Nat.reduceSub, to_ok, wipeP, true_and, glob0, glob1, glob2, glob3, glob4, glob5, glob6, glob7, glob8, glob9]
    rw [add_ok W0 (W_St hw hl (by decide))]
    try simp only [w_int, w_bl, w_non, w_no, w_str, w_nil, w_one, w_var, toVar_some, w_glob, toGl_some, toTup_tup, toBl_true, toBl_false, w_cons, w_tup, w_lst, w_bin, w_cmp, w_chain, w_not, w_and, w_or, w_ife, toInt_int, w_neg, w_idx, w_slice, w_isi, w_call, w_blt, toSeq_tup, w_star, w_rev, onNx_nx, onNx_rt, onNx_ct, x_skip, x_seq, toSl_some, x_set, x_setC, x_par, x_ret, x_expr, x_cont, x_sif, onRt_rt, onRt_nx, onTurn_nx, onTurn_ct, onTurn_rt, lay, layN, List.map_cons, List.map_nil, List.getElem?_cons_zero, List.getElem?_cons_succ, Nat.sub_self, List.replicate_zero, List.replicate_succ, List.append_nil, List.cons_append, List.nil_append, List.set_cons_zero, List.set_cons_succ, Nat.reduceSub, to_ok, wipeP, true_and, glob0, glob1, glob2, glob3, glob4, glob5, glob6, glob7, glob8, glob9]
    refine ⟨?_, hf⟩
    rw [S_filter _ hab, Rat.zero_add]
    rfl
theorem W_dN (h : Lad L) : W 700 (N L b - N L a) := ((W_N h).sub (W_N h)).mono (by decide)
theorem W_dC (h : Lad L) : W 1100 (C L b - C L a) := ((W_C h).sub (W_C h)).mono (by decide)
theorem position_in_ok (h : Lad L) (ha : W 30 a) (hb : W 30 b) : Gives (runF T (n + 6) 34 [lad L, q a, q b] s) s (q (N L b - N L a)) := by
  by_cases hab : a ≤ b
  · exact position_up h ha hb hab
  · refine run_to d_position_in rfl ?_
    have h1 : b < a := by grind
    simp only [c_position_in, w_int, w_bl, w_non, w_no, w_str, w_nil, w_one, w_var, toVar_some, w_glob, toGl_some, toTup_tup, toBl_true, toBl_false, w_cons, w_tup, w_lst, w_bin, w_cmp, w_chain, w_not, w_and, w_or, w_ife, toInt_int, w_neg, w_idx, w_slice, w_isi, w_call, w_blt, toSeq_tup, w_star, w_rev, onNx_nx, onNx_rt, onNx_ct, x_skip, x_seq, toSl_some, x_set, x_setC, x_par, x_ret, x_expr, x_cont, x_sif, onRt_rt, onRt_nx, onTurn_nx, onTurn_ct, onTurn_rt, lay, layN, List.map_cons, List.map_nil, List.getElem?_cons_zero, List.getElem?_cons_succ, Nat.sub_self, List.replicate_zero, List.replicate_succ, List.append_nil, List.cons_append, List.nil_append, List.set_cons_zero, List.set_cons_succ, Nat.reduceSub, to_ok, wipeP, true_and, glob0, glob1, glob2, glob3, glob4, glob5, glob6, glob7, glob8, glob9, under_ok (w20 hb) (w20 ha), h1, decide_true]
    refine (position_up h hb ha (by grind)).to fun s' hs => ?_
    try simp only [w_int, w_bl, w_non, w_no, w_str, w_nil, w_one, w_var, toVar_some, w_glob, toGl_some, toTup_tup, toBl_true, toBl_false, w_cons, w_tup, w_lst, w_bin, w_cmp, w_chain, w_not, w_and, w_or, w_ife, toInt_int, w_neg, w_idx, w_slice, w_isi, w_call, w_blt, toSeq_tup, w_star, w_rev, onNx_nx, onNx_rt, onNx_ct, x_skip, x_seq, toSl_some, x_set, x_setC, x_par, x_ret, x_expr, x_cont, x_sif, onRt_rt, onRt_nx, onTurn_nx, onTurn_ct, onTurn_rt, lay, layN, List.map_cons, List.map_nil, List.getElem?_cons_zero, List.getElem?_cons_succ, Nat.sub_self, List.replicate_zero, List.replicate_succ, List.append_nil, List.cons_append, List.nil_append, List.set_cons_zero, List.set_cons_succ, Nat.reduceSub, to_ok, wipeP, true_and, glob0, glob1, glob2, glob3, glob4, glob5, glob6, glob7, glob8, glob9]
    rw [sub_ok W0 ((W_dN h).mono (by decide))]
    try simp only [w_int, w_bl, w_non, w_no, w_str, w_nil, w_one, w_var, toVar_some, w_glob, toGl_some, toTup_tup, toBl_true, toBl_false, w_cons, w_tup, w_lst, w_bin, w_cmp, w_chain, w_not, w_and, w_or, w_ife, toInt_int, w_neg, w_idx, w_slice, w_isi, w_call, w_blt, toSeq_tup, w_star, w_rev, onNx_nx, onNx_rt, onNx_ct, x_skip, x_seq, toSl_some, x_set, x_setC, x_par, x_ret, x_expr, x_cont, x_sif, onRt_rt, onRt_nx, onTurn_nx, onTurn_ct, onTurn_rt, lay, layN, List.map_cons, List.map_nil, List.getElem?_cons_zero, List.getElem?_cons_succ, Nat.sub_self, List.replicate_zero, List.replicate_succ, List.append_nil, List.cons_append, List.nil_append, List.set_cons_zero, List.set_cons_succ, Nat.reduceSub, to_ok, wipeP, true_and, glob0, glob1, glob2, glob3, glob4, glob5, glob6, glob7, glob8, glob9]
    exact ⟨congrArg q (by grind), hs⟩
theorem paid_in_ok (h : Lad L) (ha : W 30 a) (hb : W 30 b) : Gives (runF T (n + 6) 35 [lad L, q a, q b] s) s (q (C L b - C L a)) := by
  by_cases hab : a ≤ b
  · exact paid_up h ha hb hab
  · refine run_to d_paid_in rfl ?_
    have h1 : b < a := by grind
    simp only [c_paid_in, w_int, w_bl, w_non, w_no, w_str, w_nil, w_one, w_var, toVar_some, w_glob, toGl_some, toTup_tup, toBl_true, toBl_false, w_cons, w_tup, w_lst, w_bin, w_cmp, w_chain, w_not, w_and, w_or, w_ife, toInt_int, w_neg, w_idx, w_slice, w_isi, w_call, w_blt, toSeq_tup, w_star, w_rev, onNx_nx, onNx_rt, onNx_ct, x_skip, x_seq, toSl_some, x_set, x_setC, x_par, x_ret, x_expr, x_cont, x_sif, onRt_rt, onRt_nx, onTurn_nx, onTurn_ct, onTurn_rt, lay, layN, List.map_cons, List.map_nil, List.getElem?_cons_zero, List.getElem?_cons_succ, Nat.sub_self, List.replicate_zero, List.replicate_succ, List.append_nil, List.cons_append, List.nil_append, List.set_cons_zero, List.set_cons_succ, Nat.reduceSub, to_ok, wipeP, true_and, glob0, glob1, glob2, glob3, glob4, glob5, glob6, glob7, glob8, glob9, under_ok (w20 hb) (w20 ha), h1, decide_true]
    refine (paid_up h hb ha (by grind)).to fun s' hs => ?_
    try simp only [w_int, w_bl, w_non, w_no, w_str, w_nil, w_one, w_var, toVar_some, w_glob, toGl_some, toTup_tup, toBl_true, toBl_false, w_cons, w_tup, w_lst, w_bin, w_cmp, w_chain, w_not, w_and, w_or, w_ife, toInt_int, w_neg, w_idx, w_slice, w_isi, w_call, w_blt, toSeq_tup, w_star, w_rev, onNx_nx, onNx_rt, onNx_ct, x_skip, x_seq, toSl_some, x_set, x_setC, x_par, x_ret, x_expr, x_cont, x_sif, onRt_rt, onRt_nx, onTurn_nx, onTurn_ct, onTurn_rt, lay, layN, List.map_cons, List.map_nil, List.getElem?_cons_zero, List.getElem?_cons_succ, Nat.sub_self, List.replicate_zero, List.replicate_succ, List.append_nil, List.cons_append, List.nil_append, List.set_cons_zero, List.set_cons_succ, Nat.reduceSub, to_ok, wipeP, true_and, glob0, glob1, glob2, glob3, glob4, glob5, glob6, glob7, glob8, glob9]
    rw [sub_ok W0 ((W_dC h).mono (by decide))]
    try simp only [w_int, w_bl, w_non, w_no, w_str, w_nil, w_one, w_var, toVar_some, w_glob, toGl_some, toTup_tup, toBl_true, toBl_false, w_cons, w_tup, w_lst, w_bin, w_cmp, w_chain, w_not, w_and, w_or, w_ife, toInt_int, w_neg, w_idx, w_slice, w_isi, w_call, w_blt, toSeq_tup, w_star, w_rev, onNx_nx, onNx_rt, onNx_ct, x_skip, x_seq, toSl_some, x_set, x_setC, x_par, x_ret, x_expr, x_cont, x_sif, onRt_rt, onRt_nx, onTurn_nx, onTurn_ct, onTurn_rt, lay, layN, List.map_cons, List.map_nil, List.getElem?_cons_zero, List.getElem?_cons_succ, Nat.sub_self, List.replicate_zero, List.replicate_succ, List.append_nil, List.cons_append, List.nil_append, List.set_cons_zero, List.set_cons_succ, Nat.reduceSub, to_ok, wipeP, true_and, glob0, glob1, glob2, glob3, glob4, glob5, glob6, glob7, glob8, glob9]
    exact ⟨congrArg q (by grind), hs⟩
theorem needmove_ok (h : Lad L) (ha : W 30 a) (hb : W 30 b) : Gives (runF T (n + 6) 36 [lad L, q a, q b] s) s .non := by
  refine run_to d_need_move rfl ?_
  simp only [c_need_move, w_int, w_bl, w_non, w_no, w_str, w_nil, w_one, w_var, toVar_some, w_glob, toGl_some, toTup_tup, toBl_true, toBl_false, w_cons, w_tup, w_lst, w_bin, w_cmp, w_chain, w_not, w_and, w_or, w_ife, toInt_int, w_neg, w_idx, w_slice, w_isi, w_call, w_blt, toSeq_tup, w_star, w_rev, onNx_nx, onNx_rt, onNx_ct, x_skip, x_seq, toSl_some, x_set, x_setC, x_par, x_ret, x_expr, x_cont, x_sif, onRt_rt, onRt_nx, onTurn_nx, onTurn_ct, onTurn_rt, lay, layN, List.map_cons, List.map_nil, List.getElem?_cons_zero, List.getElem?_cons_succ, Nat.sub_self, List.replicate_zero, List.replicate_succ, List.append_nil, List.cons_append, List.nil_append, List.set_cons_zero, List.set_cons_succ, Nat.reduceSub, to_ok, wipeP, true_and, glob0, glob1, glob2, glob3, glob4, glob5, glob6, glob7, glob8, glob9]
  refine (needlad_ok h).to fun s1 h1 => (needfrac_ok (ha.mono (by decide))).to fun s2 h2 => (needfrac_ok (hb.mono (by decide))).to fun s3 h3 => ?_
  first | exact ⟨rfl, (h1.trans h2).trans h3⟩ | exact (h1.trans h2).trans h3
theorem position_ok (h : Lad L) (ha : W 30 a) (hb : W 30 b) : Gives (runF T (n + 7) 37 [lad L, q a, q b] s) s (q (N L b - N L a)) := by
  refine run_to d_position rfl ?_
  simp only [c_position, w_int, w_bl, w_non, w_no, w_str, w_nil, w_one, w_var, toVar_some, w_glob, toGl_some, toTup_tup, toBl_true, toBl_false, w_cons, w_tup, w_lst, w_bin, w_cmp, w_chain, w_not, w_and, w_or, w_ife, toInt_int, w_neg, w_idx, w_slice, w_isi, w_call, w_blt, toSeq_tup, w_star, w_rev, onNx_nx, onNx_rt, onNx_ct, x_skip, x_seq, toSl_some, x_set, x_setC, x_par, x_ret, x_expr, x_cont, x_sif, onRt_rt, onRt_nx, onTurn_nx, onTurn_ct, onTurn_rt, lay, layN, List.map_cons, List.map_nil, List.getElem?_cons_zero, List.getElem?_cons_succ, Nat.sub_self, List.replicate_zero, List.replicate_succ, List.append_nil, List.cons_append, List.nil_append, List.set_cons_zero, List.set_cons_succ, Nat.reduceSub, to_ok, wipeP, true_and, glob0, glob1, glob2, glob3, glob4, glob5, glob6, glob7, glob8, glob9]
  refine (needmove_ok h ha hb).to fun s1 h1 => (position_in_ok h ha hb).to fun s2 h2 => ?_
  first | exact ⟨rfl, h1.trans h2⟩ | exact h1.trans h2
theorem paid_ok (h : Lad L) (ha : W 30 a) (hb : W 30 b) : Gives (runF T (n + 7) 38 [lad L, q a, q b] s) s (q (C L b - C L a)) := by
  refine run_to d_paid rfl ?_
  simp only [c_paid, w_int, w_bl, w_non, w_no, w_str, w_nil, w_one, w_var, toVar_some, w_glob, toGl_some, toTup_tup, toBl_true, toBl_false, w_cons, w_tup, w_lst, w_bin, w_cmp, w_chain, w_not, w_and, w_or, w_ife, toInt_int, w_neg, w_idx, w_slice, w_isi, w_call, w_blt, toSeq_tup, w_star, w_rev, onNx_nx, onNx_rt, onNx_ct, x_skip, x_seq, toSl_some, x_set, x_setC, x_par, x_ret, x_expr, x_cont, x_sif, onRt_rt, onRt_nx, onTurn_nx, onTurn_ct, onTurn_rt, lay, layN, List.map_cons, List.map_nil, List.getElem?_cons_zero, List.getElem?_cons_succ, Nat.sub_self, List.replicate_zero, List.replicate_succ, List.append_nil, List.cons_append, List.nil_append, List.set_cons_zero, List.set_cons_succ, Nat.reduceSub, to_ok, wipeP, true_and, glob0, glob1, glob2, glob3, glob4, glob5, glob6, glob7, glob8, glob9]
  refine (needmove_ok h ha hb).to fun s1 h1 => (paid_in_ok h ha hb).to fun s2 h2 => ?_
  first | exact ⟨rfl, h1.trans h2⟩ | exact h1.trans h2
/-- what a move earns -/
def En (L : List (Rat × Rat)) (a b w : Rat) : Rat := w * (N L b - N L a) - (C L b - C L a)
theorem W_En {w : Rat} (h : Lad L) (hw : W 30 w) : W 1900 (En L a b w) := ((hw.mul (W_dN h)).sub (W_dC h)).mono (by decide)
theorem earned_in_ok {w : Rat} (h : Lad L) (ha : W 30 a) (hb : W 30 b) (hw : W 30 w) : Gives (runF T (n + 7) 39 [lad L, q a, q b, q w] s) s (q (En L a b w)) := by
  refine run_to d_earned_in rfl ?_
  simp only [c_earned_in, w_int, w_bl, w_non, w_no, w_str, w_nil, w_one, w_var, toVar_some, w_glob, toGl_some, toTup_tup, toBl_true, toBl_false, w_cons, w_tup, w_lst, w_bin, w_cmp, w_chain, w_not, w_and, w_or, w_ife, toInt_int, w_neg, w_idx, w_slice, w_isi, w_call, w_blt, toSeq_tup, w_star, w_rev, onNx_nx, onNx_rt, onNx_ct, x_skip, x_seq, toSl_some, x_set, x_setC, x_par, x_ret, x_expr, x_cont, x_sif, onRt_rt, onRt_nx, onTurn_nx, onTurn_ct, onTurn_rt, lay, layN, List.map_cons, List.map_nil, List.getElem?_cons_zero, List.getElem?_cons_succ, Nat.sub_self, List.replicate_zero, List.replicate_succ, List.append_nil, List.cons_append, List.nil_append, List.set_cons_zero, List.set_cons_succ, Nat.reduceSub, to_ok, wipeP, true_and, glob0, glob1, glob2, glob3, glob4, glob5, glob6, glob7, glob8, glob9]
  refine (position_in_ok h ha hb).to fun s1 h1 => ?_
  try simp only [w_int, w_bl, w_non, w_no, w_str, w_nil, w_one, w_var, toVar_some, w_glob, toGl_some, toTup_tup, toBl_true, toBl_false, w_cons, w_tup, w_lst, w_bin, w_cmp, w_chain, w_not, w_and, w_or, w_ife, toInt_int, w_neg, w_idx, w_slice, w_isi, w_call, w_blt, toSeq_tup, w_star, w_rev, onNx_nx, onNx_rt, onNx_ct, x_skip, x_seq, toSl_some, x_set, x_setC, x_par, x_ret, x_expr, x_cont, x_sif, onRt_rt, onRt_nx, onTurn_nx, onTurn_ct, onTurn_rt, lay, layN, List.map_cons, List.map_nil, List.getElem?_cons_zero, List.getElem?_cons_succ, Nat.sub_self, List.replicate_zero, List.replicate_succ, List.append_nil, List.cons_append, List.nil_append, List.set_cons_zero, List.set_cons_succ, Nat.reduceSub, to_ok, wipeP, true_and, glob0, glob1, glob2, glob3, glob4, glob5, glob6, glob7, glob8, glob9]
  rw [mul_ok (w20 hw) ((W_dN h).mono (by decide))]
  try simp only [w_int, w_bl, w_non, w_no, w_str, w_nil, w_one, w_var, toVar_some, w_glob, toGl_some, toTup_tup, toBl_true, toBl_false, w_cons, w_tup, w_lst, w_bin, w_cmp, w_chain, w_not, w_and, w_or, w_ife, toInt_int, w_neg, w_idx, w_slice, w_isi, w_call, w_blt, toSeq_tup, w_star, w_rev, onNx_nx, onNx_rt, onNx_ct, x_skip, x_seq, toSl_some, x_set, x_setC, x_par, x_ret, x_expr, x_cont, x_sif, onRt_rt, onRt_nx, onTurn_nx, onTurn_ct, onTurn_rt, lay, layN, List.map_cons, List.map_nil, List.getElem?_cons_zero, List.getElem?_cons_succ, Nat.sub_self, List.replicate_zero, List.replicate_succ, List.append_nil, List.cons_append, List.nil_append, List.set_cons_zero, List.set_cons_succ, Nat.reduceSub, to_ok, wipeP, true_and, glob0, glob1, glob2, glob3, glob4, glob5, glob6, glob7, glob8, glob9]
  refine (paid_in_ok h ha hb).to fun s2 h2 => ?_
  try simp only [w_int, w_bl, w_non, w_no, w_str, w_nil, w_one, w_var, toVar_some, w_glob, toGl_some, toTup_tup, toBl_true, toBl_false, w_cons, w_tup, w_lst, w_bin, w_cmp, w_chain, w_not, w_and, w_or, w_ife, toInt_int, w_neg, w_idx, w_slice, w_isi, w_call, w_blt, toSeq_tup, w_star, w_rev, onNx_nx, onNx_rt, onNx_ct, x_skip, x_seq, toSl_some, x_set, x_setC, x_par, x_ret, x_expr, x_cont, x_sif, onRt_rt, onRt_nx, onTurn_nx, onTurn_ct, onTurn_rt, lay, layN, List.map_cons, List.map_nil, List.getElem?_cons_zero, List.getElem?_cons_succ, Nat.sub_self, List.replicate_zero, List.replicate_succ, List.append_nil, List.cons_append, List.nil_append, List.set_cons_zero, List.set_cons_succ, Nat.reduceSub, to_ok, wipeP, true_and, glob0, glob1, glob2, glob3, glob4, glob5, glob6, glob7, glob8, glob9]
  rw [sub_ok ((hw.mul (W_dN h)).mono (by decide)) ((W_dC h).mono (by decide))]
  first | exact ⟨rfl, h1.trans h2⟩ | exact h1.trans h2
theorem earned_ok {w : Rat} (h : Lad L) (ha : W 30 a) (hb : W 30 b) (hw : W 30 w) : Gives (runF T (n + 8) 40 [lad L, q a, q b, q w] s) s (q (En L a b w)) := by
  refine run_to d_earned rfl ?_
  simp only [c_earned, w_int, w_bl, w_non, w_no, w_str, w_nil, w_one, w_var, toVar_some, w_glob, toGl_some, toTup_tup, toBl_true, toBl_false, w_cons, w_tup, w_lst, w_bin, w_cmp, w_chain, w_not, w_and, w_or, w_ife, toInt_int, w_neg, w_idx, w_slice, w_isi, w_call, w_blt, toSeq_tup, w_star, w_rev, onNx_nx, onNx_rt, onNx_ct, x_skip, x_seq, toSl_some, x_set, x_setC, x_par, x_ret, x_expr, x_cont, x_sif, onRt_rt, onRt_nx, onTurn_nx, onTurn_ct, onTurn_rt, lay, layN, List.map_cons, List.map_nil, List.getElem?_cons_zero, List.getElem?_cons_succ, Nat.sub_self, List.replicate_zero, List.replicate_succ, List.append_nil, List.cons_append, List.nil_append, List.set_cons_zero, List.set_cons_succ, Nat.reduceSub, to_ok, wipeP, true_and, glob0, glob1, glob2, glob3, glob4, glob5, glob6, glob7, glob8, glob9]
  refine (needmove_ok h ha hb).to fun s1 h1 => (needfrac_ok (hw.mono (by decide))).to fun s2 h2 => ?_
  try simp only [w_int, w_bl, w_non, w_no, w_str, w_nil, w_one, w_var, toVar_some, w_glob, toGl_some, toTup_tup, toBl_true, toBl_false, w_cons, w_tup, w_lst, w_bin, w_cmp, w_chain, w_not, w_and, w_or, w_ife, toInt_int, w_neg, w_idx, w_slice, w_isi, w_call, w_blt, toSeq_tup, w_star, w_rev, onNx_nx, onNx_rt, onNx_ct, x_skip, x_seq, toSl_some, x_set, x_setC, x_par, x_ret, x_expr, x_cont, x_sif, onRt_rt, onRt_nx, onTurn_nx, onTurn_ct, onTurn_rt, lay, layN, List.map_cons, List.map_nil, List.getElem?_cons_zero, List.getElem?_cons_succ, Nat.sub_self, List.replicate_zero, List.replicate_succ, List.append_nil, List.cons_append, List.nil_append, List.set_cons_zero, List.set_cons_succ, Nat.reduceSub, to_ok, wipeP, true_and, glob0, glob1, glob2, glob3, glob4, glob5, glob6, glob7, glob8, glob9]
  refine (earned_in_ok h ha hb hw).to fun s3 h3 => ?_
  first | exact ⟨rfl, (h1.trans h2).trans h3⟩ | exact (h1.trans h2).trans h3
theorem loss_at_ok (h : Lad L) (ha : W 30 a) (hb : W 30 b) : Gives (runF T (n + 8) 41 [lad L, q a, q b] s) s (q (En L a b b)) := by
  refine run_to d_loss_at rfl ?_
  simp only [c_loss_at, w_int, w_bl, w_non, w_no, w_str, w_nil, w_one, w_var, toVar_some, w_glob, toGl_some, toTup_tup, toBl_true, toBl_false, w_cons, w_tup, w_lst, w_bin, w_cmp, w_chain, w_not, w_and, w_or, w_ife, toInt_int, w_neg, w_idx, w_slice, w_isi, w_call, w_blt, toSeq_tup, w_star, w_rev, onNx_nx, onNx_rt, onNx_ct, x_skip, x_seq, toSl_some, x_set, x_setC, x_par, x_ret, x_expr, x_cont, x_sif, onRt_rt, onRt_nx, onTurn_nx, onTurn_ct, onTurn_rt, lay, layN, List.map_cons, List.map_nil, List.getElem?_cons_zero, List.getElem?_cons_succ, Nat.sub_self, List.replicate_zero, List.replicate_succ, List.append_nil, List.cons_append, List.nil_append, List.set_cons_zero, List.set_cons_succ, Nat.reduceSub, to_ok, wipeP, true_and, glob0, glob1, glob2, glob3, glob4, glob5, glob6, glob7, glob8, glob9]
  refine (needmove_ok h ha hb).to fun s1 h1 => (earned_in_ok h ha hb hb).to fun s3 h3 => ?_
  first | exact ⟨rfl, h1.trans h3⟩ | exact h1.trans h3
theorem greatest_ok {c : Rat} (h : Lad L) (ha : W 30 a) (hb : W 30 b) (hc : W 30 c) (hbc : b ≤ c) : Gives (runF T (n + 8) 42 [lad L, q a, q b, q c] s) s (q (if En L a b b < En L a c c then En L a c c else En L a b b)) := by
  refine run_to d_greatest_loss rfl ?_
  have hn : ¬ c < b := by grind
  simp only [c_greatest_loss, w_int, w_bl, w_non, w_no, w_str, w_nil, w_one, w_var, toVar_some, w_glob, toGl_some, toTup_tup, toBl_true, toBl_false, w_cons, w_tup, w_lst, w_bin, w_cmp, w_chain, w_not, w_and, w_or, w_ife, toInt_int, w_neg, w_idx, w_slice, w_isi, w_call, w_blt, toSeq_tup, w_star, w_rev, onNx_nx, onNx_rt, onNx_ct, x_skip, x_seq, toSl_some, x_set, x_setC, x_par, x_ret, x_expr, x_cont, x_sif, onRt_rt, onRt_nx, onTurn_nx, onTurn_ct, onTurn_rt, lay, layN, List.map_cons, List.map_nil, List.getElem?_cons_zero, List.getElem?_cons_succ, Nat.sub_self, List.replicate_zero, List.replicate_succ, List.append_nil, List.cons_append, List.nil_append, List.set_cons_zero, List.set_cons_succ, Nat.reduceSub, to_ok, wipeP, true_and, glob0, glob1, glob2, glob3, glob4, glob5, glob6, glob7, glob8, glob9]
  refine (needmove_ok h ha hb).to fun s1 h1 => (needfrac_ok (hc.mono (by decide))).to fun s2 h2 => ?_
  simp only [w_int, w_bl, w_non, w_no, w_str, w_nil, w_one, w_var, toVar_some, w_glob, toGl_some, toTup_tup, toBl_true, toBl_false, w_cons, w_tup, w_lst, w_bin, w_cmp, w_chain, w_not, w_and, w_or, w_ife, toInt_int, w_neg, w_idx, w_slice, w_isi, w_call, w_blt, toSeq_tup, w_star, w_rev, onNx_nx, onNx_rt, onNx_ct, x_skip, x_seq, toSl_some, x_set, x_setC, x_par, x_ret, x_expr, x_cont, x_sif, onRt_rt, onRt_nx, onTurn_nx, onTurn_ct, onTurn_rt, lay, layN, List.map_cons, List.map_nil, List.getElem?_cons_zero, List.getElem?_cons_succ, Nat.sub_self, List.replicate_zero, List.replicate_succ, List.append_nil, List.cons_append, List.nil_append, List.set_cons_zero, List.set_cons_succ, Nat.reduceSub, to_ok, wipeP, true_and, glob0, glob1, glob2, glob3, glob4, glob5, glob6, glob7, glob8, glob9, under_ok (w20 hc) (w20 hb), hn, decide_false]
  refine (earned_in_ok h ha hb hb).to fun s3 h3 => (earned_in_ok h ha hc hc).to fun s4 h4 => ?_
  try simp only [w_int, w_bl, w_non, w_no, w_str, w_nil, w_one, w_var, toVar_some, w_glob, toGl_some, toTup_tup, toBl_true, toBl_false, w_cons, w_tup, w_lst, w_bin, w_cmp, w_chain, w_not, w_and, w_or, w_ife, toInt_int, w_neg, w_idx, w_slice, w_isi, w_call, w_blt, toSeq_tup, w_star, w_rev, onNx_nx, onNx_rt, onNx_ct, x_skip, x_seq, toSl_some, x_set, x_setC, x_par, x_ret, x_expr, x_cont, x_sif, onRt_rt, onRt_nx, onTurn_nx, onTurn_ct, onTurn_rt, lay, layN, List.map_cons, List.map_nil, List.getElem?_cons_zero, List.getElem?_cons_succ, Nat.sub_self, List.replicate_zero, List.replicate_succ, List.append_nil, List.cons_append, List.nil_append, List.set_cons_zero, List.set_cons_succ, Nat.reduceSub, to_ok, wipeP, true_and, glob0, glob1, glob2, glob3, glob4, glob5, glob6, glob7, glob8, glob9]
  rw [under_ok ((W_En h (hb.mono (by decide))).mono (by decide)) ((W_En h (hc.mono (by decide))).mono (by decide))]
  by_cases hlt : En L a b b < En L a c c
  · simp only [hlt, decide_true, w_int, w_bl, w_non, w_no, w_str, w_nil, w_one, w_var, toVar_some, w_glob, toGl_some, toTup_tup, toBl_true, toBl_false, w_cons, w_tup, w_lst, w_bin, w_cmp, w_chain, w_not, w_and, w_or, w_ife, toInt_int, w_neg, w_idx, w_slice, w_isi, w_call, w_blt, toSeq_tup, w_star, w_rev, onNx_nx, onNx_rt, onNx_ct, x_skip, x_seq, toSl_some, x_set, x_setC, x_par, x_ret, x_expr, x_cont, x_sif, onRt_rt, onRt_nx, onTurn_nx, onTurn_ct, onTurn_rt, lay, layN, List.map_cons, List.map_nil, List.getElem?_cons_zero, List.getElem?_cons_succ, Nat.sub_self, List.replicate_zero, List.replicate_succ, List.append_nil, List.cons_append, List.nil_append, List.set_cons_zero, List.set_cons_succ, Nat.reduceSub, to_ok, wipeP, true_and, glob0, glob1, glob2, glob3, glob4, glob5, glob6, glob7, glob8, glob9, if_true]
    exact ((h1.trans h2).trans h3).trans h4
  · simp only [hlt, decide_false, w_int, w_bl, w_non, w_no, w_str, w_nil, w_one, w_var, toVar_some, w_glob, toGl_some, toTup_tup, toBl_true, toBl_false, w_cons, w_tup, w_lst, w_bin, w_cmp, w_chain, w_not, w_and, w_or, w_ife, toInt_int, w_neg, w_idx, w_slice, w_isi, w_call, w_blt, toSeq_tup, w_star, w_rev, onNx_nx, onNx_rt, onNx_ct, x_skip, x_seq, toSl_some, x_set, x_setC, x_par, x_ret, x_expr, x_cont, x_sif, onRt_rt, onRt_nx, onTurn_nx, onTurn_ct, onTurn_rt, lay, layN, List.map_cons, List.map_nil, List.getElem?_cons_zero, List.getElem?_cons_succ, Nat.sub_self, List.replicate_zero, List.replicate_succ, List.append_nil, List.cons_append, List.nil_append, List.set_cons_zero, List.set_cons_succ, Nat.reduceSub, to_ok, wipeP, true_and, glob0, glob1, glob2, glob3, glob4, glob5, glob6, glob7, glob8, glob9, if_false]
    exact ((h1.trans h2).trans h3).trans h4
end
end K69

namespace K69
open PySem FI GI
/-- pieces of a score: marks, and the one stretch of no price -/
inductive Pc where
  | mk (p : Rat × Rat)
  | st
def pv : Pc → PV
  | .mk p => mk p
  | .st => .tup [.str "stretch", q 0, q 1, q 0]
structure Sco (sc : List Pc) : Prop where
  len : sc.length ≤ 10
  ok : ∀ p, Pc.mk p ∈ sc → W 20 p.1 ∧ W 20 p.2 ∧ 0 ≤ p.2
section
variable {n : Nat} {a b : Rat} {s : Sto} {p : Rat × Rat} {L : List (Rat × Rat)} {Q : PV → Sto → Prop} {sc : List Pc}
theorem mk_0 : (evIdx (mk p) (.int 0) s).to Q = Q (.str "mark") s := rfl
theorem mk_1 : (evIdx (mk p) (.int 1) s).to Q = Q (q p.1) s := rfl
theorem mk_2 : (evIdx (mk p) (.int 2) s).to Q = Q (q p.2) s := rfl
theorem mk_m1 : (evIdx (mk p) (.int (-1)) s).to Q = Q (q p.2) s := rfl
theorem st_0 : (evIdx (pv .st) (.int 0) s).to Q = Q (.str "stretch") s := rfl
theorem st_1 : (evIdx (pv .st) (.int 1) s).to Q = Q (q 0) s := rfl
theorem st_2 : (evIdx (pv .st) (.int 2) s).to Q = Q (q 1) s := rfl
theorem st_3 : (evIdx (pv .st) (.int 3) s).to Q = Q (q 0) s := rfl
theorem st_m1 : (evIdx (pv .st) (.int (-1)) s).to Q = Q (q 0) s := rfl
theorem eq_mm : (evCmp .eq (.str "mark") (.str "mark") s).to Q = Q (.bl true) s := by
  have e : eqP s (.str "mark") (.str "mark") = some true := by
    simp only [eqP, toD]
    decide +kernel
  simp only [evCmp, e, to_ok]
theorem eq_sm : (evCmp .eq (.str "stretch") (.str "mark") s).to Q = Q (.bl false) s := by
  have e : eqP s (.str "stretch") (.str "mark") = some false := by
    simp only [eqP, toD]
    decide +kernel
  simp only [evCmp, e, to_ok]
theorem eq_ms : (evCmp .eq (.str "mark") (.str "stretch") s).to Q = Q (.bl false) s := by
  have e : eqP s (.str "mark") (.str "stretch") = some false := by
    simp only [eqP, toD]
    decide +kernel
  simp only [evCmp, e, to_ok]
theorem eq_ss : (evCmp .eq (.str "stretch") (.str "stretch") s).to Q = Q (.bl true) s := by
  have e : eqP s (.str "stretch") (.str "stretch") = some true := by
    simp only [eqP, toD]
    decide +kernel
  simp only [evCmp, e, to_ok]
theorem len_mk : (evBlt .len [mk p] s).to Q = Q (.int 3) s := rfl
theorem len_st : (evBlt .len [pv .st] s).to Q = Q (.int 4) s := rfl
theorem W1 : W 1 0 := W.zero
theorem W_one : W 2 1 := ⟨by decide, by decide⟩
theorem W_half : W 2 (1 / 2) := ⟨by rw [half_num]; decide, by rw [half_den]; decide⟩
theorem all_true {α : Type} {l : List α} : l.all (fun _ => true) = true := by induction l <;> simp_all
/-- a piece is a piece -/
theorem ispiece_mk (h1 : W 20 p.1) (h2 : W 20 p.2) (h : 0 ≤ p.2) : Gives (runF T (n + 3) 11 [mk p] s) s (.bl true) := by
  refine run_to d_is_piece rfl ?_
  simp only [c_is_piece, w_int, w_bl, w_non, w_no, w_str, w_nil, w_one, w_var, toVar_some, w_glob, toGl_some, toTup_tup, toBl_true, toBl_false, w_cons, w_tup, w_lst, w_bin, w_cmp, w_chain, w_not, w_and, w_or, w_ife, toInt_int, w_neg, w_idx, w_slice, w_isi, w_call, w_blt, toSeq_tup, w_star, w_rev, onNx_nx, onNx_rt, onNx_ct, x_skip, x_seq, toSl_some, x_set, x_setC, x_par, x_ret, x_expr, x_cont, x_sif, onRt_rt, onRt_nx, onTurn_nx, onTurn_ct, onTurn_rt, lay, layN, List.map_cons, List.map_nil, List.getElem?_cons_zero, List.getElem?_cons_succ, Nat.sub_self, List.replicate_zero, List.replicate_succ, List.append_nil, List.cons_append, List.nil_append, List.set_cons_zero, List.set_cons_succ, Nat.reduceSub, to_ok, wipeP, true_and, glob0, glob1, glob2, glob3, glob4, glob5, glob6, glob7, glob8, glob9, len_mk]
  refine ⟨true, rfl, ?_⟩
  simp only [w_int, w_bl, w_non, w_no, w_str, w_nil, w_one, w_var, toVar_some, w_glob, toGl_some, toTup_tup, toBl_true, toBl_false, w_cons, w_tup, w_lst, w_bin, w_cmp, w_chain, w_not, w_and, w_or, w_ife, toInt_int, w_neg, w_idx, w_slice, w_isi, w_call, w_blt, toSeq_tup, w_star, w_rev, onNx_nx, onNx_rt, onNx_ct, x_skip, x_seq, toSl_some, x_set, x_setC, x_par, x_ret, x_expr, x_cont, x_sif, onRt_rt, onRt_nx, onTurn_nx, onTurn_ct, onTurn_rt, lay, layN, List.map_cons, List.map_nil, List.getElem?_cons_zero, List.getElem?_cons_succ, Nat.sub_self, List.replicate_zero, List.replicate_succ, List.append_nil, List.cons_append, List.nil_append, List.set_cons_zero, List.set_cons_succ, Nat.reduceSub, to_ok, wipeP, true_and, glob0, glob1, glob2, glob3, glob4, glob5, glob6, glob7, glob8, glob9]
  refine ⟨by simp [cap], ?_⟩
  have e1 : ∀ {Q' : PV → Sto → Prop}, (evCmp .notin (.int 3) (.tup [.int 3, .int 4]) s).to Q' = Q' (.bl false) s := rfl
  rw [e1]
  simp only [w_int, w_bl, w_non, w_no, w_str, w_nil, w_one, w_var, toVar_some, w_glob, toGl_some, toTup_tup, toBl_true, toBl_false, w_cons, w_tup, w_lst, w_bin, w_cmp, w_chain, w_not, w_and, w_or, w_ife, toInt_int, w_neg, w_idx, w_slice, w_isi, w_call, w_blt, toSeq_tup, w_star, w_rev, onNx_nx, onNx_rt, onNx_ct, x_skip, x_seq, toSl_some, x_set, x_setC, x_par, x_ret, x_expr, x_cont, x_sif, onRt_rt, onRt_nx, onTurn_nx, onTurn_ct, onTurn_rt, lay, layN, List.map_cons, List.map_nil, List.getElem?_cons_zero, List.getElem?_cons_succ, Nat.sub_self, List.replicate_zero, List.replicate_succ, List.append_nil, List.cons_append, List.nil_append, List.set_cons_zero, List.set_cons_succ, Nat.reduceSub, to_ok, wipeP, true_and, glob0, glob1, glob2, glob3, glob4, glob5, glob6, glob7, glob8, glob9]
  refine comp_pure [p.1, p.2] q (fun _ => some (.bl true)) ?_ (by simp [cap]) (fun x hx s' hs => ?_) fun i s' hf hA hi => ?_
  · simp only [j_seq, w_int, w_bl, w_non, w_no, w_str, w_nil, w_one, w_var, toVar_some, w_glob, toGl_some, toTup_tup, toBl_true, toBl_false, w_cons, w_tup, w_lst, w_bin, w_cmp, w_chain, w_not, w_and, w_or, w_ife, toInt_int, w_neg, w_idx, w_slice, w_isi, w_call, w_blt, toSeq_tup, w_star, w_rev, onNx_nx, onNx_rt, onNx_ct, x_skip, x_seq, toSl_some, x_set, x_setC, x_par, x_ret, x_expr, x_cont, x_sif, onRt_rt, onRt_nx, onTurn_nx, onTurn_ct, onTurn_rt, lay, layN, List.map_cons, List.map_nil, List.getElem?_cons_zero, List.getElem?_cons_succ, Nat.sub_self, List.replicate_zero, List.replicate_succ, List.append_nil, List.cons_append, List.nil_append, List.set_cons_zero, List.set_cons_succ, Nat.reduceSub, to_ok, wipeP, true_and, glob0, glob1, glob2, glob3, glob4, glob5, glob6, glob7, glob8, glob9]
    refine ⟨some 1, none, rfl, rfl, ?_⟩
    exact ⟨rfl, sees_t (L := [p.1, p.2]), .refl⟩
  · have hw : W 20 x := by
      rcases List.mem_cons.mp hx with rfl | hx
      · exact h1
      · rw [List.mem_singleton.mp hx]; exact h2
    simp only [Turn, w_int, w_bl, w_non, w_no, w_str, w_nil, w_one, w_var, toVar_some, w_glob, toGl_some, toTup_tup, toBl_true, toBl_false, w_cons, w_tup, w_lst, w_bin, w_cmp, w_chain, w_not, w_and, w_or, w_ife, toInt_int, w_neg, w_idx, w_slice, w_isi, w_call, w_blt, toSeq_tup, w_star, w_rev, onNx_nx, onNx_rt, onNx_ct, x_skip, x_seq, toSl_some, x_set, x_setC, x_par, x_ret, x_expr, x_cont, x_sif, onRt_rt, onRt_nx, onTurn_nx, onTurn_ct, onTurn_rt, lay, layN, List.map_cons, List.map_nil, List.getElem?_cons_zero, List.getElem?_cons_succ, Nat.sub_self, List.replicate_zero, List.replicate_succ, List.append_nil, List.cons_append, List.nil_append, List.set_cons_zero, List.set_cons_succ, Nat.reduceSub, to_ok, wipeP, true_and, glob0, glob1, glob2, glob3, glob4, glob5, glob6, glob7, glob8, glob9]
    refine (isfrac_ok (hw.mono (by decide))).to fun s'' h'' => ?_
    exact ⟨rfl, h''⟩
  · rw [fm_some] at hA
    have hn : ¬ p.2 < 0 := by grind
    simp only [w_int, w_bl, w_non, w_no, w_str, w_nil, w_one, w_var, toVar_some, w_glob, toGl_some, toTup_tup, toBl_true, toBl_false, w_cons, w_tup, w_lst, w_bin, w_cmp, w_chain, w_not, w_and, w_or, w_ife, toInt_int, w_neg, w_idx, w_slice, w_isi, w_call, w_blt, toSeq_tup, w_star, w_rev, onNx_nx, onNx_rt, onNx_ct, x_skip, x_seq, toSl_some, x_set, x_setC, x_par, x_ret, x_expr, x_cont, x_sif, onRt_rt, onRt_nx, onTurn_nx, onTurn_ct, onTurn_rt, lay, layN, List.map_cons, List.map_nil, List.getElem?_cons_zero, List.getElem?_cons_succ, Nat.sub_self, List.replicate_zero, List.replicate_succ, List.append_nil, List.cons_append, List.nil_append, List.set_cons_zero, List.set_cons_succ, Nat.reduceSub, to_ok, wipeP, true_and, glob0, glob1, glob2, glob3, glob4, glob5, glob6, glob7, glob8, glob9, all_lst hA, all_true, mk_0]
    refine ⟨true, rfl, ?_⟩
    simp only [w_int, w_bl, w_non, w_no, w_str, w_nil, w_one, w_var, toVar_some, w_glob, toGl_some, toTup_tup, toBl_true, toBl_false, w_cons, w_tup, w_lst, w_bin, w_cmp, w_chain, w_not, w_and, w_or, w_ife, toInt_int, w_neg, w_idx, w_slice, w_isi, w_call, w_blt, toSeq_tup, w_star, w_rev, onNx_nx, onNx_rt, onNx_ct, x_skip, x_seq, toSl_some, x_set, x_setC, x_par, x_ret, x_expr, x_cont, x_sif, onRt_rt, onRt_nx, onTurn_nx, onTurn_ct, onTurn_rt, lay, layN, List.map_cons, List.map_nil, List.getElem?_cons_zero, List.getElem?_cons_succ, Nat.sub_self, List.replicate_zero, List.replicate_succ, List.append_nil, List.cons_append, List.nil_append, List.set_cons_zero, List.set_cons_succ, Nat.reduceSub, to_ok, wipeP, true_and, glob0, glob1, glob2, glob3, glob4, glob5, glob6, glob7, glob8, glob9, mk_m1, under_ok (w20 h2) W0, hn, decide_false, len_mk, w_eqI, decide_true, mk_0, eq_mm]
    exact hf
theorem ispiece_st : Gives (runF T (n + 3) 11 [pv .st] s) s (.bl true) := by
  refine run_to d_is_piece rfl ?_
  simp only [c_is_piece, w_int, w_bl, w_non, w_no, w_str, w_nil, w_one, w_var, toVar_some, w_glob, toGl_some, toTup_tup, toBl_true, toBl_false, w_cons, w_tup, w_lst, w_bin, w_cmp, w_chain, w_not, w_and, w_or, w_ife, toInt_int, w_neg, w_idx, w_slice, w_isi, w_call, w_blt, toSeq_tup, w_star, w_rev, onNx_nx, onNx_rt, onNx_ct, x_skip, x_seq, toSl_some, x_set, x_setC, x_par, x_ret, x_expr, x_cont, x_sif, onRt_rt, onRt_nx, onTurn_nx, onTurn_ct, onTurn_rt, lay, layN, List.map_cons, List.map_nil, List.getElem?_cons_zero, List.getElem?_cons_succ, Nat.sub_self, List.replicate_zero, List.replicate_succ, List.append_nil, List.cons_append, List.nil_append, List.set_cons_zero, List.set_cons_succ, Nat.reduceSub, to_ok, wipeP, true_and, glob0, glob1, glob2, glob3, glob4, glob5, glob6, glob7, glob8, glob9, len_st]
  refine ⟨true, rfl, ?_⟩
  simp only [w_int, w_bl, w_non, w_no, w_str, w_nil, w_one, w_var, toVar_some, w_glob, toGl_some, toTup_tup, toBl_true, toBl_false, w_cons, w_tup, w_lst, w_bin, w_cmp, w_chain, w_not, w_and, w_or, w_ife, toInt_int, w_neg, w_idx, w_slice, w_isi, w_call, w_blt, toSeq_tup, w_star, w_rev, onNx_nx, onNx_rt, onNx_ct, x_skip, x_seq, toSl_some, x_set, x_setC, x_par, x_ret, x_expr, x_cont, x_sif, onRt_rt, onRt_nx, onTurn_nx, onTurn_ct, onTurn_rt, lay, layN, List.map_cons, List.map_nil, List.getElem?_cons_zero, List.getElem?_cons_succ, Nat.sub_self, List.replicate_zero, List.replicate_succ, List.append_nil, List.cons_append, List.nil_append, List.set_cons_zero, List.set_cons_succ, Nat.reduceSub, to_ok, wipeP, true_and, glob0, glob1, glob2, glob3, glob4, glob5, glob6, glob7, glob8, glob9]
  refine ⟨by simp [cap], ?_⟩
  have e1 : ∀ {Q' : PV → Sto → Prop}, (evCmp .notin (.int 4) (.tup [.int 3, .int 4]) s).to Q' = Q' (.bl false) s := rfl
  rw [e1]
  simp only [w_int, w_bl, w_non, w_no, w_str, w_nil, w_one, w_var, toVar_some, w_glob, toGl_some, toTup_tup, toBl_true, toBl_false, w_cons, w_tup, w_lst, w_bin, w_cmp, w_chain, w_not, w_and, w_or, w_ife, toInt_int, w_neg, w_idx, w_slice, w_isi, w_call, w_blt, toSeq_tup, w_star, w_rev, onNx_nx, onNx_rt, onNx_ct, x_skip, x_seq, toSl_some, x_set, x_setC, x_par, x_ret, x_expr, x_cont, x_sif, onRt_rt, onRt_nx, onTurn_nx, onTurn_ct, onTurn_rt, lay, layN, List.map_cons, List.map_nil, List.getElem?_cons_zero, List.getElem?_cons_succ, Nat.sub_self, List.replicate_zero, List.replicate_succ, List.append_nil, List.cons_append, List.nil_append, List.set_cons_zero, List.set_cons_succ, Nat.reduceSub, to_ok, wipeP, true_and, glob0, glob1, glob2, glob3, glob4, glob5, glob6, glob7, glob8, glob9]
  refine comp_pure [0, 1, 0] q (fun _ => some (.bl true)) ?_ (by simp [cap]) (fun x hx s' hs => ?_) fun i s' hf hA hi => ?_
  · simp only [j_seq, w_int, w_bl, w_non, w_no, w_str, w_nil, w_one, w_var, toVar_some, w_glob, toGl_some, toTup_tup, toBl_true, toBl_false, w_cons, w_tup, w_lst, w_bin, w_cmp, w_chain, w_not, w_and, w_or, w_ife, toInt_int, w_neg, w_idx, w_slice, w_isi, w_call, w_blt, toSeq_tup, w_star, w_rev, onNx_nx, onNx_rt, onNx_ct, x_skip, x_seq, toSl_some, x_set, x_setC, x_par, x_ret, x_expr, x_cont, x_sif, onRt_rt, onRt_nx, onTurn_nx, onTurn_ct, onTurn_rt, lay, layN, List.map_cons, List.map_nil, List.getElem?_cons_zero, List.getElem?_cons_succ, Nat.sub_self, List.replicate_zero, List.replicate_succ, List.append_nil, List.cons_append, List.nil_append, List.set_cons_zero, List.set_cons_succ, Nat.reduceSub, to_ok, wipeP, true_and, glob0, glob1, glob2, glob3, glob4, glob5, glob6, glob7, glob8, glob9]
    refine ⟨some 1, none, rfl, rfl, ?_⟩
    exact ⟨rfl, sees_t (L := [0, 1, 0]), .refl⟩
  · have hw : W 20 x := by
      simp only [List.mem_cons, List.not_mem_nil, or_false] at hx
      rcases hx with rfl | rfl | rfl
      · exact W1.mono (by decide)
      · exact W_one.mono (by decide)
      · exact W1.mono (by decide)
    simp only [Turn, w_int, w_bl, w_non, w_no, w_str, w_nil, w_one, w_var, toVar_some, w_glob, toGl_some, toTup_tup, toBl_true, toBl_false, w_cons, w_tup, w_lst, w_bin, w_cmp, w_chain, w_not, w_and, w_or, w_ife, toInt_int, w_neg, w_idx, w_slice, w_isi, w_call, w_blt, toSeq_tup, w_star, w_rev, onNx_nx, onNx_rt, onNx_ct, x_skip, x_seq, toSl_some, x_set, x_setC, x_par, x_ret, x_expr, x_cont, x_sif, onRt_rt, onRt_nx, onTurn_nx, onTurn_ct, onTurn_rt, lay, layN, List.map_cons, List.map_nil, List.getElem?_cons_zero, List.getElem?_cons_succ, Nat.sub_self, List.replicate_zero, List.replicate_succ, List.append_nil, List.cons_append, List.nil_append, List.set_cons_zero, List.set_cons_succ, Nat.reduceSub, to_ok, wipeP, true_and, glob0, glob1, glob2, glob3, glob4, glob5, glob6, glob7, glob8, glob9]
    refine (isfrac_ok (hw.mono (by decide))).to fun s'' h'' => ?_
    exact ⟨rfl, h''⟩
  · rw [fm_some] at hA
    have hn : ¬ (0 : Rat) < 0 := by grind
    have hp : (0 : Rat) < 1 := by grind
    have h4 : ¬ ((4 : Int) = 3) := by decide
    simp only [w_int, w_bl, w_non, w_no, w_str, w_nil, w_one, w_var, toVar_some, w_glob, toGl_some, toTup_tup, toBl_true, toBl_false, w_cons, w_tup, w_lst, w_bin, w_cmp, w_chain, w_not, w_and, w_or, w_ife, toInt_int, w_neg, w_idx, w_slice, w_isi, w_call, w_blt, toSeq_tup, w_star, w_rev, onNx_nx, onNx_rt, onNx_ct, x_skip, x_seq, toSl_some, x_set, x_setC, x_par, x_ret, x_expr, x_cont, x_sif, onRt_rt, onRt_nx, onTurn_nx, onTurn_ct, onTurn_rt, lay, layN, List.map_cons, List.map_nil, List.getElem?_cons_zero, List.getElem?_cons_succ, Nat.sub_self, List.replicate_zero, List.replicate_succ, List.append_nil, List.cons_append, List.nil_append, List.set_cons_zero, List.set_cons_succ, Nat.reduceSub, to_ok, wipeP, true_and, glob0, glob1, glob2, glob3, glob4, glob5, glob6, glob7, glob8, glob9, all_lst hA, all_true, st_0]
    refine ⟨true, rfl, ?_⟩
    simp only [w_int, w_bl, w_non, w_no, w_str, w_nil, w_one, w_var, toVar_some, w_glob, toGl_some, toTup_tup, toBl_true, toBl_false, w_cons, w_tup, w_lst, w_bin, w_cmp, w_chain, w_not, w_and, w_or, w_ife, toInt_int, w_neg, w_idx, w_slice, w_isi, w_call, w_blt, toSeq_tup, w_star, w_rev, onNx_nx, onNx_rt, onNx_ct, x_skip, x_seq, toSl_some, x_set, x_setC, x_par, x_ret, x_expr, x_cont, x_sif, onRt_rt, onRt_nx, onTurn_nx, onTurn_ct, onTurn_rt, lay, layN, List.map_cons, List.map_nil, List.getElem?_cons_zero, List.getElem?_cons_succ, Nat.sub_self, List.replicate_zero, List.replicate_succ, List.append_nil, List.cons_append, List.nil_append, List.set_cons_zero, List.set_cons_succ, Nat.reduceSub, to_ok, wipeP, true_and, glob0, glob1, glob2, glob3, glob4, glob5, glob6, glob7, glob8, glob9, st_m1, under_ok W0 W0, hn, decide_false, len_st, w_eqI, h4, decide_true, st_0, eq_ss, st_1, st_2, under_ok W0 (W_one.mono (by decide : 2 ≤ 4000)), hp]
    exact hf
theorem needscore_ok (h : Sco sc) : Gives (runF T (n + 4) 12 [.tup (sc.map pv)] s) s (.tup (sc.map pv)) := by
  refine run_to d_need_score rfl ?_
  have hl := h.len
  have e : (decide ((10 : Int) < (sc.map pv).length)) = false := by simp; omega
  simp only [c_need_score, w_int, w_bl, w_non, w_no, w_str, w_nil, w_one, w_var, toVar_some, w_glob, toGl_some, toTup_tup, toBl_true, toBl_false, w_cons, w_tup, w_lst, w_bin, w_cmp, w_chain, w_not, w_and, w_or, w_ife, toInt_int, w_neg, w_idx, w_slice, w_isi, w_call, w_blt, toSeq_tup, w_star, w_rev, onNx_nx, onNx_rt, onNx_ct, x_skip, x_seq, toSl_some, x_set, x_setC, x_par, x_ret, x_expr, x_cont, x_sif, onRt_rt, onRt_nx, onTurn_nx, onTurn_ct, onTurn_rt, lay, layN, List.map_cons, List.map_nil, List.getElem?_cons_zero, List.getElem?_cons_succ, Nat.sub_self, List.replicate_zero, List.replicate_succ, List.append_nil, List.cons_append, List.nil_append, List.set_cons_zero, List.set_cons_succ, Nat.reduceSub, to_ok, wipeP, true_and, glob0, glob1, glob2, glob3, glob4, glob5, glob6, glob7, glob8, glob9, isTy_tup, len_tup, w_gt, e]
  refine ⟨true, rfl, ?_⟩
  simp only [w_int, w_bl, w_non, w_no, w_str, w_nil, w_one, w_var, toVar_some, w_glob, toGl_some, toTup_tup, toBl_true, toBl_false, w_cons, w_tup, w_lst, w_bin, w_cmp, w_chain, w_not, w_and, w_or, w_ife, toInt_int, w_neg, w_idx, w_slice, w_isi, w_call, w_blt, toSeq_tup, w_star, w_rev, onNx_nx, onNx_rt, onNx_ct, x_skip, x_seq, toSl_some, x_set, x_setC, x_par, x_ret, x_expr, x_cont, x_sif, onRt_rt, onRt_nx, onTurn_nx, onTurn_ct, onTurn_rt, lay, layN, List.map_cons, List.map_nil, List.getElem?_cons_zero, List.getElem?_cons_succ, Nat.sub_self, List.replicate_zero, List.replicate_succ, List.append_nil, List.cons_append, List.nil_append, List.set_cons_zero, List.set_cons_succ, Nat.reduceSub, to_ok, wipeP, true_and, glob0, glob1, glob2, glob3, glob4, glob5, glob6, glob7, glob8, glob9]
  refine x_for sc.zipIdx (fun p => .tup [.int (p.2 : Int), pv p.1]) (Fr [] s) (fun k σ s' => Fr [] s s' ∧ ∃ o o', σ = [some (.tup (sc.map pv)), o, o']) ?_ (fun k σ s' h => h.1) (fun k x σ s' hx ⟨hf, o, o', eσ⟩ => ?_) (fun σ s' ⟨hf, o, o', eσ⟩ => ?_)
  · simp only [evI, to_bind, w_int, w_bl, w_non, w_no, w_str, w_nil, w_one, w_var, toVar_some, w_glob, toGl_some, toTup_tup, toBl_true, toBl_false, w_cons, w_tup, w_lst, w_bin, w_cmp, w_chain, w_not, w_and, w_or, w_ife, toInt_int, w_neg, w_idx, w_slice, w_isi, w_call, w_blt, toSeq_tup, w_star, w_rev, onNx_nx, onNx_rt, onNx_ct, x_skip, x_seq, toSl_some, x_set, x_setC, x_par, x_ret, x_expr, x_cont, x_sif, onRt_rt, onRt_nx, onTurn_nx, onTurn_ct, onTurn_rt, lay, layN, List.map_cons, List.map_nil, List.getElem?_cons_zero, List.getElem?_cons_succ, Nat.sub_self, List.replicate_zero, List.replicate_succ, List.append_nil, List.cons_append, List.nil_append, List.set_cons_zero, List.set_cons_succ, Nat.reduceSub, to_ok, wipeP, true_and, glob0, glob1, glob2, glob3, glob4, glob5, glob6, glob7, glob8, glob9, seqIt]
    exact ⟨by simp [It.most], sees_en_t (L := sc), .refl, none, none, rfl⟩
  · subst eσ
    have hm : x.1 ∈ sc := by
      obtain ⟨y, k'⟩ := x
      exact (List.mem_zipIdx' (List.mem_of_getElem? hx)).2 ▸ List.getElem_mem _
    obtain ⟨x, k'⟩ := x
    simp only [w_int, w_bl, w_non, w_no, w_str, w_nil, w_one, w_var, toVar_some, w_glob, toGl_some, toTup_tup, toBl_true, toBl_false, w_cons, w_tup, w_lst, w_bin, w_cmp, w_chain, w_not, w_and, w_or, w_ife, toInt_int, w_neg, w_idx, w_slice, w_isi, w_call, w_blt, toSeq_tup, w_star, w_rev, onNx_nx, onNx_rt, onNx_ct, x_skip, x_seq, toSl_some, x_set, x_setC, x_par, x_ret, x_expr, x_cont, x_sif, onRt_rt, onRt_nx, onTurn_nx, onTurn_ct, onTurn_rt, lay, layN, List.map_cons, List.map_nil, List.getElem?_cons_zero, List.getElem?_cons_succ, Nat.sub_self, List.replicate_zero, List.replicate_succ, List.append_nil, List.cons_append, List.nil_append, List.set_cons_zero, List.set_cons_succ, Nat.reduceSub, to_ok, wipeP, true_and, glob0, glob1, glob2, glob3, glob4, glob5, glob6, glob7, glob8, glob9]
    have : Gives (runF T (n + 3) 11 [pv x] s') s' (.bl true) := by
      cases x with
      | st => exact ispiece_st
      | mk p => have hk := h.ok p hm; exact ispiece_mk hk.1 hk.2.1 hk.2.2
    refine this.to fun s1 hs1 => ?_
    simp only [w_int, w_bl, w_non, w_no, w_str, w_nil, w_one, w_var, toVar_some, w_glob, toGl_some, toTup_tup, toBl_true, toBl_false, w_cons, w_tup, w_lst, w_bin, w_cmp, w_chain, w_not, w_and, w_or, w_ife, toInt_int, w_neg, w_idx, w_slice, w_isi, w_call, w_blt, toSeq_tup, w_star, w_rev, onNx_nx, onNx_rt, onNx_ct, x_skip, x_seq, toSl_some, x_set, x_setC, x_par, x_ret, x_expr, x_cont, x_sif, onRt_rt, onRt_nx, onTurn_nx, onTurn_ct, onTurn_rt, lay, layN, List.map_cons, List.map_nil, List.getElem?_cons_zero, List.getElem?_cons_succ, Nat.sub_self, List.replicate_zero, List.replicate_succ, List.append_nil, List.cons_append, List.nil_append, List.set_cons_zero, List.set_cons_succ, Nat.reduceSub, to_ok, wipeP, true_and, glob0, glob1, glob2, glob3, glob4, glob5, glob6, glob7, glob8, glob9]
    exact ⟨hf.trans hs1, _, _, rfl⟩
  · subst eσ
    simp only [w_int, w_bl, w_non, w_no, w_str, w_nil, w_one, w_var, toVar_some, w_glob, toGl_some, toTup_tup, toBl_true, toBl_false, w_cons, w_tup, w_lst, w_bin, w_cmp, w_chain, w_not, w_and, w_or, w_ife, toInt_int, w_neg, w_idx, w_slice, w_isi, w_call, w_blt, toSeq_tup, w_star, w_rev, onNx_nx, onNx_rt, onNx_ct, x_skip, x_seq, toSl_some, x_set, x_setC, x_par, x_ret, x_expr, x_cont, x_sif, onRt_rt, onRt_nx, onTurn_nx, onTurn_ct, onTurn_rt, lay, layN, List.map_cons, List.map_nil, List.getElem?_cons_zero, List.getElem?_cons_succ, Nat.sub_self, List.replicate_zero, List.replicate_succ, List.append_nil, List.cons_append, List.nil_append, List.set_cons_zero, List.set_cons_succ, Nat.reduceSub, to_ok, wipeP, true_and, glob0, glob1, glob2, glob3, glob4, glob5, glob6, glob7, glob8, glob9]
    exact hf
/-! ### what is passed -/
def pb (reach worth : Rat) : Pc → Rat
  | .mk p => if p.1 ≤ reach then p.2 * (worth - p.1) else 0
  | .st => 0
def Pd (sc : List Pc) (reach worth : Rat) : Rat := S (sc.map (pb reach worth))
theorem passedby_mk (h1 : W 20 p.1) (h2 : W 20 p.2) (ha : W 20 a) (hb : W 20 b) : runF T (n + 4) 21 [mk p, q a, q b] s = .ok (q (pb a b (.mk p))) s := by
  refine eq_of_to fun Q hQ => run_to d_passed_by rfl ?_
  simp only [c_passed_by, w_int, w_bl, w_non, w_no, w_str, w_nil, w_one, w_var, toVar_some, w_glob, toGl_some, toTup_tup, toBl_true, toBl_false, w_cons, w_tup, w_lst, w_bin, w_cmp, w_chain, w_not, w_and, w_or, w_ife, toInt_int, w_neg, w_idx, w_slice, w_isi, w_call, w_blt, toSeq_tup, w_star, w_rev, onNx_nx, onNx_rt, onNx_ct, x_skip, x_seq, toSl_some, x_set, x_setC, x_par, x_ret, x_expr, x_cont, x_sif, onRt_rt, onRt_nx, onTurn_nx, onTurn_ct, onTurn_rt, lay, layN, List.map_cons, List.map_nil, List.getElem?_cons_zero, List.getElem?_cons_succ, Nat.sub_self, List.replicate_zero, List.replicate_succ, List.append_nil, List.cons_append, List.nil_append, List.set_cons_zero, List.set_cons_succ, Nat.reduceSub, to_ok, wipeP, true_and, glob0, glob1, glob2, glob3, glob4, glob5, glob6, glob7, glob8, glob9, mk_0, eq_mm, mk_1, under_ok (w20 ha) (w20 h1)]
  simp only [pb] at hQ
  by_cases h : p.1 ≤ a
  · have hn : ¬ a < p.1 := by grind
    rw [if_pos h] at hQ
    simp only [hn, decide_false, w_int, w_bl, w_non, w_no, w_str, w_nil, w_one, w_var, toVar_some, w_glob, toGl_some, toTup_tup, toBl_true, toBl_false, w_cons, w_tup, w_lst, w_bin, w_cmp, w_chain, w_not, w_and, w_or, w_ife, toInt_int, w_neg, w_idx, w_slice, w_isi, w_call, w_blt, toSeq_tup, w_star, w_rev, onNx_nx, onNx_rt, onNx_ct, x_skip, x_seq, toSl_some, x_set, x_setC, x_par, x_ret, x_expr, x_cont, x_sif, onRt_rt, onRt_nx, onTurn_nx, onTurn_ct, onTurn_rt, lay, layN, List.map_cons, List.map_nil, List.getElem?_cons_zero, List.getElem?_cons_succ, Nat.sub_self, List.replicate_zero, List.replicate_succ, List.append_nil, List.cons_append, List.nil_append, List.set_cons_zero, List.set_cons_succ, Nat.reduceSub, to_ok, wipeP, true_and, glob0, glob1, glob2, glob3, glob4, glob5, glob6, glob7, glob8, glob9, mk_1, mk_2, sub_ok (w20 hb) (w20 h1), mul_ok (w20 h2) ((hb.sub h1).mono (by decide : 20 + 20 + 1 ≤ 4000))]
    exact hQ
  · have hn : a < p.1 := by grind
    rw [if_neg h] at hQ
    simp only [hn, decide_true, w_int, w_bl, w_non, w_no, w_str, w_nil, w_one, w_var, toVar_some, w_glob, toGl_some, toTup_tup, toBl_true, toBl_false, w_cons, w_tup, w_lst, w_bin, w_cmp, w_chain, w_not, w_and, w_or, w_ife, toInt_int, w_neg, w_idx, w_slice, w_isi, w_call, w_blt, toSeq_tup, w_star, w_rev, onNx_nx, onNx_rt, onNx_ct, x_skip, x_seq, toSl_some, x_set, x_setC, x_par, x_ret, x_expr, x_cont, x_sif, onRt_rt, onRt_nx, onTurn_nx, onTurn_ct, onTurn_rt, lay, layN, List.map_cons, List.map_nil, List.getElem?_cons_zero, List.getElem?_cons_succ, Nat.sub_self, List.replicate_zero, List.replicate_succ, List.append_nil, List.cons_append, List.nil_append, List.set_cons_zero, List.set_cons_succ, Nat.reduceSub, to_ok, wipeP, true_and, glob0, glob1, glob2, glob3, glob4, glob5, glob6, glob7, glob8, glob9]
    exact hQ
theorem over_ok (ha : W 20 a) (hb : W 20 b) : runF T (n + 4) 20 [q b, q 0, q a] s = .ok (q (b * (a - 0) - (a * a - 0 * 0) * (1 / 2))) s := by
  refine eq_of_to fun Q hQ => run_to d_over_stretch rfl ?_
  have h0 := W1.mono (by decide : 1 ≤ 20)
  have s1 := (ha.mul ha).sub (h0.mul h0)
  simp only [c_over_stretch, w_int, w_bl, w_non, w_no, w_str, w_nil, w_one, w_var, toVar_some, w_glob, toGl_some, toTup_tup, toBl_true, toBl_false, w_cons, w_tup, w_lst, w_bin, w_cmp, w_chain, w_not, w_and, w_or, w_ife, toInt_int, w_neg, w_idx, w_slice, w_isi, w_call, w_blt, toSeq_tup, w_star, w_rev, onNx_nx, onNx_rt, onNx_ct, x_skip, x_seq, toSl_some, x_set, x_setC, x_par, x_ret, x_expr, x_cont, x_sif, onRt_rt, onRt_nx, onTurn_nx, onTurn_ct, onTurn_rt, lay, layN, List.map_cons, List.map_nil, List.getElem?_cons_zero, List.getElem?_cons_succ, Nat.sub_self, List.replicate_zero, List.replicate_succ, List.append_nil, List.cons_append, List.nil_append, List.set_cons_zero, List.set_cons_succ, Nat.reduceSub, to_ok, wipeP, true_and, glob0, glob1, glob2, glob3, glob4, glob5, glob6, glob7, glob8, glob9, mul_ok (w20 ha) (w20 ha), mul_ok W0 W0, sub_ok ((ha.mul ha).mono (by decide : 40 ≤ 4000)) ((h0.mul h0).mono (by decide : 40 ≤ 4000)), sub_ok (w20 ha) W0, mul_ok (w20 hb) ((ha.sub h0).mono (by decide : 41 ≤ 4000)), mul_ok (s1.mono (by decide : 81 ≤ 4000)) (W_half.mono (by decide : 2 ≤ 4000)), sub_ok ((hb.mul (ha.sub h0)).mono (by decide : 61 ≤ 4000)) ((s1.mul W_half).mono (by decide : 83 ≤ 4000))]
  exact hQ
theorem passedby_st (ha : W 20 a) (hb : W 20 b) : runF T (n + 5) 21 [pv .st, q a, q b] s = .ok (q (pb a b .st)) s := by
  refine eq_of_to fun Q hQ => run_to d_passed_by rfl ?_
  have h1 := W_one.mono (by decide : 2 ≤ 20)
  have h0 := W1.mono (by decide : 1 ≤ 20)
  simp only [c_passed_by, w_int, w_bl, w_non, w_no, w_str, w_nil, w_one, w_var, toVar_some, w_glob, toGl_some, toTup_tup, toBl_true, toBl_false, w_cons, w_tup, w_lst, w_bin, w_cmp, w_chain, w_not, w_and, w_or, w_ife, toInt_int, w_neg, w_idx, w_slice, w_isi, w_call, w_blt, toSeq_tup, w_star, w_rev, onNx_nx, onNx_rt, onNx_ct, x_skip, x_seq, toSl_some, x_set, x_setC, x_par, x_ret, x_expr, x_cont, x_sif, onRt_rt, onRt_nx, onTurn_nx, onTurn_ct, onTurn_rt, lay, layN, List.map_cons, List.map_nil, List.getElem?_cons_zero, List.getElem?_cons_succ, Nat.sub_self, List.replicate_zero, List.replicate_succ, List.append_nil, List.cons_append, List.nil_append, List.set_cons_zero, List.set_cons_succ, Nat.reduceSub, to_ok, wipeP, true_and, glob0, glob1, glob2, glob3, glob4, glob5, glob6, glob7, glob8, glob9, st_0, eq_sm, st_1, under_ok W0 (w20 ha)]
  simp only [pb] at hQ
  by_cases h : 0 < a
  · simp only [h, decide_true, w_int, w_bl, w_non, w_no, w_str, w_nil, w_one, w_var, toVar_some, w_glob, toGl_some, toTup_tup, toBl_true, toBl_false, w_cons, w_tup, w_lst, w_bin, w_cmp, w_chain, w_not, w_and, w_or, w_ife, toInt_int, w_neg, w_idx, w_slice, w_isi, w_call, w_blt, toSeq_tup, w_star, w_rev, onNx_nx, onNx_rt, onNx_ct, x_skip, x_seq, toSl_some, x_set, x_setC, x_par, x_ret, x_expr, x_cont, x_sif, onRt_rt, onRt_nx, onTurn_nx, onTurn_ct, onTurn_rt, lay, layN, List.map_cons, List.map_nil, List.getElem?_cons_zero, List.getElem?_cons_succ, Nat.sub_self, List.replicate_zero, List.replicate_succ, List.append_nil, List.cons_append, List.nil_append, List.set_cons_zero, List.set_cons_succ, Nat.reduceSub, to_ok, wipeP, true_and, glob0, glob1, glob2, glob3, glob4, glob5, glob6, glob7, glob8, glob9, st_2, under_ok (w20 ha) (w20 h1)]
    by_cases h2 : a < 1
    · have s1 := (ha.mul ha).sub (h0.mul h0)
      have s2 := (hb.mul (ha.sub h0)).sub (s1.mul W_half)
      simp only [h2, decide_true, w_int, w_bl, w_non, w_no, w_str, w_nil, w_one, w_var, toVar_some, w_glob, toGl_some, toTup_tup, toBl_true, toBl_false, w_cons, w_tup, w_lst, w_bin, w_cmp, w_chain, w_not, w_and, w_or, w_ife, toInt_int, w_neg, w_idx, w_slice, w_isi, w_call, w_blt, toSeq_tup, w_star, w_rev, onNx_nx, onNx_rt, onNx_ct, x_skip, x_seq, toSl_some, x_set, x_setC, x_par, x_ret, x_expr, x_cont, x_sif, onRt_rt, onRt_nx, onTurn_nx, onTurn_ct, onTurn_rt, lay, layN, List.map_cons, List.map_nil, List.getElem?_cons_zero, List.getElem?_cons_succ, Nat.sub_self, List.replicate_zero, List.replicate_succ, List.append_nil, List.cons_append, List.nil_append, List.set_cons_zero, List.set_cons_succ, Nat.reduceSub, to_ok, wipeP, true_and, glob0, glob1, glob2, glob3, glob4, glob5, glob6, glob7, glob8, glob9, st_3, st_1, over_ok ha hb, mul_ok W0 (s2.mono (by decide : 145 ≤ 4000))]
      rw [Rat.zero_mul]
      exact hQ
    · have s1 := (h1.mul h1).sub (h0.mul h0)
      have s2 := (hb.mul (h1.sub h0)).sub (s1.mul W_half)
      simp only [h2, decide_false, w_int, w_bl, w_non, w_no, w_str, w_nil, w_one, w_var, toVar_some, w_glob, toGl_some, toTup_tup, toBl_true, toBl_false, w_cons, w_tup, w_lst, w_bin, w_cmp, w_chain, w_not, w_and, w_or, w_ife, toInt_int, w_neg, w_idx, w_slice, w_isi, w_call, w_blt, toSeq_tup, w_star, w_rev, onNx_nx, onNx_rt, onNx_ct, x_skip, x_seq, toSl_some, x_set, x_setC, x_par, x_ret, x_expr, x_cont, x_sif, onRt_rt, onRt_nx, onTurn_nx, onTurn_ct, onTurn_rt, lay, layN, List.map_cons, List.map_nil, List.getElem?_cons_zero, List.getElem?_cons_succ, Nat.sub_self, List.replicate_zero, List.replicate_succ, List.append_nil, List.cons_append, List.nil_append, List.set_cons_zero, List.set_cons_succ, Nat.reduceSub, to_ok, wipeP, true_and, glob0, glob1, glob2, glob3, glob4, glob5, glob6, glob7, glob8, glob9, st_3, st_2, st_1, over_ok h1 hb, mul_ok W0 (s2.mono (by decide : 145 ≤ 4000))]
      rw [Rat.zero_mul]
      exact hQ
  · simp only [h, decide_false, w_int, w_bl, w_non, w_no, w_str, w_nil, w_one, w_var, toVar_some, w_glob, toGl_some, toTup_tup, toBl_true, toBl_false, w_cons, w_tup, w_lst, w_bin, w_cmp, w_chain, w_not, w_and, w_or, w_ife, toInt_int, w_neg, w_idx, w_slice, w_isi, w_call, w_blt, toSeq_tup, w_star, w_rev, onNx_nx, onNx_rt, onNx_ct, x_skip, x_seq, toSl_some, x_set, x_setC, x_par, x_ret, x_expr, x_cont, x_sif, onRt_rt, onRt_nx, onTurn_nx, onTurn_ct, onTurn_rt, lay, layN, List.map_cons, List.map_nil, List.getElem?_cons_zero, List.getElem?_cons_succ, Nat.sub_self, List.replicate_zero, List.replicate_succ, List.append_nil, List.cons_append, List.nil_append, List.set_cons_zero, List.set_cons_succ, Nat.reduceSub, to_ok, wipeP, true_and, glob0, glob1, glob2, glob3, glob4, glob5, glob6, glob7, glob8, glob9]
    exact hQ
theorem W_pb (h : Sco sc) (hb : W 20 b) {x : Pc} (hx : x ∈ sc) : W 70 (pb a b x) := by
  cases x with
  | st => exact W1.mono (by decide)
  | mk p =>
    have hk := h.ok p hx
    simp only [pb]
    split
    · exact (hk.2.1.mul (hb.sub hk.1)).mono (by decide)
    · exact W1.mono (by decide)
theorem W_Pd (h : Sco sc) (hb : W 20 b) : W 800 (Pd sc a b) := by
  refine W_St (k := 70) (m := 10) (fun x hx => ?_) (by rw [List.length_map]; exact h.len) (by decide)
  obtain ⟨y, hy, rfl⟩ := List.mem_map.mp hx
  exact W_pb h hb hy
theorem passed_ok (h : Sco sc) (ha : W 20 a) (hb : W 20 b) : Gives (runF T (n + 6) 22 [.tup (sc.map pv), q a, q b] s) s (q (Pd sc a b)) := by
  refine run_to d_passed_in rfl ?_
  simp only [c_passed_in, w_int, w_bl, w_non, w_no, w_str, w_nil, w_one, w_var, toVar_some, w_glob, toGl_some, toTup_tup, toBl_true, toBl_false, w_cons, w_tup, w_lst, w_bin, w_cmp, w_chain, w_not, w_and, w_or, w_ife, toInt_int, w_neg, w_idx, w_slice, w_isi, w_call, w_blt, toSeq_tup, w_star, w_rev, onNx_nx, onNx_rt, onNx_ct, x_skip, x_seq, toSl_some, x_set, x_setC, x_par, x_ret, x_expr, x_cont, x_sif, onRt_rt, onRt_nx, onTurn_nx, onTurn_ct, onTurn_rt, lay, layN, List.map_cons, List.map_nil, List.getElem?_cons_zero, List.getElem?_cons_succ, Nat.sub_self, List.replicate_zero, List.replicate_succ, List.append_nil, List.cons_append, List.nil_append, List.set_cons_zero, List.set_cons_succ, Nat.reduceSub, to_ok, wipeP, true_and, glob0, glob1, glob2, glob3, glob4, glob5, glob6, glob7, glob8, glob9]
  refine comp_pure sc pv (fun x => some (q (pb a b x))) ?_ (by have := h.len; simp [cap]; omega) (fun x hx s' hs => ?_) fun i s' hf hA hi => ?_
  · simp only [j_seq, w_int, w_bl, w_non, w_no, w_str, w_nil, w_one, w_var, toVar_some, w_glob, toGl_some, toTup_tup, toBl_true, toBl_false, w_cons, w_tup, w_lst, w_bin, w_cmp, w_chain, w_not, w_and, w_or, w_ife, toInt_int, w_neg, w_idx, w_slice, w_isi, w_call, w_blt, toSeq_tup, w_star, w_rev, onNx_nx, onNx_rt, onNx_ct, x_skip, x_seq, toSl_some, x_set, x_setC, x_par, x_ret, x_expr, x_cont, x_sif, onRt_rt, onRt_nx, onTurn_nx, onTurn_ct, onTurn_rt, lay, layN, List.map_cons, List.map_nil, List.getElem?_cons_zero, List.getElem?_cons_succ, Nat.sub_self, List.replicate_zero, List.replicate_succ, List.append_nil, List.cons_append, List.nil_append, List.set_cons_zero, List.set_cons_succ, Nat.reduceSub, to_ok, wipeP, true_and, glob0, glob1, glob2, glob3, glob4, glob5, glob6, glob7, glob8, glob9]
    exact ⟨by simp [It.most], sees_t, .refl⟩
  · simp only [Turn, w_int, w_bl, w_non, w_no, w_str, w_nil, w_one, w_var, toVar_some, w_glob, toGl_some, toTup_tup, toBl_true, toBl_false, w_cons, w_tup, w_lst, w_bin, w_cmp, w_chain, w_not, w_and, w_or, w_ife, toInt_int, w_neg, w_idx, w_slice, w_isi, w_call, w_blt, toSeq_tup, w_star, w_rev, onNx_nx, onNx_rt, onNx_ct, x_skip, x_seq, toSl_some, x_set, x_setC, x_par, x_ret, x_expr, x_cont, x_sif, onRt_rt, onRt_nx, onTurn_nx, onTurn_ct, onTurn_rt, lay, layN, List.map_cons, List.map_nil, List.getElem?_cons_zero, List.getElem?_cons_succ, Nat.sub_self, List.replicate_zero, List.replicate_succ, List.append_nil, List.cons_append, List.nil_append, List.set_cons_zero, List.set_cons_succ, Nat.reduceSub, to_ok, wipeP, true_and, glob0, glob1, glob2, glob3, glob4, glob5, glob6, glob7, glob8, glob9]
    cases x with
    | st => rw [passedby_st ha hb]; exact ⟨rfl, .refl⟩
    | mk p => have hk := h.ok p hx; rw [show pv (.mk p) = mk p from rfl, passedby_mk hk.1 hk.2.1 ha hb]; exact ⟨rfl, .refl⟩
  · rw [fm_some, show sc.map (fun x => q (pb a b x)) = (sc.map (pb a b)).map q by simp] at hA
    have hw : ∀ x ∈ sc.map (pb a b), W 70 x := fun x hx => by
      obtain ⟨y, hy, rfl⟩ := List.mem_map.mp hx
      exact W_pb h hb hy
    have hl : (sc.map (pb a b)).length ≤ 10 := by rw [List.length_map]; exact h.len
    try simp only [w_int, w_bl, w_non, w_no, w_str, w_nil, w_one, w_var, toVar_some, w_glob, toGl_some, toTup_tup, toBl_true, toBl_false, w_cons, w_tup, w_lst, w_bin, w_cmp, w_chain, w_not, w_and, w_or, w_ife, toInt_int, w_neg, w_idx, w_slice, w_isi, w_call, w_blt, toSeq_tup, w_star, w_rev, onNx_nx, onNx_rt, onNx_ct, x_skip, x_seq, toSl_some, x_set, x_setC, x_par, x_ret, x_expr, x_cont, x_sif, onRt_rt, onRt_nx, onTurn_nx, onTurn_ct, onTurn_rt, lay, layN, List.map_cons, List.map_nil, List.getElem?_cons_zero, List.getElem?_cons_succ, Nat.sub_self, List.replicate_zero, List.replicate_succ, List.append_nil, List.cons_append, List.nil_append, List.set_cons_zero, List.set_cons_succ, Nat.reduceSub, to_ok, wipeP, true_and, glob0, glob1, glob2, glob3, glob4, glob5, glob6, glob7, glob8, glob9]
    rw [sum_ok hA hw (by decide) (by omega)]
    try simp only [w_int, w_bl, w_non, w_no, w_str, w_nil, w_one, w_var, toVar_some, w_glob, toGl_some, toTup_tup, toBl_true, toBl_false, w_cons, w_tup, w_lst, w_bin, w_cmp, w_chain, w_not, w_and, w_or, w_ife, toInt_int, w_neg, w_idx, w_slice, w_isi, w_call, w_blt, toSeq_tup, w_star, w_rev, onNx_nx, onNx_rt, onNx_ct, x_skip, x_seq, toSl_some, x_set, x_setC, x_par, x_ret, x_expr, x_cont, x_sif, onRt_rt, onRt_nx, onTurn_nx, onTurn_ct, onTurn_rt, lay, layN, List.map_cons, List.map_nil, List.getElem?_cons_zero, List.getElem?_cons_succ, Nat.sub_self, List.replicate_zero, List.replicate_succ, List.append_nil, List.cons_append, List.nil_append, List.set_cons_zero, List.set_cons_succ, Nat.reduceSub, to_ok, wipeP, true_and, glob0, glob1, glob2, glob3, glob4, glob5, glob6, glob7, glob8, glob9]
    rw [add_ok W0 (W_St hw hl (by decide))]
    try simp only [w_int, w_bl, w_non, w_no, w_str, w_nil, w_one, w_var, toVar_some, w_glob, toGl_some, toTup_tup, toBl_true, toBl_false, w_cons, w_tup, w_lst, w_bin, w_cmp, w_chain, w_not, w_and, w_or, w_ife, toInt_int, w_neg, w_idx, w_slice, w_isi, w_call, w_blt, toSeq_tup, w_star, w_rev, onNx_nx, onNx_rt, onNx_ct, x_skip, x_seq, toSl_some, x_set, x_setC, x_par, x_ret, x_expr, x_cont, x_sif, onRt_rt, onRt_nx, onTurn_nx, onTurn_ct, onTurn_rt, lay, layN, List.map_cons, List.map_nil, List.getElem?_cons_zero, List.getElem?_cons_succ, Nat.sub_self, List.replicate_zero, List.replicate_succ, List.append_nil, List.cons_append, List.nil_append, List.set_cons_zero, List.set_cons_succ, Nat.reduceSub, to_ok, wipeP, true_and, glob0, glob1, glob2, glob3, glob4, glob5, glob6, glob7, glob8, glob9]
    exact ⟨by rw [Rat.zero_add]; rfl, hf⟩
theorem bend_in_ok (h : Sco sc) (ha : W 20 a) : Gives (runF T (n + 7) 23 [.tup (sc.map pv), q a] s) s (q (Pd sc a a)) := by
  refine run_to d_bend_in rfl ?_
  simp only [c_bend_in, w_int, w_bl, w_non, w_no, w_str, w_nil, w_one, w_var, toVar_some, w_glob, toGl_some, toTup_tup, toBl_true, toBl_false, w_cons, w_tup, w_lst, w_bin, w_cmp, w_chain, w_not, w_and, w_or, w_ife, toInt_int, w_neg, w_idx, w_slice, w_isi, w_call, w_blt, toSeq_tup, w_star, w_rev, onNx_nx, onNx_rt, onNx_ct, x_skip, x_seq, toSl_some, x_set, x_setC, x_par, x_ret, x_expr, x_cont, x_sif, onRt_rt, onRt_nx, onTurn_nx, onTurn_ct, onTurn_rt, lay, layN, List.map_cons, List.map_nil, List.getElem?_cons_zero, List.getElem?_cons_succ, Nat.sub_self, List.replicate_zero, List.replicate_succ, List.append_nil, List.cons_append, List.nil_append, List.set_cons_zero, List.set_cons_succ, Nat.reduceSub, to_ok, wipeP, true_and, glob0, glob1, glob2, glob3, glob4, glob5, glob6, glob7, glob8, glob9]
  refine (passed_ok h ha ha).to fun s' hs => ?_
  exact ⟨rfl, hs⟩
theorem bend_at_ok (h : Sco sc) (ha : W 20 a) : Gives (runF T (n + 8) 24 [.tup (sc.map pv), q a] s) s (q (Pd sc a a)) := by
  refine run_to d_bend_at rfl ?_
  simp only [c_bend_at, w_int, w_bl, w_non, w_no, w_str, w_nil, w_one, w_var, toVar_some, w_glob, toGl_some, toTup_tup, toBl_true, toBl_false, w_cons, w_tup, w_lst, w_bin, w_cmp, w_chain, w_not, w_and, w_or, w_ife, toInt_int, w_neg, w_idx, w_slice, w_isi, w_call, w_blt, toSeq_tup, w_star, w_rev, onNx_nx, onNx_rt, onNx_ct, x_skip, x_seq, toSl_some, x_set, x_setC, x_par, x_ret, x_expr, x_cont, x_sif, onRt_rt, onRt_nx, onTurn_nx, onTurn_ct, onTurn_rt, lay, layN, List.map_cons, List.map_nil, List.getElem?_cons_zero, List.getElem?_cons_succ, Nat.sub_self, List.replicate_zero, List.replicate_succ, List.append_nil, List.cons_append, List.nil_append, List.set_cons_zero, List.set_cons_succ, Nat.reduceSub, to_ok, wipeP, true_and, glob0, glob1, glob2, glob3, glob4, glob5, glob6, glob7, glob8, glob9]
  refine (needscore_ok h).to fun s1 h1 => (needfrac_ok (ha.mono (by decide))).to fun s2 h2 => ?_
  try simp only [w_int, w_bl, w_non, w_no, w_str, w_nil, w_one, w_var, toVar_some, w_glob, toGl_some, toTup_tup, toBl_true, toBl_false, w_cons, w_tup, w_lst, w_bin, w_cmp, w_chain, w_not, w_and, w_or, w_ife, toInt_int, w_neg, w_idx, w_slice, w_isi, w_call, w_blt, toSeq_tup, w_star, w_rev, onNx_nx, onNx_rt, onNx_ct, x_skip, x_seq, toSl_some, x_set, x_setC, x_par, x_ret, x_expr, x_cont, x_sif, onRt_rt, onRt_nx, onTurn_nx, onTurn_ct, onTurn_rt, lay, layN, List.map_cons, List.map_nil, List.getElem?_cons_zero, List.getElem?_cons_succ, Nat.sub_self, List.replicate_zero, List.replicate_succ, List.append_nil, List.cons_append, List.nil_append, List.set_cons_zero, List.set_cons_succ, Nat.reduceSub, to_ok, wipeP, true_and, glob0, glob1, glob2, glob3, glob4, glob5, glob6, glob7, glob8, glob9]
  refine (bend_in_ok h ha).to fun s' hs => ?_
  exact ⟨rfl, (h1.trans h2).trans hs⟩
end
end K69

namespace K69
open PySem FI GI
section
variable {n : Nat} {a b : Rat} {s : Sto} {p : Rat × Rat} {L : List (Rat × Rat)} {Q : PV → Sto → Prop} {sc : List Pc}
theorem Fr.drop {s s3 s' : Sto} {j : Nat} (h1 : Fr [] s s3) (h2 : Fr [j] s3 s') (h : s.n ≤ j) : Fr [] s s' := ⟨Nat.le_trans h1.le h2.le, fun i hi _ => by
  rw [h2.keep i (Nat.lt_of_lt_of_le hi h1.le) (by simp; omega), h1.keep i hi List.not_mem_nil]⟩
theorem slice_to {i k : Nat} {xs : List PV} (h : At s i xs) (hk : k ≤ xs.length) : (evSlice (.lst i) none (some (k : Int)) s).to Q = Q (.lst s.n) (s.new (.lst (xs.take k))) := by
  simp only [evSlice, h.getL, cutP, HT.sIx_none, HT.sIx_nat, to_ok, Nat.min_eq_left hk, List.drop_zero, Nat.sub_zero]
theorem slice_from {i k : Nat} {xs : List PV} (h : At s i xs) (hk : k ≤ xs.length) : (evSlice (.lst i) (some (k : Int)) none s).to Q = Q (.lst s.n) (s.new (.lst (xs.drop k))) := by
  simp only [evSlice, h.getL, cutP, HT.sIx_none, HT.sIx_nat, to_ok, Nat.min_eq_left hk]
  rw [List.take_of_length_le (by simp)]
theorem addL {i j : Nat} {xs ys : List PV} (hi : At s i xs) (hj : At s j ys) (h : xs.length + ys.length ≤ cap) : (evBin .add (.lst i) (.lst j) s).to Q = Q (.lst s.n) (s.new (.lst (xs ++ ys))) := by
  simp only [evBin, hi.getW, hj.getW, if_pos h, to_ok]
theorem idx_lst {i k : Nat} {xs : List PV} {v : PV} (h : At s i xs) (hv : xs[k]? = some v) : (evIdx (.lst i) (.int (k : Int)) s).to Q = Q v s := by
  have hk := (List.getElem?_eq_some_iff.mp hv).1
  have e : L2.atI xs (k : Int) = some v := by
    simp only [L2.atI, L2.ixN]
    rw [if_pos (by omega), if_pos (by omega)]
    simpa using hv
  simp only [evIdx, h.seq, e, to_ok]
theorem idx_tup {k : Nat} {xs : List PV} {v : PV} (hv : xs[k]? = some v) : (evIdx (.tup xs) (.int (k : Int)) s).to Q = Q v s := by
  have hk := (List.getElem?_eq_some_iff.mp hv).1
  have e : L2.atI xs (k : Int) = some v := by
    simp only [L2.atI, L2.ixN]
    rw [if_pos (by omega), if_pos (by omega)]
    simpa using hv
  simp only [evIdx, seqOf, e, to_ok]
/-! ### rising, each once -/
def ins (f : List Rat) (x : Rat) : List Rat := if (f.filter fun y => decide (y < x)).length = f.length ∨ f[(f.filter fun y => decide (y < x)).length]? ≠ some x then f.take (f.filter fun y => decide (y < x)).length ++ [x] ++ f.drop (f.filter fun y => decide (y < x)).length else f
def rise (l : List Rat) : List Rat := l.foldl ins []
theorem ins_len {f : List Rat} {x : Rat} : (ins f x).length ≤ f.length + 1 := by
  unfold ins
  split
  · simp; omega
  · omega
theorem ins_mem {f : List Rat} {x y : Rat} (h : y ∈ ins f x) : y ∈ f ∨ y = x := by
  unfold ins at h
  split at h
  · simp only [List.mem_append, List.mem_singleton] at h
    rcases h with (h | h) | h
    · exact .inl (List.mem_of_mem_take h)
    · exact .inr h
    · exact .inl (List.mem_of_mem_drop h)
  · exact .inl h
theorem rise_snoc {l : List Rat} {x : Rat} : rise (l ++ [x]) = ins (rise l) x := by simp [rise, List.foldl_append]
theorem rise_take {l : List Rat} {k : Nat} {x : Rat} (h : l[k]? = some x) : rise (l.take (k + 1)) = ins (rise (l.take k)) x := by
  rw [List.take_add_one, h, Option.toList_some, rise_snoc]
theorem rise_aux : ∀ (k : Nat) (l : List Rat), l.length = k → (rise l).length ≤ l.length ∧ ∀ x ∈ rise l, x ∈ l
  | 0, l, h => by
    have : l = [] := List.length_eq_zero_iff.mp h
    subst this
    exact ⟨Nat.le_refl _, fun x hx => hx⟩
  | k + 1, l, h => by
    have hne : l ≠ [] := by rintro rfl; simp at h
    rw [← List.dropLast_concat_getLast hne, rise_snoc]
    obtain ⟨h1, h2⟩ := rise_aux k l.dropLast (by simp; omega)
    refine ⟨?_, fun x hx => ?_⟩
    · have := ins_len (f := rise l.dropLast) (x := l.getLast hne)
      simp only [List.length_append, List.length_singleton]
      omega
    · rcases ins_mem hx with z | z
      · exact List.mem_append_left _ (h2 x z)
      · rw [z]; exact List.mem_append_right _ (List.mem_singleton.mpr rfl)
theorem rise_len {l : List Rat} : (rise l).length ≤ l.length := (rise_aux _ l rfl).1
theorem rise_mem {l : List Rat} {x : Rat} (h : x ∈ rise l) : x ∈ l := (rise_aux _ l rfl).2 x h
theorem filt_le {f : List Rat} {c : Rat → Bool} : (f.filter c).length ≤ f.length := List.length_filter_le _ _
theorem rise_ok {i : Nat} {l : List Rat} (hi : At s i (l.map q)) (hw : ∀ x ∈ l, W 20 x) (hl : l.length ≤ 30) : GivesL (runF T (n + 2) 13 [.lst i] s) s ((rise l).map q) := by
  refine run_to d_rising_once rfl ?_
  simp only [c_rising_once, w_int, w_bl, w_non, w_no, w_str, w_nil, w_one, w_var, toVar_some, w_glob, toGl_some, toTup_tup, toBl_true, toBl_false, w_cons, w_tup, w_lst, w_bin, w_cmp, w_chain, w_not, w_and, w_or, w_ife, toInt_int, w_neg, w_idx, w_slice, w_isi, w_call, w_blt, toSeq_tup, w_star, w_rev, onNx_nx, onNx_rt, onNx_ct, x_skip, x_seq, toSl_some, x_set, x_setC, x_par, x_ret, x_expr, x_cont, x_sif, onRt_rt, onRt_nx, onTurn_nx, onTurn_ct, onTurn_rt, lay, layN, List.map_cons, List.map_nil, List.getElem?_cons_zero, List.getElem?_cons_succ, Nat.sub_self, List.replicate_zero, List.replicate_succ, List.append_nil, List.cons_append, List.nil_append, List.set_cons_zero, List.set_cons_succ, Nat.reduceSub, to_ok, wipeP, true_and, glob0, glob1, glob2, glob3, glob4, glob5, glob6, glob7, glob8, glob9]
  refine ⟨by simp [cap], ?_⟩
  refine x_for l q (fun s' => At s' i (l.map q)) (fun k σ s' => Fr [] s s' ∧ ∃ j o o' o'', σ = [some (.lst i), some (.lst j), o, o', o''] ∧ At s' j ((rise (l.take k)).map q) ∧ s.n ≤ j) ?_ (fun k σ s' h => hi.fr0 h.1) (fun k x σ s' hx ⟨hf, j, o, o', o'', eσ, hj, hjn⟩ => ?_) (fun σ s' ⟨hf, j, o, o', o'', eσ, hj, hjn⟩ => ?_)
  · simp only [j_seq, w_int, w_bl, w_non, w_no, w_str, w_nil, w_one, w_var, toVar_some, w_glob, toGl_some, toTup_tup, toBl_true, toBl_false, w_cons, w_tup, w_lst, w_bin, w_cmp, w_chain, w_not, w_and, w_or, w_ife, toInt_int, w_neg, w_idx, w_slice, w_isi, w_call, w_blt, toSeq_tup, w_star, w_rev, onNx_nx, onNx_rt, onNx_ct, x_skip, x_seq, toSl_some, x_set, x_setC, x_par, x_ret, x_expr, x_cont, x_sif, onRt_rt, onRt_nx, onTurn_nx, onTurn_ct, onTurn_rt, lay, layN, List.map_cons, List.map_nil, List.getElem?_cons_zero, List.getElem?_cons_succ, Nat.sub_self, List.replicate_zero, List.replicate_succ, List.append_nil, List.cons_append, List.nil_append, List.set_cons_zero, List.set_cons_succ, Nat.reduceSub, to_ok, wipeP, true_and, glob0, glob1, glob2, glob3, glob4, glob5, glob6, glob7, glob8, glob9]
    have h' : At (s.new (.lst [])) i (l.map q) := hi.fr0 .new
    exact ⟨_, h'.getL, by simp [It.most, h'.getL], sees_l fun s' h => h, .new, s.n, none, none, none, rfl, .new, Nat.le_refl _⟩
  · subst eσ
    have hxl : x ∈ l := List.mem_of_getElem? hx
    have hwx := hw x hxl
    have hfl : (rise (l.take k)).length ≤ 30 := by
      have := rise_len (l := l.take k)
      rw [List.length_take] at this
      omega
    have hfw : ∀ y ∈ rise (l.take k), W 20 y := fun y hy => hw y (List.mem_of_mem_take (rise_mem hy))
    rw [rise_take hx]
    generalize rise (l.take k) = f at hj hfl hfw ⊢
    simp only [w_int, w_bl, w_non, w_no, w_str, w_nil, w_one, w_var, toVar_some, w_glob, toGl_some, toTup_tup, toBl_true, toBl_false, w_cons, w_tup, w_lst, w_bin, w_cmp, w_chain, w_not, w_and, w_or, w_ife, toInt_int, w_neg, w_idx, w_slice, w_isi, w_call, w_blt, toSeq_tup, w_star, w_rev, onNx_nx, onNx_rt, onNx_ct, x_skip, x_seq, toSl_some, x_set, x_setC, x_par, x_ret, x_expr, x_cont, x_sif, onRt_rt, onRt_nx, onTurn_nx, onTurn_ct, onTurn_rt, lay, layN, List.map_cons, List.map_nil, List.getElem?_cons_zero, List.getElem?_cons_succ, Nat.sub_self, List.replicate_zero, List.replicate_succ, List.append_nil, List.cons_append, List.nil_append, List.set_cons_zero, List.set_cons_succ, Nat.reduceSub, to_ok, wipeP, true_and, glob0, glob1, glob2, glob3, glob4, glob5, glob6, glob7, glob8, glob9]
    refine comp_pure f q (fun y => if decide (y < x) = true then some (q y) else none) ?_ (by simp [cap]; omega) (fun y hy s1 h1 => ?_) fun i1 s1 hf1 hA1 hi1 => ?_
    · simp only [j_seq, w_int, w_bl, w_non, w_no, w_str, w_nil, w_one, w_var, toVar_some, w_glob, toGl_some, toTup_tup, toBl_true, toBl_false, w_cons, w_tup, w_lst, w_bin, w_cmp, w_chain, w_not, w_and, w_or, w_ife, toInt_int, w_neg, w_idx, w_slice, w_isi, w_call, w_blt, toSeq_tup, w_star, w_rev, onNx_nx, onNx_rt, onNx_ct, x_skip, x_seq, toSl_some, x_set, x_setC, x_par, x_ret, x_expr, x_cont, x_sif, onRt_rt, onRt_nx, onTurn_nx, onTurn_ct, onTurn_rt, lay, layN, List.map_cons, List.map_nil, List.getElem?_cons_zero, List.getElem?_cons_succ, Nat.sub_self, List.replicate_zero, List.replicate_succ, List.append_nil, List.cons_append, List.nil_append, List.set_cons_zero, List.set_cons_succ, Nat.reduceSub, to_ok, wipeP, true_and, glob0, glob1, glob2, glob3, glob4, glob5, glob6, glob7, glob8, glob9]
      exact ⟨_, hj.getL, by simp [It.most, hj.getL], sees_l fun s'' hs'' => hj.fr0 hs'', .refl⟩
    · simp only [Turn, w_int, w_bl, w_non, w_no, w_str, w_nil, w_one, w_var, toVar_some, w_glob, toGl_some, toTup_tup, toBl_true, toBl_false, w_cons, w_tup, w_lst, w_bin, w_cmp, w_chain, w_not, w_and, w_or, w_ife, toInt_int, w_neg, w_idx, w_slice, w_isi, w_call, w_blt, toSeq_tup, w_star, w_rev, onNx_nx, onNx_rt, onNx_ct, x_skip, x_seq, toSl_some, x_set, x_setC, x_par, x_ret, x_expr, x_cont, x_sif, onRt_rt, onRt_nx, onTurn_nx, onTurn_ct, onTurn_rt, lay, layN, List.map_cons, List.map_nil, List.getElem?_cons_zero, List.getElem?_cons_succ, Nat.sub_self, List.replicate_zero, List.replicate_succ, List.append_nil, List.cons_append, List.nil_append, List.set_cons_zero, List.set_cons_succ, Nat.reduceSub, to_ok, wipeP, true_and, glob0, glob1, glob2, glob3, glob4, glob5, glob6, glob7, glob8, glob9, under_ok (w20 (hfw y hy)) (w20 hwx)]
      by_cases h2 : y < x
      · simp only [h2, decide_true, w_int, w_bl, w_non, w_no, w_str, w_nil, w_one, w_var, toVar_some, w_glob, toGl_some, toTup_tup, toBl_true, toBl_false, w_cons, w_tup, w_lst, w_bin, w_cmp, w_chain, w_not, w_and, w_or, w_ife, toInt_int, w_neg, w_idx, w_slice, w_isi, w_call, w_blt, toSeq_tup, w_star, w_rev, onNx_nx, onNx_rt, onNx_ct, x_skip, x_seq, toSl_some, x_set, x_setC, x_par, x_ret, x_expr, x_cont, x_sif, onRt_rt, onRt_nx, onTurn_nx, onTurn_ct, onTurn_rt, lay, layN, List.map_cons, List.map_nil, List.getElem?_cons_zero, List.getElem?_cons_succ, Nat.sub_self, List.replicate_zero, List.replicate_succ, List.append_nil, List.cons_append, List.nil_append, List.set_cons_zero, List.set_cons_succ, Nat.reduceSub, to_ok, wipeP, true_and, glob0, glob1, glob2, glob3, glob4, glob5, glob6, glob7, glob8, glob9]
        exact ⟨rfl, .refl⟩
      · simp only [h2, decide_false, w_int, w_bl, w_non, w_no, w_str, w_nil, w_one, w_var, toVar_some, w_glob, toGl_some, toTup_tup, toBl_true, toBl_false, w_cons, w_tup, w_lst, w_bin, w_cmp, w_chain, w_not, w_and, w_or, w_ife, toInt_int, w_neg, w_idx, w_slice, w_isi, w_call, w_blt, toSeq_tup, w_star, w_rev, onNx_nx, onNx_rt, onNx_ct, x_skip, x_seq, toSl_some, x_set, x_setC, x_par, x_ret, x_expr, x_cont, x_sif, onRt_rt, onRt_nx, onTurn_nx, onTurn_ct, onTurn_rt, lay, layN, List.map_cons, List.map_nil, List.getElem?_cons_zero, List.getElem?_cons_succ, Nat.sub_self, List.replicate_zero, List.replicate_succ, List.append_nil, List.cons_append, List.nil_append, List.set_cons_zero, List.set_cons_succ, Nat.reduceSub, to_ok, wipeP, true_and, glob0, glob1, glob2, glob3, glob4, glob5, glob6, glob7, glob8, glob9]
        exact ⟨rfl, .refl⟩
    · rw [fm_if] at hA1
      have hle := filt_le (f := f) (c := fun y => decide (y < x))
      have hj1 := hj.fr0 hf1
      simp only [w_int, w_bl, w_non, w_no, w_str, w_nil, w_one, w_var, toVar_some, w_glob, toGl_some, toTup_tup, toBl_true, toBl_false, w_cons, w_tup, w_lst, w_bin, w_cmp, w_chain, w_not, w_and, w_or, w_ife, toInt_int, w_neg, w_idx, w_slice, w_isi, w_call, w_blt, toSeq_tup, w_star, w_rev, onNx_nx, onNx_rt, onNx_ct, x_skip, x_seq, toSl_some, x_set, x_setC, x_par, x_ret, x_expr, x_cont, x_sif, onRt_rt, onRt_nx, onTurn_nx, onTurn_ct, onTurn_rt, lay, layN, List.map_cons, List.map_nil, List.getElem?_cons_zero, List.getElem?_cons_succ, Nat.sub_self, List.replicate_zero, List.replicate_succ, List.append_nil, List.cons_append, List.nil_append, List.set_cons_zero, List.set_cons_succ, Nat.reduceSub, to_ok, wipeP, true_and, glob0, glob1, glob2, glob3, glob4, glob5, glob6, glob7, glob8, glob9, len_lst hA1, len_lst hj1, List.length_map, w_eqI]
      unfold ins
      generalize hm : (f.filter fun y => decide (y < x)).length = m at hle ⊢
      have tail : (f.take m ++ [x] ++ f.drop m).length ≤ 31 → m ≤ f.length → ∀ K : PV → Sto → Prop, (∀ s2 j', Fr [] s1 s2 → At s2 j' ((f.take m ++ [x] ++ f.drop m).map q) → s1.n ≤ j' → K (.lst j') s2) →
          ∃ l h, partOf .no .non = some l ∧ partOf (.var 3) (.int (m : Int)) = some h ∧ (evSlice (.lst j) l h s1).to fun x1 s3 => [q x].length ≤ cap ∧ (evBin .add x1 (.lst s3.n) (s3.new (.lst [q x]))).to fun x2 s4 => ∃ l h, partOf (.var 3) (.int (m : Int)) = some l ∧ partOf .no .non = some h ∧ (evSlice (.lst j) l h s4).to fun y s5 => (evBin .add x2 y s5).to K := fun hlen hmf K hK => by
        have hmf' : m ≤ (f.map q).length := by simpa using hmf
        refine ⟨none, some (m : Int), rfl, rfl, ?_⟩
        rw [slice_to hj1 hmf']
        refine ⟨by simp [cap], ?_⟩
        have A1 : At (s1.new (.lst ((f.map q).take m))) s1.n ((f.map q).take m) := .new
        have A2 := A1.fr0 (Fr.new (o := .lst [q x]))
        rw [addL A2 .new (by simp [cap]; omega)]
        refine ⟨some (m : Int), none, rfl, rfl, ?_⟩
        have B0 : Fr [] s1 (((s1.new (.lst ((f.map q).take m))).new (.lst [q x])).new (.lst ((f.map q).take m ++ [q x]))) := (Fr.new.trans .new).trans .new
        rw [slice_from (hj1.fr0 B0) hmf']
        have A3 : At (((s1.new (.lst ((f.map q).take m))).new (.lst [q x])).new (.lst ((f.map q).take m ++ [q x]))) _ ((f.map q).take m ++ [q x]) := .new
        rw [addL (A3.fr0 .new) .new (by simp [cap]; omega)]
        refine hK _ _ ((B0.trans .new).trans .new) ?_ ?_
        · have : (f.map q).take m ++ [q x] ++ (f.map q).drop m = (f.take m ++ [x] ++ f.drop m).map q := by simp
          rw [this]
          exact .new
        · simp only [Sto.new]; omega
      have h31 : (f.take m ++ [x] ++ f.drop m).length ≤ 31 := by simp; omega
      by_cases hc : m = f.length
      · rw [if_pos (.inl hc)]
        have : ((m : Int) = (f.length : Int)) := by omega
        simp only [this, decide_true, w_int, w_bl, w_non, w_no, w_str, w_nil, w_one, w_var, toVar_some, w_glob, toGl_some, toTup_tup, toBl_true, toBl_false, w_cons, w_tup, w_lst, w_bin, w_cmp, w_chain, w_not, w_and, w_or, w_ife, toInt_int, w_neg, w_idx, w_slice, w_isi, w_call, w_blt, toSeq_tup, w_star, w_rev, onNx_nx, onNx_rt, onNx_ct, x_skip, x_seq, toSl_some, x_set, x_setC, x_par, x_ret, x_expr, x_cont, x_sif, onRt_rt, onRt_nx, onTurn_nx, onTurn_ct, onTurn_rt, lay, layN, List.map_cons, List.map_nil, List.getElem?_cons_zero, List.getElem?_cons_succ, Nat.sub_self, List.replicate_zero, List.replicate_succ, List.append_nil, List.cons_append, List.nil_append, List.set_cons_zero, List.set_cons_succ, Nat.reduceSub, to_ok, wipeP, true_and, glob0, glob1, glob2, glob3, glob4, glob5, glob6, glob7, glob8, glob9]
        rw [← this]
        refine tail h31 hle _ fun s2 j' f2 A' hn => ?_
        exact ⟨(hf.trans hf1).trans f2, j', _, _, _, rfl, A', Nat.le_trans (Nat.le_trans hf.le hf1.le) hn⟩
      · have hc' : ¬ ((m : Int) = (f.length : Int)) := by omega
        have hv : (f.map q)[m]? = some (q (f[m]'(by omega))) := by simp [List.getElem?_eq_getElem (by omega : m < f.length)]
        simp only [hc', decide_false, w_int, w_bl, w_non, w_no, w_str, w_nil, w_one, w_var, toVar_some, w_glob, toGl_some, toTup_tup, toBl_true, toBl_false, w_cons, w_tup, w_lst, w_bin, w_cmp, w_chain, w_not, w_and, w_or, w_ife, toInt_int, w_neg, w_idx, w_slice, w_isi, w_call, w_blt, toSeq_tup, w_star, w_rev, onNx_nx, onNx_rt, onNx_ct, x_skip, x_seq, toSl_some, x_set, x_setC, x_par, x_ret, x_expr, x_cont, x_sif, onRt_rt, onRt_nx, onTurn_nx, onTurn_ct, onTurn_rt, lay, layN, List.map_cons, List.map_nil, List.getElem?_cons_zero, List.getElem?_cons_succ, Nat.sub_self, List.replicate_zero, List.replicate_succ, List.append_nil, List.cons_append, List.nil_append, List.set_cons_zero, List.set_cons_succ, Nat.reduceSub, to_ok, wipeP, true_and, glob0, glob1, glob2, glob3, glob4, glob5, glob6, glob7, glob8, glob9, idx_lst hj1 hv, w_neq]
        by_cases he : f[m]'(by omega) = x
        · rw [if_neg (by rw [List.getElem?_eq_getElem (by omega)]; simp [he, hc])]
          simp only [he, decide_true, Bool.not_true, w_int, w_bl, w_non, w_no, w_str, w_nil, w_one, w_var, toVar_some, w_glob, toGl_some, toTup_tup, toBl_true, toBl_false, w_cons, w_tup, w_lst, w_bin, w_cmp, w_chain, w_not, w_and, w_or, w_ife, toInt_int, w_neg, w_idx, w_slice, w_isi, w_call, w_blt, toSeq_tup, w_star, w_rev, onNx_nx, onNx_rt, onNx_ct, x_skip, x_seq, toSl_some, x_set, x_setC, x_par, x_ret, x_expr, x_cont, x_sif, onRt_rt, onRt_nx, onTurn_nx, onTurn_ct, onTurn_rt, lay, layN, List.map_cons, List.map_nil, List.getElem?_cons_zero, List.getElem?_cons_succ, Nat.sub_self, List.replicate_zero, List.replicate_succ, List.append_nil, List.cons_append, List.nil_append, List.set_cons_zero, List.set_cons_succ, Nat.reduceSub, to_ok, wipeP, true_and, glob0, glob1, glob2, glob3, glob4, glob5, glob6, glob7, glob8, glob9]
          exact ⟨hf.trans hf1, j, _, _, _, rfl, hj1, hjn⟩
        · rw [if_pos (.inr (by rw [List.getElem?_eq_getElem (by omega)]; simpa using he))]
          simp only [he, decide_false, Bool.not_false, w_int, w_bl, w_non, w_no, w_str, w_nil, w_one, w_var, toVar_some, w_glob, toGl_some, toTup_tup, toBl_true, toBl_false, w_cons, w_tup, w_lst, w_bin, w_cmp, w_chain, w_not, w_and, w_or, w_ife, toInt_int, w_neg, w_idx, w_slice, w_isi, w_call, w_blt, toSeq_tup, w_star, w_rev, onNx_nx, onNx_rt, onNx_ct, x_skip, x_seq, toSl_some, x_set, x_setC, x_par, x_ret, x_expr, x_cont, x_sif, onRt_rt, onRt_nx, onTurn_nx, onTurn_ct, onTurn_rt, lay, layN, List.map_cons, List.map_nil, List.getElem?_cons_zero, List.getElem?_cons_succ, Nat.sub_self, List.replicate_zero, List.replicate_succ, List.append_nil, List.cons_append, List.nil_append, List.set_cons_zero, List.set_cons_succ, Nat.reduceSub, to_ok, wipeP, true_and, glob0, glob1, glob2, glob3, glob4, glob5, glob6, glob7, glob8, glob9]
          refine tail h31 hle _ fun s2 j' f2 A' hn => ?_
          exact ⟨(hf.trans hf1).trans f2, j', _, _, _, rfl, A', Nat.le_trans (Nat.le_trans hf.le hf1.le) hn⟩
  · subst eσ
    simp only [w_int, w_bl, w_non, w_no, w_str, w_nil, w_one, w_var, toVar_some, w_glob, toGl_some, toTup_tup, toBl_true, toBl_false, w_cons, w_tup, w_lst, w_bin, w_cmp, w_chain, w_not, w_and, w_or, w_ife, toInt_int, w_neg, w_idx, w_slice, w_isi, w_call, w_blt, toSeq_tup, w_star, w_rev, onNx_nx, onNx_rt, onNx_ct, x_skip, x_seq, toSl_some, x_set, x_setC, x_par, x_ret, x_expr, x_cont, x_sif, onRt_rt, onRt_nx, onTurn_nx, onTurn_ct, onTurn_rt, lay, layN, List.map_cons, List.map_nil, List.getElem?_cons_zero, List.getElem?_cons_succ, Nat.sub_self, List.replicate_zero, List.replicate_succ, List.append_nil, List.cons_append, List.nil_append, List.set_cons_zero, List.set_cons_succ, Nat.reduceSub, to_ok, wipeP, true_and, glob0, glob1, glob2, glob3, glob4, glob5, glob6, glob7, glob8, glob9]
    rw [List.take_length] at hj
    exact ⟨hf, j, rfl, hj, hjn⟩
end
end K69

namespace K69
open PySem FI GI
section
variable {n : Nat} {a b : Rat} {s : Sto} {p : Rat × Rat} {L : List (Rat × Rat)} {Q : PV → Sto → Prop} {sc : List Pc}
/-- the marks of a score -/
def mkOf : Pc → Option (Rat × Rat)
  | .mk p => some p
  | .st => none
def ms (sc : List Pc) : List (Rat × Rat) := sc.filterMap mkOf
def sumAt (M : List (Rat × Rat)) (m : Rat) : Rat := S ((M.filter fun p => decide (p.1 = m)).map (·.2))
def merged (M : List (Rat × Rat)) : List (Rat × Rat) := ((rise (M.map (·.1))).map fun m => (m, sumAt M m)).filter fun p => !decide (p.2 = 0)
theorem ms_mem (h : p ∈ ms sc) : Pc.mk p ∈ sc := by
  obtain ⟨x, hx, e⟩ := List.mem_filterMap.mp h
  cases x with
  | st => cases e
  | mk p' => cases e; exact hx
theorem ms_len : (ms sc).length ≤ sc.length := List.length_filterMap_le _ _
theorem W_sumAt {M : List (Rat × Rat)} {m : Rat} (h : ∀ p ∈ M, W 20 p.2) (hl : M.length ≤ 10) : W 300 (sumAt M m) := by
  refine W_St (k := 20) (m := 10) (fun x hx => ?_) ?_ (by decide)
  · obtain ⟨p, hp, rfl⟩ := List.mem_map.mp hx
    exact h p (List.mem_filter.mp hp).1
  · rw [List.length_map]
    exact Nat.le_trans (List.length_filter_le _ _) hl
theorem marks_ok (h : Sco sc) : GivesL (runF T (n + 5) 15 [.tup (sc.map pv)] s) s ((merged (ms sc)).map mk) := by
  refine run_to d_marks_in rfl ?_
  simp only [c_marks_in, w_int, w_bl, w_non, w_no, w_str, w_nil, w_one, w_var, toVar_some, w_glob, toGl_some, toTup_tup, toBl_true, toBl_false, w_cons, w_tup, w_lst, w_bin, w_cmp, w_chain, w_not, w_and, w_or, w_ife, toInt_int, w_neg, w_idx, w_slice, w_isi, w_call, w_blt, toSeq_tup, w_star, w_rev, onNx_nx, onNx_rt, onNx_ct, x_skip, x_seq, toSl_some, x_set, x_setC, x_par, x_ret, x_expr, x_cont, x_sif, onRt_rt, onRt_nx, onTurn_nx, onTurn_ct, onTurn_rt, lay, layN, List.map_cons, List.map_nil, List.getElem?_cons_zero, List.getElem?_cons_succ, Nat.sub_self, List.replicate_zero, List.replicate_succ, List.append_nil, List.cons_append, List.nil_append, List.set_cons_zero, List.set_cons_succ, Nat.reduceSub, to_ok, wipeP, true_and, glob0, glob1, glob2, glob3, glob4, glob5, glob6, glob7, glob8, glob9]
  have hl := h.len
  refine comp_pure sc pv (fun x => (mkOf x).map mk) ?_ (by simp [cap]; omega) (fun x hx s' hs => ?_) fun i s1 hf1 hA hi => ?_
  · simp only [j_seq, w_int, w_bl, w_non, w_no, w_str, w_nil, w_one, w_var, toVar_some, w_glob, toGl_some, toTup_tup, toBl_true, toBl_false, w_cons, w_tup, w_lst, w_bin, w_cmp, w_chain, w_not, w_and, w_or, w_ife, toInt_int, w_neg, w_idx, w_slice, w_isi, w_call, w_blt, toSeq_tup, w_star, w_rev, onNx_nx, onNx_rt, onNx_ct, x_skip, x_seq, toSl_some, x_set, x_setC, x_par, x_ret, x_expr, x_cont, x_sif, onRt_rt, onRt_nx, onTurn_nx, onTurn_ct, onTurn_rt, lay, layN, List.map_cons, List.map_nil, List.getElem?_cons_zero, List.getElem?_cons_succ, Nat.sub_self, List.replicate_zero, List.replicate_succ, List.append_nil, List.cons_append, List.nil_append, List.set_cons_zero, List.set_cons_succ, Nat.reduceSub, to_ok, wipeP, true_and, glob0, glob1, glob2, glob3, glob4, glob5, glob6, glob7, glob8, glob9]
    exact ⟨by simp [It.most], sees_t, .refl⟩
  · cases x with
    | st => simp only [Turn, w_int, w_bl, w_non, w_no, w_str, w_nil, w_one, w_var, toVar_some, w_glob, toGl_some, toTup_tup, toBl_true, toBl_false, w_cons, w_tup, w_lst, w_bin, w_cmp, w_chain, w_not, w_and, w_or, w_ife, toInt_int, w_neg, w_idx, w_slice, w_isi, w_call, w_blt, toSeq_tup, w_star, w_rev, onNx_nx, onNx_rt, onNx_ct, x_skip, x_seq, toSl_some, x_set, x_setC, x_par, x_ret, x_expr, x_cont, x_sif, onRt_rt, onRt_nx, onTurn_nx, onTurn_ct, onTurn_rt, lay, layN, List.map_cons, List.map_nil, List.getElem?_cons_zero, List.getElem?_cons_succ, Nat.sub_self, List.replicate_zero, List.replicate_succ, List.append_nil, List.cons_append, List.nil_append, List.set_cons_zero, List.set_cons_succ, Nat.reduceSub, to_ok, wipeP, true_and, glob0, glob1, glob2, glob3, glob4, glob5, glob6, glob7, glob8, glob9, st_0, eq_sm]; exact ⟨rfl, .refl⟩
    | mk p => simp only [Turn, w_int, w_bl, w_non, w_no, w_str, w_nil, w_one, w_var, toVar_some, w_glob, toGl_some, toTup_tup, toBl_true, toBl_false, w_cons, w_tup, w_lst, w_bin, w_cmp, w_chain, w_not, w_and, w_or, w_ife, toInt_int, w_neg, w_idx, w_slice, w_isi, w_call, w_blt, toSeq_tup, w_star, w_rev, onNx_nx, onNx_rt, onNx_ct, x_skip, x_seq, toSl_some, x_set, x_setC, x_par, x_ret, x_expr, x_cont, x_sif, onRt_rt, onRt_nx, onTurn_nx, onTurn_ct, onTurn_rt, lay, layN, List.map_cons, List.map_nil, List.getElem?_cons_zero, List.getElem?_cons_succ, Nat.sub_self, List.replicate_zero, List.replicate_succ, List.append_nil, List.cons_append, List.nil_append, List.set_cons_zero, List.set_cons_succ, Nat.reduceSub, to_ok, wipeP, true_and, glob0, glob1, glob2, glob3, glob4, glob5, glob6, glob7, glob8, glob9, pv, mk_0, eq_mm]; exact ⟨rfl, .refl⟩
  · have e1 : sc.filterMap (fun x => (mkOf x).map mk) = (ms sc).map mk := by rw [ms, List.map_filterMap]
    rw [e1] at hA
    have hM : ∀ p ∈ ms sc, W 20 p.1 ∧ W 20 p.2 := fun p hp => by have := h.ok p (ms_mem hp); exact ⟨this.1, this.2.1⟩
    have hMl : (ms sc).length ≤ 10 := Nat.le_trans ms_len hl
    generalize ms sc = M at hA hM hMl ⊢
    try simp only [w_int, w_bl, w_non, w_no, w_str, w_nil, w_one, w_var, toVar_some, w_glob, toGl_some, toTup_tup, toBl_true, toBl_false, w_cons, w_tup, w_lst, w_bin, w_cmp, w_chain, w_not, w_and, w_or, w_ife, toInt_int, w_neg, w_idx, w_slice, w_isi, w_call, w_blt, toSeq_tup, w_star, w_rev, onNx_nx, onNx_rt, onNx_ct, x_skip, x_seq, toSl_some, x_set, x_setC, x_par, x_ret, x_expr, x_cont, x_sif, onRt_rt, onRt_nx, onTurn_nx, onTurn_ct, onTurn_rt, lay, layN, List.map_cons, List.map_nil, List.getElem?_cons_zero, List.getElem?_cons_succ, Nat.sub_self, List.replicate_zero, List.replicate_succ, List.append_nil, List.cons_append, List.nil_append, List.set_cons_zero, List.set_cons_succ, Nat.reduceSub, to_ok, wipeP, true_and, glob0, glob1, glob2, glob3, glob4, glob5, glob6, glob7, glob8, glob9]
    refine ⟨by simp [cap], ?_⟩
    have hA0 : At (s1.new (.lst [])) i (M.map mk) := hA.fr0 .new
    have hF0 : At (s1.new (.lst [])) s1.n [] := .new
    have hn0 : s.n ≤ s1.n := hf1.le
    have hi1 : i < s1.n := hA.2
    have f0 : Fr [] s (s1.new (.lst [])) := hf1.trans .new
    generalize s1.new (.lst []) = s2 at hA0 hF0 f0 ⊢
    generalize s1.n = jf at hF0 hn0 hi1 ⊢
    rw [x_sfor]
    simp only [j_seq, w_int, w_bl, w_non, w_no, w_str, w_nil, w_one, w_var, toVar_some, w_glob, toGl_some, toTup_tup, toBl_true, toBl_false, w_cons, w_tup, w_lst, w_bin, w_cmp, w_chain, w_not, w_and, w_or, w_ife, toInt_int, w_neg, w_idx, w_slice, w_isi, w_call, w_blt, toSeq_tup, w_star, w_rev, onNx_nx, onNx_rt, onNx_ct, x_skip, x_seq, toSl_some, x_set, x_setC, x_par, x_ret, x_expr, x_cont, x_sif, onRt_rt, onRt_nx, onTurn_nx, onTurn_ct, onTurn_rt, lay, layN, List.map_cons, List.map_nil, List.getElem?_cons_zero, List.getElem?_cons_succ, Nat.sub_self, List.replicate_zero, List.replicate_succ, List.append_nil, List.cons_append, List.nil_append, List.set_cons_zero, List.set_cons_succ, Nat.reduceSub, to_ok, wipeP, true_and, glob0, glob1, glob2, glob3, glob4, glob5, glob6, glob7, glob8, glob9]
    refine comp_pure M mk (fun p => some (q p.1)) ?_ (by simp [cap]; omega) (fun x hx s' hs => ?_) fun i3 s3 hf3 hA3 hi3 => ?_
    · simp only [j_seq, w_int, w_bl, w_non, w_no, w_str, w_nil, w_one, w_var, toVar_some, w_glob, toGl_some, toTup_tup, toBl_true, toBl_false, w_cons, w_tup, w_lst, w_bin, w_cmp, w_chain, w_not, w_and, w_or, w_ife, toInt_int, w_neg, w_idx, w_slice, w_isi, w_call, w_blt, toSeq_tup, w_star, w_rev, onNx_nx, onNx_rt, onNx_ct, x_skip, x_seq, toSl_some, x_set, x_setC, x_par, x_ret, x_expr, x_cont, x_sif, onRt_rt, onRt_nx, onTurn_nx, onTurn_ct, onTurn_rt, lay, layN, List.map_cons, List.map_nil, List.getElem?_cons_zero, List.getElem?_cons_succ, Nat.sub_self, List.replicate_zero, List.replicate_succ, List.append_nil, List.cons_append, List.nil_append, List.set_cons_zero, List.set_cons_succ, Nat.reduceSub, to_ok, wipeP, true_and, glob0, glob1, glob2, glob3, glob4, glob5, glob6, glob7, glob8, glob9]
      exact ⟨_, hA0.getL, by simp [It.most, hA0.getL], sees_l fun s'' hs'' => hA0.fr0 hs'', .refl⟩
    · simp only [Turn, w_int, w_bl, w_non, w_no, w_str, w_nil, w_one, w_var, toVar_some, w_glob, toGl_some, toTup_tup, toBl_true, toBl_false, w_cons, w_tup, w_lst, w_bin, w_cmp, w_chain, w_not, w_and, w_or, w_ife, toInt_int, w_neg, w_idx, w_slice, w_isi, w_call, w_blt, toSeq_tup, w_star, w_rev, onNx_nx, onNx_rt, onNx_ct, x_skip, x_seq, toSl_some, x_set, x_setC, x_par, x_ret, x_expr, x_cont, x_sif, onRt_rt, onRt_nx, onTurn_nx, onTurn_ct, onTurn_rt, lay, layN, List.map_cons, List.map_nil, List.getElem?_cons_zero, List.getElem?_cons_succ, Nat.sub_self, List.replicate_zero, List.replicate_succ, List.append_nil, List.cons_append, List.nil_append, List.set_cons_zero, List.set_cons_succ, Nat.reduceSub, to_ok, wipeP, true_and, glob0, glob1, glob2, glob3, glob4, glob5, glob6, glob7, glob8, glob9, mk_1]
      exact .refl
    · rw [fm_some, show M.map (fun p => q p.1) = (M.map (·.1)).map q by simp] at hA3
      try simp only [w_int, w_bl, w_non, w_no, w_str, w_nil, w_one, w_var, toVar_some, w_glob, toGl_some, toTup_tup, toBl_true, toBl_false, w_cons, w_tup, w_lst, w_bin, w_cmp, w_chain, w_not, w_and, w_or, w_ife, toInt_int, w_neg, w_idx, w_slice, w_isi, w_call, w_blt, toSeq_tup, w_star, w_rev, onNx_nx, onNx_rt, onNx_ct, x_skip, x_seq, toSl_some, x_set, x_setC, x_par, x_ret, x_expr, x_cont, x_sif, onRt_rt, onRt_nx, onTurn_nx, onTurn_ct, onTurn_rt, lay, layN, List.map_cons, List.map_nil, List.getElem?_cons_zero, List.getElem?_cons_succ, Nat.sub_self, List.replicate_zero, List.replicate_succ, List.append_nil, List.cons_append, List.nil_append, List.set_cons_zero, List.set_cons_succ, Nat.reduceSub, to_ok, wipeP, true_and, glob0, glob1, glob2, glob3, glob4, glob5, glob6, glob7, glob8, glob9]
      refine (rise_ok hA3 (fun x hx => ?_) (by simp; omega)).to fun ir s4 hf4 hr hrn => ⟨_, hr.getL, ?_⟩
      · obtain ⟨p, hp, rfl⟩ := List.mem_map.mp hx
        exact (hM p hp).1
      have hrl : (rise (M.map (·.1))).length ≤ 10 := by
        have := rise_len (l := M.map (·.1))
        simp at this
        omega
      have hrw : ∀ x ∈ rise (M.map (·.1)), W 20 x := fun x hx => by
        obtain ⟨p, hp, rfl⟩ := List.mem_map.mp (rise_mem hx)
        exact (hM p hp).1
      have hir : ir ≠ jf := by have := hF0.2; have := hf3.le; omega
      have hm : (It.l ir).most s4 = (rise (M.map (·.1))).length := by simp [It.most, hr.getL]
      rw [hm]
      have hA4 := (hA0.fr0 hf3).fr0 hf4
      have hF4 := (hF0.fr0 hf3).fr0 hf4
      unfold merged
      generalize rise (M.map (·.1)) = R at hr hrl hrw ⊢
      refine for_inv (L := R) (g := q) (I := fun s' => At s' ir (R.map q)) (fun k σ s' => Fr [jf] s4 s' ∧ ∃ o o', σ = [some (.tup (sc.map pv)), some (.lst i), some (.lst jf), o, o'] ∧ At s' jf ((R.take k).map fun m => mk (m, sumAt M m))) (sees_l fun s' h => h) (fun k σ s' h => hr.fr h.1 (by simpa using hir)) (fun k m σ s' hm ⟨hJ, o, o', eσ, hF⟩ => ?_) (fun σ s' ⟨hJ, o, o', eσ, hF⟩ => ?_) _ 0 _ _ (by omega) ⟨.refl, none, none, rfl, hF4⟩
      · subst eσ
        have hmR := List.mem_of_getElem? hm
        have hw := hrw m hmR
        have hAk : At s' i (M.map mk) := hA4.fr hJ (by simp; omega)
        try simp only [w_int, w_bl, w_non, w_no, w_str, w_nil, w_one, w_var, toVar_some, w_glob, toGl_some, toTup_tup, toBl_true, toBl_false, w_cons, w_tup, w_lst, w_bin, w_cmp, w_chain, w_not, w_and, w_or, w_ife, toInt_int, w_neg, w_idx, w_slice, w_isi, w_call, w_blt, toSeq_tup, w_star, w_rev, onNx_nx, onNx_rt, onNx_ct, x_skip, x_seq, toSl_some, x_set, x_setC, x_par, x_ret, x_expr, x_cont, x_sif, onRt_rt, onRt_nx, onTurn_nx, onTurn_ct, onTurn_rt, lay, layN, List.map_cons, List.map_nil, List.getElem?_cons_zero, List.getElem?_cons_succ, Nat.sub_self, List.replicate_zero, List.replicate_succ, List.append_nil, List.cons_append, List.nil_append, List.set_cons_zero, List.set_cons_succ, Nat.reduceSub, to_ok, wipeP, true_and, glob0, glob1, glob2, glob3, glob4, glob5, glob6, glob7, glob8, glob9]
        refine w_app (i := jf) (by simp [ev]) hF ?_
        try simp only [w_int, w_bl, w_non, w_no, w_str, w_nil, w_one, w_var, toVar_some, w_glob, toGl_some, toTup_tup, toBl_true, toBl_false, w_cons, w_tup, w_lst, w_bin, w_cmp, w_chain, w_not, w_and, w_or, w_ife, toInt_int, w_neg, w_idx, w_slice, w_isi, w_call, w_blt, toSeq_tup, w_star, w_rev, onNx_nx, onNx_rt, onNx_ct, x_skip, x_seq, toSl_some, x_set, x_setC, x_par, x_ret, x_expr, x_cont, x_sif, onRt_rt, onRt_nx, onTurn_nx, onTurn_ct, onTurn_rt, lay, layN, List.map_cons, List.map_nil, List.getElem?_cons_zero, List.getElem?_cons_succ, Nat.sub_self, List.replicate_zero, List.replicate_succ, List.append_nil, List.cons_append, List.nil_append, List.set_cons_zero, List.set_cons_succ, Nat.reduceSub, to_ok, wipeP, true_and, glob0, glob1, glob2, glob3, glob4, glob5, glob6, glob7, glob8, glob9]
        refine comp_pure M mk (fun p => if decide (p.1 = m) = true then some (q p.2) else none) ?_ (by simp [cap]; omega) (fun x hx s5 hs => ?_) fun i5 s5 hf5 hA5 hi5 => ?_
        · simp only [j_seq, w_int, w_bl, w_non, w_no, w_str, w_nil, w_one, w_var, toVar_some, w_glob, toGl_some, toTup_tup, toBl_true, toBl_false, w_cons, w_tup, w_lst, w_bin, w_cmp, w_chain, w_not, w_and, w_or, w_ife, toInt_int, w_neg, w_idx, w_slice, w_isi, w_call, w_blt, toSeq_tup, w_star, w_rev, onNx_nx, onNx_rt, onNx_ct, x_skip, x_seq, toSl_some, x_set, x_setC, x_par, x_ret, x_expr, x_cont, x_sif, onRt_rt, onRt_nx, onTurn_nx, onTurn_ct, onTurn_rt, lay, layN, List.map_cons, List.map_nil, List.getElem?_cons_zero, List.getElem?_cons_succ, Nat.sub_self, List.replicate_zero, List.replicate_succ, List.append_nil, List.cons_append, List.nil_append, List.set_cons_zero, List.set_cons_succ, Nat.reduceSub, to_ok, wipeP, true_and, glob0, glob1, glob2, glob3, glob4, glob5, glob6, glob7, glob8, glob9]
          exact ⟨_, hAk.getL, by simp [It.most, hAk.getL], sees_l fun s'' hs'' => hAk.fr0 hs'', .refl⟩
        · simp only [Turn, w_int, w_bl, w_non, w_no, w_str, w_nil, w_one, w_var, toVar_some, w_glob, toGl_some, toTup_tup, toBl_true, toBl_false, w_cons, w_tup, w_lst, w_bin, w_cmp, w_chain, w_not, w_and, w_or, w_ife, toInt_int, w_neg, w_idx, w_slice, w_isi, w_call, w_blt, toSeq_tup, w_star, w_rev, onNx_nx, onNx_rt, onNx_ct, x_skip, x_seq, toSl_some, x_set, x_setC, x_par, x_ret, x_expr, x_cont, x_sif, onRt_rt, onRt_nx, onTurn_nx, onTurn_ct, onTurn_rt, lay, layN, List.map_cons, List.map_nil, List.getElem?_cons_zero, List.getElem?_cons_succ, Nat.sub_self, List.replicate_zero, List.replicate_succ, List.append_nil, List.cons_append, List.nil_append, List.set_cons_zero, List.set_cons_succ, Nat.reduceSub, to_ok, wipeP, true_and, glob0, glob1, glob2, glob3, glob4, glob5, glob6, glob7, glob8, glob9, mk_1, w_eqq]
          by_cases hc : x.1 = m
          · simp only [hc, decide_true, w_int, w_bl, w_non, w_no, w_str, w_nil, w_one, w_var, toVar_some, w_glob, toGl_some, toTup_tup, toBl_true, toBl_false, w_cons, w_tup, w_lst, w_bin, w_cmp, w_chain, w_not, w_and, w_or, w_ife, toInt_int, w_neg, w_idx, w_slice, w_isi, w_call, w_blt, toSeq_tup, w_star, w_rev, onNx_nx, onNx_rt, onNx_ct, x_skip, x_seq, toSl_some, x_set, x_setC, x_par, x_ret, x_expr, x_cont, x_sif, onRt_rt, onRt_nx, onTurn_nx, onTurn_ct, onTurn_rt, lay, layN, List.map_cons, List.map_nil, List.getElem?_cons_zero, List.getElem?_cons_succ, Nat.sub_self, List.replicate_zero, List.replicate_succ, List.append_nil, List.cons_append, List.nil_append, List.set_cons_zero, List.set_cons_succ, Nat.reduceSub, to_ok, wipeP, true_and, glob0, glob1, glob2, glob3, glob4, glob5, glob6, glob7, glob8, glob9, mk_2]
            exact ⟨rfl, .refl⟩
          · simp only [hc, decide_false, w_int, w_bl, w_non, w_no, w_str, w_nil, w_one, w_var, toVar_some, w_glob, toGl_some, toTup_tup, toBl_true, toBl_false, w_cons, w_tup, w_lst, w_bin, w_cmp, w_chain, w_not, w_and, w_or, w_ife, toInt_int, w_neg, w_idx, w_slice, w_isi, w_call, w_blt, toSeq_tup, w_star, w_rev, onNx_nx, onNx_rt, onNx_ct, x_skip, x_seq, toSl_some, x_set, x_setC, x_par, x_ret, x_expr, x_cont, x_sif, onRt_rt, onRt_nx, onTurn_nx, onTurn_ct, onTurn_rt, lay, layN, List.map_cons, List.map_nil, List.getElem?_cons_zero, List.getElem?_cons_succ, Nat.sub_self, List.replicate_zero, List.replicate_succ, List.append_nil, List.cons_append, List.nil_append, List.set_cons_zero, List.set_cons_succ, Nat.reduceSub, to_ok, wipeP, true_and, glob0, glob1, glob2, glob3, glob4, glob5, glob6, glob7, glob8, glob9]
            exact ⟨rfl, .refl⟩
        · rw [fm_if, show (M.filter fun p => decide (p.1 = m)).map (fun p => q p.2) = ((M.filter fun p => decide (p.1 = m)).map (·.2)).map q by simp] at hA5
          try simp only [w_int, w_bl, w_non, w_no, w_str, w_nil, w_one, w_var, toVar_some, w_glob, toGl_some, toTup_tup, toBl_true, toBl_false, w_cons, w_tup, w_lst, w_bin, w_cmp, w_chain, w_not, w_and, w_or, w_ife, toInt_int, w_neg, w_idx, w_slice, w_isi, w_call, w_blt, toSeq_tup, w_star, w_rev, onNx_nx, onNx_rt, onNx_ct, x_skip, x_seq, toSl_some, x_set, x_setC, x_par, x_ret, x_expr, x_cont, x_sif, onRt_rt, onRt_nx, onTurn_nx, onTurn_ct, onTurn_rt, lay, layN, List.map_cons, List.map_nil, List.getElem?_cons_zero, List.getElem?_cons_succ, Nat.sub_self, List.replicate_zero, List.replicate_succ, List.append_nil, List.cons_append, List.nil_append, List.set_cons_zero, List.set_cons_succ, Nat.reduceSub, to_ok, wipeP, true_and, glob0, glob1, glob2, glob3, glob4, glob5, glob6, glob7, glob8, glob9]
          have hfl : (M.filter fun p => decide (p.1 = m)).length ≤ M.length := List.length_filter_le _ _
          rw [sum_ok (k := 20) hA5 (fun x hx => by
            obtain ⟨p, hp, rfl⟩ := List.mem_map.mp hx
            exact (hM p (List.mem_filter.mp hp).1).2) (by decide) (by simp only [List.length_map]; omega)]
          try simp only [w_int, w_bl, w_non, w_no, w_str, w_nil, w_one, w_var, toVar_some, w_glob, toGl_some, toTup_tup, toBl_true, toBl_false, w_cons, w_tup, w_lst, w_bin, w_cmp, w_chain, w_not, w_and, w_or, w_ife, toInt_int, w_neg, w_idx, w_slice, w_isi, w_call, w_blt, toSeq_tup, w_star, w_rev, onNx_nx, onNx_rt, onNx_ct, x_skip, x_seq, toSl_some, x_set, x_setC, x_par, x_ret, x_expr, x_cont, x_sif, onRt_rt, onRt_nx, onTurn_nx, onTurn_ct, onTurn_rt, lay, layN, List.map_cons, List.map_nil, List.getElem?_cons_zero, List.getElem?_cons_succ, Nat.sub_self, List.replicate_zero, List.replicate_succ, List.append_nil, List.cons_append, List.nil_append, List.set_cons_zero, List.set_cons_succ, Nat.reduceSub, to_ok, wipeP, true_and, glob0, glob1, glob2, glob3, glob4, glob5, glob6, glob7, glob8, glob9]
          refine ⟨by simp [cap], _, hF.fr0 hf5, by simp [cap]; omega, ?_⟩
          refine ⟨(hJ.trans hf5.wide).put (.inl (by simp)), _, _, rfl, ?_⟩
          have e5 : (R.take k).map (fun m => mk (m, sumAt M m)) ++ [.tup [.str "mark", q m, q (S ((M.filter fun p => decide (p.1 = m)).map (·.2)))]] = (R.take (k + 1)).map fun m => mk (m, sumAt M m) := by
            rw [List.take_add_one, hm, Option.toList_some, List.map_append]
            rfl
          rw [e5]
          exact (hF.fr0 hf5).put
      · subst eσ
        rw [List.take_length] at hF
        try simp only [w_int, w_bl, w_non, w_no, w_str, w_nil, w_one, w_var, toVar_some, w_glob, toGl_some, toTup_tup, toBl_true, toBl_false, w_cons, w_tup, w_lst, w_bin, w_cmp, w_chain, w_not, w_and, w_or, w_ife, toInt_int, w_neg, w_idx, w_slice, w_isi, w_call, w_blt, toSeq_tup, w_star, w_rev, onNx_nx, onNx_rt, onNx_ct, x_skip, x_seq, toSl_some, x_set, x_setC, x_par, x_ret, x_expr, x_cont, x_sif, onRt_rt, onRt_nx, onTurn_nx, onTurn_ct, onTurn_rt, lay, layN, List.map_cons, List.map_nil, List.getElem?_cons_zero, List.getElem?_cons_succ, Nat.sub_self, List.replicate_zero, List.replicate_succ, List.append_nil, List.cons_append, List.nil_append, List.set_cons_zero, List.set_cons_succ, Nat.reduceSub, to_ok, wipeP, true_and, glob0, glob1, glob2, glob3, glob4, glob5, glob6, glob7, glob8, glob9]
        have hfin : Fr [] s s' := Fr.drop ((f0.trans hf3).trans hf4) hJ hn0
        refine comp_pure (R.map fun m => (m, sumAt M m)) mk (fun p => if (!decide (p.2 = 0)) = true then some (mk p) else none) ?_ (by simp [cap]; omega) (fun x hx s5 hs => ?_) fun i5 s5 hf5 hA5 hi5 => ?_
        · have hF' : At s' jf ((R.map fun m => (m, sumAt M m)).map mk) := by rw [List.map_map]; exact hF
          simp only [j_seq, w_int, w_bl, w_non, w_no, w_str, w_nil, w_one, w_var, toVar_some, w_glob, toGl_some, toTup_tup, toBl_true, toBl_false, w_cons, w_tup, w_lst, w_bin, w_cmp, w_chain, w_not, w_and, w_or, w_ife, toInt_int, w_neg, w_idx, w_slice, w_isi, w_call, w_blt, toSeq_tup, w_star, w_rev, onNx_nx, onNx_rt, onNx_ct, x_skip, x_seq, toSl_some, x_set, x_setC, x_par, x_ret, x_expr, x_cont, x_sif, onRt_rt, onRt_nx, onTurn_nx, onTurn_ct, onTurn_rt, lay, layN, List.map_cons, List.map_nil, List.getElem?_cons_zero, List.getElem?_cons_succ, Nat.sub_self, List.replicate_zero, List.replicate_succ, List.append_nil, List.cons_append, List.nil_append, List.set_cons_zero, List.set_cons_succ, Nat.reduceSub, to_ok, wipeP, true_and, glob0, glob1, glob2, glob3, glob4, glob5, glob6, glob7, glob8, glob9]
          exact ⟨_, hF'.getL, by simp [It.most, hF'.getL], sees_l fun s'' hs'' => hF'.fr0 hs'', .refl⟩
        · simp only [Turn, w_int, w_bl, w_non, w_no, w_str, w_nil, w_one, w_var, toVar_some, w_glob, toGl_some, toTup_tup, toBl_true, toBl_false, w_cons, w_tup, w_lst, w_bin, w_cmp, w_chain, w_not, w_and, w_or, w_ife, toInt_int, w_neg, w_idx, w_slice, w_isi, w_call, w_blt, toSeq_tup, w_star, w_rev, onNx_nx, onNx_rt, onNx_ct, x_skip, x_seq, toSl_some, x_set, x_setC, x_par, x_ret, x_expr, x_cont, x_sif, onRt_rt, onRt_nx, onTurn_nx, onTurn_ct, onTurn_rt, lay, layN, List.map_cons, List.map_nil, List.getElem?_cons_zero, List.getElem?_cons_succ, Nat.sub_self, List.replicate_zero, List.replicate_succ, List.append_nil, List.cons_append, List.nil_append, List.set_cons_zero, List.set_cons_succ, Nat.reduceSub, to_ok, wipeP, true_and, glob0, glob1, glob2, glob3, glob4, glob5, glob6, glob7, glob8, glob9, mk_2, w_neq]
          by_cases hc : x.2 = 0
          · simp only [hc, decide_true, Bool.not_true, w_int, w_bl, w_non, w_no, w_str, w_nil, w_one, w_var, toVar_some, w_glob, toGl_some, toTup_tup, toBl_true, toBl_false, w_cons, w_tup, w_lst, w_bin, w_cmp, w_chain, w_not, w_and, w_or, w_ife, toInt_int, w_neg, w_idx, w_slice, w_isi, w_call, w_blt, toSeq_tup, w_star, w_rev, onNx_nx, onNx_rt, onNx_ct, x_skip, x_seq, toSl_some, x_set, x_setC, x_par, x_ret, x_expr, x_cont, x_sif, onRt_rt, onRt_nx, onTurn_nx, onTurn_ct, onTurn_rt, lay, layN, List.map_cons, List.map_nil, List.getElem?_cons_zero, List.getElem?_cons_succ, Nat.sub_self, List.replicate_zero, List.replicate_succ, List.append_nil, List.cons_append, List.nil_append, List.set_cons_zero, List.set_cons_succ, Nat.reduceSub, to_ok, wipeP, true_and, glob0, glob1, glob2, glob3, glob4, glob5, glob6, glob7, glob8, glob9]
            exact ⟨rfl, .refl⟩
          · simp only [hc, decide_false, Bool.not_false, w_int, w_bl, w_non, w_no, w_str, w_nil, w_one, w_var, toVar_some, w_glob, toGl_some, toTup_tup, toBl_true, toBl_false, w_cons, w_tup, w_lst, w_bin, w_cmp, w_chain, w_not, w_and, w_or, w_ife, toInt_int, w_neg, w_idx, w_slice, w_isi, w_call, w_blt, toSeq_tup, w_star, w_rev, onNx_nx, onNx_rt, onNx_ct, x_skip, x_seq, toSl_some, x_set, x_setC, x_par, x_ret, x_expr, x_cont, x_sif, onRt_rt, onRt_nx, onTurn_nx, onTurn_ct, onTurn_rt, lay, layN, List.map_cons, List.map_nil, List.getElem?_cons_zero, List.getElem?_cons_succ, Nat.sub_self, List.replicate_zero, List.replicate_succ, List.append_nil, List.cons_append, List.nil_append, List.set_cons_zero, List.set_cons_succ, Nat.reduceSub, to_ok, wipeP, true_and, glob0, glob1, glob2, glob3, glob4, glob5, glob6, glob7, glob8, glob9]
            exact ⟨rfl, .refl⟩
        · rw [fm_if] at hA5
          exact ⟨hfin.trans hf5, _, rfl, hA5, Nat.le_trans hfin.le hi5⟩
theorem j_zip {T : Tab} {call : Nat → List PV → Sto → Res PV} {σ : Sl} {a : E} {K : It → Sto → Prop} (h : (ev T call a σ s).to fun x s1 => ∃ u v j, x = .tup [u, v] ∧ zip2 s1 u v = some j ∧ K j s1) : (evI T call (.izip a) σ s).to K := by
  simp only [evI, to_bind]
  refine to_mono h fun x s1 ⟨u, v, j, e, e2, hk⟩ => ?_
  subst e
  simp only [e2, to_ok]
  exact hk
theorem zip2_ll {i j : Nat} {xs ys : List PV} (hi : At s i xs) (hj : At s j ys) : zip2 s (.lst i) (.lst j) = some (.zp (.l i) (.l j)) := by
  simp only [zip2, seqIt, hi.getL, hj.getL]
theorem covers_ok (ha : W 20 a) (hb : W 20 b) : runF T (n + 2) 14 [pv .st, q a, q b] s = .ok (.bl (!decide (a < 0) && !decide (1 < b))) s := by
  refine eq_of_to fun Q hQ => run_to d_covers_stretch rfl ?_
  simp only [c_covers_stretch, w_int, w_bl, w_non, w_no, w_str, w_nil, w_one, w_var, toVar_some, w_glob, toGl_some, toTup_tup, toBl_true, toBl_false, w_cons, w_tup, w_lst, w_bin, w_cmp, w_chain, w_not, w_and, w_or, w_ife, toInt_int, w_neg, w_idx, w_slice, w_isi, w_call, w_blt, toSeq_tup, w_star, w_rev, onNx_nx, onNx_rt, onNx_ct, x_skip, x_seq, toSl_some, x_set, x_setC, x_par, x_ret, x_expr, x_cont, x_sif, onRt_rt, onRt_nx, onTurn_nx, onTurn_ct, onTurn_rt, lay, layN, List.map_cons, List.map_nil, List.getElem?_cons_zero, List.getElem?_cons_succ, Nat.sub_self, List.replicate_zero, List.replicate_succ, List.append_nil, List.cons_append, List.nil_append, List.set_cons_zero, List.set_cons_succ, Nat.reduceSub, to_ok, wipeP, true_and, glob0, glob1, glob2, glob3, glob4, glob5, glob6, glob7, glob8, glob9, st_1, st_2, under_ok (w20 ha) W0]
  by_cases h1 : a < 0
  · simp only [h1, decide_true, w_int, w_bl, w_non, w_no, w_str, w_nil, w_one, w_var, toVar_some, w_glob, toGl_some, toTup_tup, toBl_true, toBl_false, w_cons, w_tup, w_lst, w_bin, w_cmp, w_chain, w_not, w_and, w_or, w_ife, toInt_int, w_neg, w_idx, w_slice, w_isi, w_call, w_blt, toSeq_tup, w_star, w_rev, onNx_nx, onNx_rt, onNx_ct, x_skip, x_seq, toSl_some, x_set, x_setC, x_par, x_ret, x_expr, x_cont, x_sif, onRt_rt, onRt_nx, onTurn_nx, onTurn_ct, onTurn_rt, lay, layN, List.map_cons, List.map_nil, List.getElem?_cons_zero, List.getElem?_cons_succ, Nat.sub_self, List.replicate_zero, List.replicate_succ, List.append_nil, List.cons_append, List.nil_append, List.set_cons_zero, List.set_cons_succ, Nat.reduceSub, to_ok, wipeP, true_and, glob0, glob1, glob2, glob3, glob4, glob5, glob6, glob7, glob8, glob9]
    simpa [h1] using hQ
  · simp only [h1, decide_false, w_int, w_bl, w_non, w_no, w_str, w_nil, w_one, w_var, toVar_some, w_glob, toGl_some, toTup_tup, toBl_true, toBl_false, w_cons, w_tup, w_lst, w_bin, w_cmp, w_chain, w_not, w_and, w_or, w_ife, toInt_int, w_neg, w_idx, w_slice, w_isi, w_call, w_blt, toSeq_tup, w_star, w_rev, onNx_nx, onNx_rt, onNx_ct, x_skip, x_seq, toSl_some, x_set, x_setC, x_par, x_ret, x_expr, x_cont, x_sif, onRt_rt, onRt_nx, onTurn_nx, onTurn_ct, onTurn_rt, lay, layN, List.map_cons, List.map_nil, List.getElem?_cons_zero, List.getElem?_cons_succ, Nat.sub_self, List.replicate_zero, List.replicate_succ, List.append_nil, List.cons_append, List.nil_append, List.set_cons_zero, List.set_cons_succ, Nat.reduceSub, to_ok, wipeP, true_and, glob0, glob1, glob2, glob3, glob4, glob5, glob6, glob7, glob8, glob9, st_2, under_ok (W_one.mono (by decide : 2 ≤ 4000)) (w20 hb)]
    by_cases h2 : 1 < b
    · simp only [h2, decide_true, w_int, w_bl, w_non, w_no, w_str, w_nil, w_one, w_var, toVar_some, w_glob, toGl_some, toTup_tup, toBl_true, toBl_false, w_cons, w_tup, w_lst, w_bin, w_cmp, w_chain, w_not, w_and, w_or, w_ife, toInt_int, w_neg, w_idx, w_slice, w_isi, w_call, w_blt, toSeq_tup, w_star, w_rev, onNx_nx, onNx_rt, onNx_ct, x_skip, x_seq, toSl_some, x_set, x_setC, x_par, x_ret, x_expr, x_cont, x_sif, onRt_rt, onRt_nx, onTurn_nx, onTurn_ct, onTurn_rt, lay, layN, List.map_cons, List.map_nil, List.getElem?_cons_zero, List.getElem?_cons_succ, Nat.sub_self, List.replicate_zero, List.replicate_succ, List.append_nil, List.cons_append, List.nil_append, List.set_cons_zero, List.set_cons_succ, Nat.reduceSub, to_ok, wipeP, true_and, glob0, glob1, glob2, glob3, glob4, glob5, glob6, glob7, glob8, glob9]
      simpa [h1, h2] using hQ
    · simp only [h2, decide_false, w_int, w_bl, w_non, w_no, w_str, w_nil, w_one, w_var, toVar_some, w_glob, toGl_some, toTup_tup, toBl_true, toBl_false, w_cons, w_tup, w_lst, w_bin, w_cmp, w_chain, w_not, w_and, w_or, w_ife, toInt_int, w_neg, w_idx, w_slice, w_isi, w_call, w_blt, toSeq_tup, w_star, w_rev, onNx_nx, onNx_rt, onNx_ct, x_skip, x_seq, toSl_some, x_set, x_setC, x_par, x_ret, x_expr, x_cont, x_sif, onRt_rt, onRt_nx, onTurn_nx, onTurn_ct, onTurn_rt, lay, layN, List.map_cons, List.map_nil, List.getElem?_cons_zero, List.getElem?_cons_succ, Nat.sub_self, List.replicate_zero, List.replicate_succ, List.append_nil, List.cons_append, List.nil_append, List.set_cons_zero, List.set_cons_succ, Nat.reduceSub, to_ok, wipeP, true_and, glob0, glob1, glob2, glob3, glob4, glob5, glob6, glob7, glob8, glob9]
      simpa [h1, h2] using hQ
def isSt : Pc → Bool
  | .st => true
  | _ => false
theorem S_zero {α : Type} : ∀ {l : List α}, S (l.map fun _ => 0) = 0
  | [] => rfl
  | _ :: l => by simp only [List.map_cons, S, S_zero]; grind
theorem stretches_ok (h : Sco sc) : GivesL (runF T (n + 5) 16 [.tup (sc.map pv)] s) s [] := by
  refine run_to d_stretches_in rfl ?_
  simp only [c_stretches_in, w_int, w_bl, w_non, w_no, w_str, w_nil, w_one, w_var, toVar_some, w_glob, toGl_some, toTup_tup, toBl_true, toBl_false, w_cons, w_tup, w_lst, w_bin, w_cmp, w_chain, w_not, w_and, w_or, w_ife, toInt_int, w_neg, w_idx, w_slice, w_isi, w_call, w_blt, toSeq_tup, w_star, w_rev, onNx_nx, onNx_rt, onNx_ct, x_skip, x_seq, toSl_some, x_set, x_setC, x_par, x_ret, x_expr, x_cont, x_sif, onRt_rt, onRt_nx, onTurn_nx, onTurn_ct, onTurn_rt, lay, layN, List.map_cons, List.map_nil, List.getElem?_cons_zero, List.getElem?_cons_succ, Nat.sub_self, List.replicate_zero, List.replicate_succ, List.append_nil, List.cons_append, List.nil_append, List.set_cons_zero, List.set_cons_succ, Nat.reduceSub, to_ok, wipeP, true_and, glob0, glob1, glob2, glob3, glob4, glob5, glob6, glob7, glob8, glob9]
  have hl := h.len
  refine comp_pure sc pv (fun x => if isSt x = true then some (pv x) else none) ?_ (by simp [cap]; omega) (fun x hx s' hs => ?_) fun i s1 hf1 hA hi => ?_
  · simp only [j_seq, w_int, w_bl, w_non, w_no, w_str, w_nil, w_one, w_var, toVar_some, w_glob, toGl_some, toTup_tup, toBl_true, toBl_false, w_cons, w_tup, w_lst, w_bin, w_cmp, w_chain, w_not, w_and, w_or, w_ife, toInt_int, w_neg, w_idx, w_slice, w_isi, w_call, w_blt, toSeq_tup, w_star, w_rev, onNx_nx, onNx_rt, onNx_ct, x_skip, x_seq, toSl_some, x_set, x_setC, x_par, x_ret, x_expr, x_cont, x_sif, onRt_rt, onRt_nx, onTurn_nx, onTurn_ct, onTurn_rt, lay, layN, List.map_cons, List.map_nil, List.getElem?_cons_zero, List.getElem?_cons_succ, Nat.sub_self, List.replicate_zero, List.replicate_succ, List.append_nil, List.cons_append, List.nil_append, List.set_cons_zero, List.set_cons_succ, Nat.reduceSub, to_ok, wipeP, true_and, glob0, glob1, glob2, glob3, glob4, glob5, glob6, glob7, glob8, glob9]
    exact ⟨by simp [It.most], sees_t, .refl⟩
  · cases x with
    | st => simp only [Turn, w_int, w_bl, w_non, w_no, w_str, w_nil, w_one, w_var, toVar_some, w_glob, toGl_some, toTup_tup, toBl_true, toBl_false, w_cons, w_tup, w_lst, w_bin, w_cmp, w_chain, w_not, w_and, w_or, w_ife, toInt_int, w_neg, w_idx, w_slice, w_isi, w_call, w_blt, toSeq_tup, w_star, w_rev, onNx_nx, onNx_rt, onNx_ct, x_skip, x_seq, toSl_some, x_set, x_setC, x_par, x_ret, x_expr, x_cont, x_sif, onRt_rt, onRt_nx, onTurn_nx, onTurn_ct, onTurn_rt, lay, layN, List.map_cons, List.map_nil, List.getElem?_cons_zero, List.getElem?_cons_succ, Nat.sub_self, List.replicate_zero, List.replicate_succ, List.append_nil, List.cons_append, List.nil_append, List.set_cons_zero, List.set_cons_succ, Nat.reduceSub, to_ok, wipeP, true_and, glob0, glob1, glob2, glob3, glob4, glob5, glob6, glob7, glob8, glob9, st_0, eq_ss]; exact ⟨rfl, .refl⟩
    | mk p => simp only [Turn, w_int, w_bl, w_non, w_no, w_str, w_nil, w_one, w_var, toVar_some, w_glob, toGl_some, toTup_tup, toBl_true, toBl_false, w_cons, w_tup, w_lst, w_bin, w_cmp, w_chain, w_not, w_and, w_or, w_ife, toInt_int, w_neg, w_idx, w_slice, w_isi, w_call, w_blt, toSeq_tup, w_star, w_rev, onNx_nx, onNx_rt, onNx_ct, x_skip, x_seq, toSl_some, x_set, x_setC, x_par, x_ret, x_expr, x_cont, x_sif, onRt_rt, onRt_nx, onTurn_nx, onTurn_ct, onTurn_rt, lay, layN, List.map_cons, List.map_nil, List.getElem?_cons_zero, List.getElem?_cons_succ, Nat.sub_self, List.replicate_zero, List.replicate_succ, List.append_nil, List.cons_append, List.nil_append, List.set_cons_zero, List.set_cons_succ, Nat.reduceSub, to_ok, wipeP, true_and, glob0, glob1, glob2, glob3, glob4, glob5, glob6, glob7, glob8, glob9, pv, mk_0, eq_ms]; exact ⟨rfl, .refl⟩
  · rw [fm_if] at hA
    have hK : ∀ x ∈ sc.filter isSt, x = .st := fun x hx => by
      have := (List.mem_filter.mp hx).2
      cases x with
      | st => rfl
      | mk p => cases this
    have hKl : (sc.filter isSt).length ≤ 10 := Nat.le_trans (List.length_filter_le _ _) hl
    generalize sc.filter isSt = K at hA hK hKl
    try simp only [w_int, w_bl, w_non, w_no, w_str, w_nil, w_one, w_var, toVar_some, w_glob, toGl_some, toTup_tup, toBl_true, toBl_false, w_cons, w_tup, w_lst, w_bin, w_cmp, w_chain, w_not, w_and, w_or, w_ife, toInt_int, w_neg, w_idx, w_slice, w_isi, w_call, w_blt, toSeq_tup, w_star, w_rev, onNx_nx, onNx_rt, onNx_ct, x_skip, x_seq, toSl_some, x_set, x_setC, x_par, x_ret, x_expr, x_cont, x_sif, onRt_rt, onRt_nx, onTurn_nx, onTurn_ct, onTurn_rt, lay, layN, List.map_cons, List.map_nil, List.getElem?_cons_zero, List.getElem?_cons_succ, Nat.sub_self, List.replicate_zero, List.replicate_succ, List.append_nil, List.cons_append, List.nil_append, List.set_cons_zero, List.set_cons_succ, Nat.reduceSub, to_ok, wipeP, true_and, glob0, glob1, glob2, glob3, glob4, glob5, glob6, glob7, glob8, glob9]
    refine comp_pure K pv (fun _ => some (q 0)) ?_ (by simp [cap]; omega) (fun x hx s' hs => ?_) fun i2 s2 hf2 hA2 hi2 => ?_
    · simp only [j_seq, w_int, w_bl, w_non, w_no, w_str, w_nil, w_one, w_var, toVar_some, w_glob, toGl_some, toTup_tup, toBl_true, toBl_false, w_cons, w_tup, w_lst, w_bin, w_cmp, w_chain, w_not, w_and, w_or, w_ife, toInt_int, w_neg, w_idx, w_slice, w_isi, w_call, w_blt, toSeq_tup, w_star, w_rev, onNx_nx, onNx_rt, onNx_ct, x_skip, x_seq, toSl_some, x_set, x_setC, x_par, x_ret, x_expr, x_cont, x_sif, onRt_rt, onRt_nx, onTurn_nx, onTurn_ct, onTurn_rt, lay, layN, List.map_cons, List.map_nil, List.getElem?_cons_zero, List.getElem?_cons_succ, Nat.sub_self, List.replicate_zero, List.replicate_succ, List.append_nil, List.cons_append, List.nil_append, List.set_cons_zero, List.set_cons_succ, Nat.reduceSub, to_ok, wipeP, true_and, glob0, glob1, glob2, glob3, glob4, glob5, glob6, glob7, glob8, glob9]
      exact ⟨_, hA.getL, by simp [It.most, hA.getL], sees_l fun s'' hs'' => hA.fr0 hs'', .refl⟩
    · rw [hK x hx]
      simp only [Turn, w_int, w_bl, w_non, w_no, w_str, w_nil, w_one, w_var, toVar_some, w_glob, toGl_some, toTup_tup, toBl_true, toBl_false, w_cons, w_tup, w_lst, w_bin, w_cmp, w_chain, w_not, w_and, w_or, w_ife, toInt_int, w_neg, w_idx, w_slice, w_isi, w_call, w_blt, toSeq_tup, w_star, w_rev, onNx_nx, onNx_rt, onNx_ct, x_skip, x_seq, toSl_some, x_set, x_setC, x_par, x_ret, x_expr, x_cont, x_sif, onRt_rt, onRt_nx, onTurn_nx, onTurn_ct, onTurn_rt, lay, layN, List.map_cons, List.map_nil, List.getElem?_cons_zero, List.getElem?_cons_succ, Nat.sub_self, List.replicate_zero, List.replicate_succ, List.append_nil, List.cons_append, List.nil_append, List.set_cons_zero, List.set_cons_succ, Nat.reduceSub, to_ok, wipeP, true_and, glob0, glob1, glob2, glob3, glob4, glob5, glob6, glob7, glob8, glob9, st_1]
      exact .refl
    · try simp only [w_int, w_bl, w_non, w_no, w_str, w_nil, w_one, w_var, toVar_some, w_glob, toGl_some, toTup_tup, toBl_true, toBl_false, w_cons, w_tup, w_lst, w_bin, w_cmp, w_chain, w_not, w_and, w_or, w_ife, toInt_int, w_neg, w_idx, w_slice, w_isi, w_call, w_blt, toSeq_tup, w_star, w_rev, onNx_nx, onNx_rt, onNx_ct, x_skip, x_seq, toSl_some, x_set, x_setC, x_par, x_ret, x_expr, x_cont, x_sif, onRt_rt, onRt_nx, onTurn_nx, onTurn_ct, onTurn_rt, lay, layN, List.map_cons, List.map_nil, List.getElem?_cons_zero, List.getElem?_cons_succ, Nat.sub_self, List.replicate_zero, List.replicate_succ, List.append_nil, List.cons_append, List.nil_append, List.set_cons_zero, List.set_cons_succ, Nat.reduceSub, to_ok, wipeP, true_and, glob0, glob1, glob2, glob3, glob4, glob5, glob6, glob7, glob8, glob9]
      have hA1 := hA.fr0 hf2
      refine comp_pure K pv (fun _ => some (q 1)) ?_ (by simp [cap]; omega) (fun x hx s' hs => ?_) fun i3 s3 hf3 hA3 hi3 => ?_
      · simp only [j_seq, w_int, w_bl, w_non, w_no, w_str, w_nil, w_one, w_var, toVar_some, w_glob, toGl_some, toTup_tup, toBl_true, toBl_false, w_cons, w_tup, w_lst, w_bin, w_cmp, w_chain, w_not, w_and, w_or, w_ife, toInt_int, w_neg, w_idx, w_slice, w_isi, w_call, w_blt, toSeq_tup, w_star, w_rev, onNx_nx, onNx_rt, onNx_ct, x_skip, x_seq, toSl_some, x_set, x_setC, x_par, x_ret, x_expr, x_cont, x_sif, onRt_rt, onRt_nx, onTurn_nx, onTurn_ct, onTurn_rt, lay, layN, List.map_cons, List.map_nil, List.getElem?_cons_zero, List.getElem?_cons_succ, Nat.sub_self, List.replicate_zero, List.replicate_succ, List.append_nil, List.cons_append, List.nil_append, List.set_cons_zero, List.set_cons_succ, Nat.reduceSub, to_ok, wipeP, true_and, glob0, glob1, glob2, glob3, glob4, glob5, glob6, glob7, glob8, glob9]
        exact ⟨_, hA1.getL, by simp [It.most, hA1.getL], sees_l fun s'' hs'' => hA1.fr0 hs'', .refl⟩
      · rw [hK x hx]
        simp only [Turn, w_int, w_bl, w_non, w_no, w_str, w_nil, w_one, w_var, toVar_some, w_glob, toGl_some, toTup_tup, toBl_true, toBl_false, w_cons, w_tup, w_lst, w_bin, w_cmp, w_chain, w_not, w_and, w_or, w_ife, toInt_int, w_neg, w_idx, w_slice, w_isi, w_call, w_blt, toSeq_tup, w_star, w_rev, onNx_nx, onNx_rt, onNx_ct, x_skip, x_seq, toSl_some, x_set, x_setC, x_par, x_ret, x_expr, x_cont, x_sif, onRt_rt, onRt_nx, onTurn_nx, onTurn_ct, onTurn_rt, lay, layN, List.map_cons, List.map_nil, List.getElem?_cons_zero, List.getElem?_cons_succ, Nat.sub_self, List.replicate_zero, List.replicate_succ, List.append_nil, List.cons_append, List.nil_append, List.set_cons_zero, List.set_cons_succ, Nat.reduceSub, to_ok, wipeP, true_and, glob0, glob1, glob2, glob3, glob4, glob5, glob6, glob7, glob8, glob9, st_2]
        exact .refl
      · rw [fm_some] at hA2 hA3
        have e2 : K.map (fun _ => q 0) ++ K.map (fun _ => q 1) = (K.map (fun _ => (0 : Rat)) ++ K.map (fun _ => (1 : Rat))).map q := by simp [Function.comp_def]
        try simp only [w_int, w_bl, w_non, w_no, w_str, w_nil, w_one, w_var, toVar_some, w_glob, toGl_some, toTup_tup, toBl_true, toBl_false, w_cons, w_tup, w_lst, w_bin, w_cmp, w_chain, w_not, w_and, w_or, w_ife, toInt_int, w_neg, w_idx, w_slice, w_isi, w_call, w_blt, toSeq_tup, w_star, w_rev, onNx_nx, onNx_rt, onNx_ct, x_skip, x_seq, toSl_some, x_set, x_setC, x_par, x_ret, x_expr, x_cont, x_sif, onRt_rt, onRt_nx, onTurn_nx, onTurn_ct, onTurn_rt, lay, layN, List.map_cons, List.map_nil, List.getElem?_cons_zero, List.getElem?_cons_succ, Nat.sub_self, List.replicate_zero, List.replicate_succ, List.append_nil, List.cons_append, List.nil_append, List.set_cons_zero, List.set_cons_succ, Nat.reduceSub, to_ok, wipeP, true_and, glob0, glob1, glob2, glob3, glob4, glob5, glob6, glob7, glob8, glob9]
        rw [addL (hA2.fr0 hf3) hA3 (by simp [cap]; omega), e2]
        have hl2 : (K.map (fun _ => (0 : Rat)) ++ K.map (fun _ => (1 : Rat))).length ≤ 20 := by simp; omega
        have hw2 : ∀ x ∈ K.map (fun _ => (0 : Rat)) ++ K.map (fun _ => (1 : Rat)), W 20 x := fun x hx => by
          rcases List.mem_append.mp hx with hx | hx
          · obtain ⟨_, _, rfl⟩ := List.mem_map.mp hx
            exact W1.mono (by decide)
          · obtain ⟨_, _, rfl⟩ := List.mem_map.mp hx
            exact W_one.mono (by decide)
        generalize K.map (fun _ => (0 : Rat)) ++ K.map (fun _ => (1 : Rat)) = l at hl2 hw2 ⊢
        have fA : Fr [] s (s3.new (.lst (l.map q))) := ((hf1.trans hf2).trans hf3).trans .new
        have hA4 : At (s3.new (.lst (l.map q))) i (K.map pv) := (hA1.fr0 hf3).fr0 .new
        refine (rise_ok .new hw2 (by omega)).to fun ic s5 hf5 hc hcn => ?_
        have hcl : (rise l).length ≤ 20 := Nat.le_trans rise_len hl2
        have hcw : ∀ x ∈ rise l, W 20 x := fun x hx => hw2 x (rise_mem hx)
        have hA5 := hA4.fr0 hf5
        generalize rise l = R at hc hcl hcw
        try simp only [w_int, w_bl, w_non, w_no, w_str, w_nil, w_one, w_var, toVar_some, w_glob, toGl_some, toTup_tup, toBl_true, toBl_false, w_cons, w_tup, w_lst, w_bin, w_cmp, w_chain, w_not, w_and, w_or, w_ife, toInt_int, w_neg, w_idx, w_slice, w_isi, w_call, w_blt, toSeq_tup, w_star, w_rev, onNx_nx, onNx_rt, onNx_ct, x_skip, x_seq, toSl_some, x_set, x_setC, x_par, x_ret, x_expr, x_cont, x_sif, onRt_rt, onRt_nx, onTurn_nx, onTurn_ct, onTurn_rt, lay, layN, List.map_cons, List.map_nil, List.getElem?_cons_zero, List.getElem?_cons_succ, Nat.sub_self, List.replicate_zero, List.replicate_succ, List.append_nil, List.cons_append, List.nil_append, List.set_cons_zero, List.set_cons_succ, Nat.reduceSub, to_ok, wipeP, true_and, glob0, glob1, glob2, glob3, glob4, glob5, glob6, glob7, glob8, glob9]
        refine ⟨by simp [cap], ?_⟩
        have fB : Fr [] s (s5.new (.lst [])) := (fA.trans hf5).trans .new
        have hA6 : At (s5.new (.lst [])) i (K.map pv) := hA5.fr0 .new
        have hc6 : At (s5.new (.lst [])) ic (R.map q) := hc.fr0 .new
        have hj6 : At (s5.new (.lst [])) s5.n [] := .new
        have hjn : s.n ≤ s5.n := (fA.trans hf5).le
        generalize s5.new (.lst []) = s6 at fB hA6 hc6 hj6 ⊢
        generalize s5.n = jf at hj6 hjn ⊢
        rw [x_sfor]
        refine j_zip ?_
        simp only [w_int, w_bl, w_non, w_no, w_str, w_nil, w_one, w_var, toVar_some, w_glob, toGl_some, toTup_tup, toBl_true, toBl_false, w_cons, w_tup, w_lst, w_bin, w_cmp, w_chain, w_not, w_and, w_or, w_ife, toInt_int, w_neg, w_idx, w_slice, w_isi, w_call, w_blt, toSeq_tup, w_star, w_rev, onNx_nx, onNx_rt, onNx_ct, x_skip, x_seq, toSl_some, x_set, x_setC, x_par, x_ret, x_expr, x_cont, x_sif, onRt_rt, onRt_nx, onTurn_nx, onTurn_ct, onTurn_rt, lay, layN, List.map_cons, List.map_nil, List.getElem?_cons_zero, List.getElem?_cons_succ, Nat.sub_self, List.replicate_zero, List.replicate_succ, List.append_nil, List.cons_append, List.nil_append, List.set_cons_zero, List.set_cons_succ, Nat.reduceSub, to_ok, wipeP, true_and, glob0, glob1, glob2, glob3, glob4, glob5, glob6, glob7, glob8, glob9]
        refine ⟨some ((1 : Nat) : Int), none, rfl, rfl, ?_⟩
        by_cases hR : R = []
        · subst hR
          have e7 : ∀ {Q' : PV → Sto → Prop}, (evSlice (.lst ic) (some ((1 : Nat) : Int)) none s6).to Q' = Q' (.lst s6.n) (s6.new (.lst [])) := fun {Q'} => by simp only [evSlice, hc6.getL, to_ok]; rfl
          rw [e7]
          refine ⟨_, _, _, rfl, zip2_ll (hc6.fr0 .new) .new, ?_⟩
          have hc7 : At (s6.new (.lst [])) ic [] := hc6.fr0 .new
          have e8 : (It.zp (.l ic) (.l s6.n)).most (s6.new (.lst [])) = 0 := by simp [It.most, hc7.getL]
          rw [e8]
          have e9 : (It.zp (.l ic) (.l s6.n)).at 0 (s6.new (.lst [])) = some none := by
            have : At (s6.new (.lst [])) s6.n [] := .new
            simp [It.at, It.items, hc7.getL, this.getL]
          simp only [forF, e9]
          try simp only [w_int, w_bl, w_non, w_no, w_str, w_nil, w_one, w_var, toVar_some, w_glob, toGl_some, toTup_tup, toBl_true, toBl_false, w_cons, w_tup, w_lst, w_bin, w_cmp, w_chain, w_not, w_and, w_or, w_ife, toInt_int, w_neg, w_idx, w_slice, w_isi, w_call, w_blt, toSeq_tup, w_star, w_rev, onNx_nx, onNx_rt, onNx_ct, x_skip, x_seq, toSl_some, x_set, x_setC, x_par, x_ret, x_expr, x_cont, x_sif, onRt_rt, onRt_nx, onTurn_nx, onTurn_ct, onTurn_rt, lay, layN, List.map_cons, List.map_nil, List.getElem?_cons_zero, List.getElem?_cons_succ, Nat.sub_self, List.replicate_zero, List.replicate_succ, List.append_nil, List.cons_append, List.nil_append, List.set_cons_zero, List.set_cons_succ, Nat.reduceSub, to_ok, wipeP, true_and, glob0, glob1, glob2, glob3, glob4, glob5, glob6, glob7, glob8, glob9]
          exact ⟨fB.trans .new, _, rfl, hj6.fr0 .new, hjn⟩
        · have h1 : 1 ≤ (R.map q).length := by
            have := List.length_pos_iff.mpr hR
            rw [List.length_map]
            omega
          rw [slice_from hc6 h1]
          refine ⟨_, _, _, rfl, zip2_ll (hc6.fr0 .new) .new, ?_⟩
          have ed : (R.map q).drop 1 = (R.drop 1).map q := by simp
          rw [ed]
          have hc7 : At (s6.new (.lst ((R.drop 1).map q))) ic (R.map q) := hc6.fr0 .new
          have hd7 : At (s6.new (.lst ((R.drop 1).map q))) s6.n ((R.drop 1).map q) := .new
          have hA7 : At (s6.new (.lst ((R.drop 1).map q))) i (K.map pv) := hA6.fr0 .new
          have hj7 : At (s6.new (.lst ((R.drop 1).map q))) jf [] := hj6.fr0 .new
          have fC : Fr [] s (s6.new (.lst ((R.drop 1).map q))) := fB.trans .new
          generalize s6.new (.lst ((R.drop 1).map q)) = s7 at hc7 hd7 hA7 hj7 fC ⊢
          generalize s6.n = id at hd7 ⊢
          have e8 : (It.zp (.l ic) (.l id)).most s7 = (R.zip (R.drop 1)).length := by simp [It.most, hc7.getL, hd7.getL]
          rw [e8]
          refine for_inv (L := R.zip (R.drop 1)) (g := fun p => .tup [q p.1, q p.2]) (I := Fr [] s7) (fun k σ s' => Fr [] s7 s' ∧ ∃ o1 o2 o3 o4, σ = [some (.tup (sc.map pv)), some (.lst i), some (.lst ic), some (.lst jf), o1, o2, o3, o4]) (sees_zp (a := .l ic) (b := .l id) (fun s' h => (hc7.fr0 h).getL) (fun s' h => (hd7.fr0 h).getL)) (fun k σ s' h => h.1) (fun k m σ s' hm ⟨hJ, o1, o2, o3, o4, eσ⟩ => ?_) (fun σ s' ⟨hJ, o1, o2, o3, o4, eσ⟩ => ?_) _ 0 _ _ (by omega) ⟨.refl, none, none, none, none, rfl⟩
          · subst eσ
            have hmm := List.mem_of_getElem? hm
            have hmz := List.of_mem_zip hmm
            have hm1 : W 20 m.1 := hcw _ hmz.1
            have hm2 : W 20 m.2 := hcw _ (List.mem_of_mem_drop hmz.2)
            have hAk := hA7.fr0 hJ
            try simp only [w_int, w_bl, w_non, w_no, w_str, w_nil, w_one, w_var, toVar_some, w_glob, toGl_some, toTup_tup, toBl_true, toBl_false, w_cons, w_tup, w_lst, w_bin, w_cmp, w_chain, w_not, w_and, w_or, w_ife, toInt_int, w_neg, w_idx, w_slice, w_isi, w_call, w_blt, toSeq_tup, w_star, w_rev, onNx_nx, onNx_rt, onNx_ct, x_skip, x_seq, toSl_some, x_set, x_setC, x_par, x_ret, x_expr, x_cont, x_sif, onRt_rt, onRt_nx, onTurn_nx, onTurn_ct, onTurn_rt, lay, layN, List.map_cons, List.map_nil, List.getElem?_cons_zero, List.getElem?_cons_succ, Nat.sub_self, List.replicate_zero, List.replicate_succ, List.append_nil, List.cons_append, List.nil_append, List.set_cons_zero, List.set_cons_succ, Nat.reduceSub, to_ok, wipeP, true_and, glob0, glob1, glob2, glob3, glob4, glob5, glob6, glob7, glob8, glob9]
            refine comp_pure K pv (fun _ => if (!decide (m.1 < 0) && !decide (1 < m.2)) = true then some (q 0) else none) ?_ (by simp [cap]; omega) (fun x hx s8 hs => ?_) fun i8 s8 hf8 hA8 hi8 => ?_
            · simp only [j_seq, w_int, w_bl, w_non, w_no, w_str, w_nil, w_one, w_var, toVar_some, w_glob, toGl_some, toTup_tup, toBl_true, toBl_false, w_cons, w_tup, w_lst, w_bin, w_cmp, w_chain, w_not, w_and, w_or, w_ife, toInt_int, w_neg, w_idx, w_slice, w_isi, w_call, w_blt, toSeq_tup, w_star, w_rev, onNx_nx, onNx_rt, onNx_ct, x_skip, x_seq, toSl_some, x_set, x_setC, x_par, x_ret, x_expr, x_cont, x_sif, onRt_rt, onRt_nx, onTurn_nx, onTurn_ct, onTurn_rt, lay, layN, List.map_cons, List.map_nil, List.getElem?_cons_zero, List.getElem?_cons_succ, Nat.sub_self, List.replicate_zero, List.replicate_succ, List.append_nil, List.cons_append, List.nil_append, List.set_cons_zero, List.set_cons_succ, Nat.reduceSub, to_ok, wipeP, true_and, glob0, glob1, glob2, glob3, glob4, glob5, glob6, glob7, glob8, glob9]
              exact ⟨_, hAk.getL, by simp [It.most, hAk.getL], sees_l fun s'' hs'' => hAk.fr0 hs'', .refl⟩
            · rw [hK x hx]
              simp only [Turn, w_int, w_bl, w_non, w_no, w_str, w_nil, w_one, w_var, toVar_some, w_glob, toGl_some, toTup_tup, toBl_true, toBl_false, w_cons, w_tup, w_lst, w_bin, w_cmp, w_chain, w_not, w_and, w_or, w_ife, toInt_int, w_neg, w_idx, w_slice, w_isi, w_call, w_blt, toSeq_tup, w_star, w_rev, onNx_nx, onNx_rt, onNx_ct, x_skip, x_seq, toSl_some, x_set, x_setC, x_par, x_ret, x_expr, x_cont, x_sif, onRt_rt, onRt_nx, onTurn_nx, onTurn_ct, onTurn_rt, lay, layN, List.map_cons, List.map_nil, List.getElem?_cons_zero, List.getElem?_cons_succ, Nat.sub_self, List.replicate_zero, List.replicate_succ, List.append_nil, List.cons_append, List.nil_append, List.set_cons_zero, List.set_cons_succ, Nat.reduceSub, to_ok, wipeP, true_and, glob0, glob1, glob2, glob3, glob4, glob5, glob6, glob7, glob8, glob9, covers_ok hm1 hm2]
              cases (!decide (m.1 < 0) && !decide (1 < m.2)) with
              | true => simp only [w_int, w_bl, w_non, w_no, w_str, w_nil, w_one, w_var, toVar_some, w_glob, toGl_some, toTup_tup, toBl_true, toBl_false, w_cons, w_tup, w_lst, w_bin, w_cmp, w_chain, w_not, w_and, w_or, w_ife, toInt_int, w_neg, w_idx, w_slice, w_isi, w_call, w_blt, toSeq_tup, w_star, w_rev, onNx_nx, onNx_rt, onNx_ct, x_skip, x_seq, toSl_some, x_set, x_setC, x_par, x_ret, x_expr, x_cont, x_sif, onRt_rt, onRt_nx, onTurn_nx, onTurn_ct, onTurn_rt, lay, layN, List.map_cons, List.map_nil, List.getElem?_cons_zero, List.getElem?_cons_succ, Nat.sub_self, List.replicate_zero, List.replicate_succ, List.append_nil, List.cons_append, List.nil_append, List.set_cons_zero, List.set_cons_succ, Nat.reduceSub, to_ok, wipeP, true_and, glob0, glob1, glob2, glob3, glob4, glob5, glob6, glob7, glob8, glob9, st_3]; exact ⟨rfl, .refl⟩
              | false => simp only [w_int, w_bl, w_non, w_no, w_str, w_nil, w_one, w_var, toVar_some, w_glob, toGl_some, toTup_tup, toBl_true, toBl_false, w_cons, w_tup, w_lst, w_bin, w_cmp, w_chain, w_not, w_and, w_or, w_ife, toInt_int, w_neg, w_idx, w_slice, w_isi, w_call, w_blt, toSeq_tup, w_star, w_rev, onNx_nx, onNx_rt, onNx_ct, x_skip, x_seq, toSl_some, x_set, x_setC, x_par, x_ret, x_expr, x_cont, x_sif, onRt_rt, onRt_nx, onTurn_nx, onTurn_ct, onTurn_rt, lay, layN, List.map_cons, List.map_nil, List.getElem?_cons_zero, List.getElem?_cons_succ, Nat.sub_self, List.replicate_zero, List.replicate_succ, List.append_nil, List.cons_append, List.nil_append, List.set_cons_zero, List.set_cons_succ, Nat.reduceSub, to_ok, wipeP, true_and, glob0, glob1, glob2, glob3, glob4, glob5, glob6, glob7, glob8, glob9]; exact ⟨rfl, .refl⟩
            · rw [fm_if, show (K.filter fun _ => (!decide (m.1 < 0) && !decide (1 < m.2))).map (fun _ => q 0) = ((K.filter fun _ => (!decide (m.1 < 0) && !decide (1 < m.2))).map (fun _ => (0 : Rat))).map q by simp] at hA8
              have hfl : (K.filter fun _ => (!decide (m.1 < 0) && !decide (1 < m.2))).length ≤ K.length := List.length_filter_le _ _
              try simp only [w_int, w_bl, w_non, w_no, w_str, w_nil, w_one, w_var, toVar_some, w_glob, toGl_some, toTup_tup, toBl_true, toBl_false, w_cons, w_tup, w_lst, w_bin, w_cmp, w_chain, w_not, w_and, w_or, w_ife, toInt_int, w_neg, w_idx, w_slice, w_isi, w_call, w_blt, toSeq_tup, w_star, w_rev, onNx_nx, onNx_rt, onNx_ct, x_skip, x_seq, toSl_some, x_set, x_setC, x_par, x_ret, x_expr, x_cont, x_sif, onRt_rt, onRt_nx, onTurn_nx, onTurn_ct, onTurn_rt, lay, layN, List.map_cons, List.map_nil, List.getElem?_cons_zero, List.getElem?_cons_succ, Nat.sub_self, List.replicate_zero, List.replicate_succ, List.append_nil, List.cons_append, List.nil_append, List.set_cons_zero, List.set_cons_succ, Nat.reduceSub, to_ok, wipeP, true_and, glob0, glob1, glob2, glob3, glob4, glob5, glob6, glob7, glob8, glob9]
              rw [sum_ok (k := 1) hA8 (fun x hx => by
                obtain ⟨_, _, rfl⟩ := List.mem_map.mp hx
                exact W1) (by decide) (by simp only [List.length_map]; omega), S_zero]
              simp only [w_int, w_bl, w_non, w_no, w_str, w_nil, w_one, w_var, toVar_some, w_glob, toGl_some, toTup_tup, toBl_true, toBl_false, w_cons, w_tup, w_lst, w_bin, w_cmp, w_chain, w_not, w_and, w_or, w_ife, toInt_int, w_neg, w_idx, w_slice, w_isi, w_call, w_blt, toSeq_tup, w_star, w_rev, onNx_nx, onNx_rt, onNx_ct, x_skip, x_seq, toSl_some, x_set, x_setC, x_par, x_ret, x_expr, x_cont, x_sif, onRt_rt, onRt_nx, onTurn_nx, onTurn_ct, onTurn_rt, lay, layN, List.map_cons, List.map_nil, List.getElem?_cons_zero, List.getElem?_cons_succ, Nat.sub_self, List.replicate_zero, List.replicate_succ, List.append_nil, List.cons_append, List.nil_append, List.set_cons_zero, List.set_cons_succ, Nat.reduceSub, to_ok, wipeP, true_and, glob0, glob1, glob2, glob3, glob4, glob5, glob6, glob7, glob8, glob9, w_eqq, decide_true]
              exact ⟨hJ.trans hf8, _, _, _, _, rfl⟩
          · subst eσ
            try simp only [w_int, w_bl, w_non, w_no, w_str, w_nil, w_one, w_var, toVar_some, w_glob, toGl_some, toTup_tup, toBl_true, toBl_false, w_cons, w_tup, w_lst, w_bin, w_cmp, w_chain, w_not, w_and, w_or, w_ife, toInt_int, w_neg, w_idx, w_slice, w_isi, w_call, w_blt, toSeq_tup, w_star, w_rev, onNx_nx, onNx_rt, onNx_ct, x_skip, x_seq, toSl_some, x_set, x_setC, x_par, x_ret, x_expr, x_cont, x_sif, onRt_rt, onRt_nx, onTurn_nx, onTurn_ct, onTurn_rt, lay, layN, List.map_cons, List.map_nil, List.getElem?_cons_zero, List.getElem?_cons_succ, Nat.sub_self, List.replicate_zero, List.replicate_succ, List.append_nil, List.cons_append, List.nil_append, List.set_cons_zero, List.set_cons_succ, Nat.reduceSub, to_ok, wipeP, true_and, glob0, glob1, glob2, glob3, glob4, glob5, glob6, glob7, glob8, glob9]
            exact ⟨fC.trans hJ, _, rfl, hj7.fr0 hJ, hjn⟩
theorem plain_in_ok (h : Sco sc) : Gives (runF T (n + 6) 17 [.tup (sc.map pv)] s) s (.tup ((merged (ms sc)).map mk)) := by
  refine run_to d_plain_in rfl ?_
  simp only [c_plain_in, w_int, w_bl, w_non, w_no, w_str, w_nil, w_one, w_var, toVar_some, w_glob, toGl_some, toTup_tup, toBl_true, toBl_false, w_cons, w_tup, w_lst, w_bin, w_cmp, w_chain, w_not, w_and, w_or, w_ife, toInt_int, w_neg, w_idx, w_slice, w_isi, w_call, w_blt, toSeq_tup, w_star, w_rev, onNx_nx, onNx_rt, onNx_ct, x_skip, x_seq, toSl_some, x_set, x_setC, x_par, x_ret, x_expr, x_cont, x_sif, onRt_rt, onRt_nx, onTurn_nx, onTurn_ct, onTurn_rt, lay, layN, List.map_cons, List.map_nil, List.getElem?_cons_zero, List.getElem?_cons_succ, Nat.sub_self, List.replicate_zero, List.replicate_succ, List.append_nil, List.cons_append, List.nil_append, List.set_cons_zero, List.set_cons_succ, Nat.reduceSub, to_ok, wipeP, true_and, glob0, glob1, glob2, glob3, glob4, glob5, glob6, glob7, glob8, glob9]
  refine (marks_ok h).to fun i s1 h1 hA hi => (stretches_ok h).to fun j s2 h2 hB hj => ?_
  try simp only [w_int, w_bl, w_non, w_no, w_str, w_nil, w_one, w_var, toVar_some, w_glob, toGl_some, toTup_tup, toBl_true, toBl_false, w_cons, w_tup, w_lst, w_bin, w_cmp, w_chain, w_not, w_and, w_or, w_ife, toInt_int, w_neg, w_idx, w_slice, w_isi, w_call, w_blt, toSeq_tup, w_star, w_rev, onNx_nx, onNx_rt, onNx_ct, x_skip, x_seq, toSl_some, x_set, x_setC, x_par, x_ret, x_expr, x_cont, x_sif, onRt_rt, onRt_nx, onTurn_nx, onTurn_ct, onTurn_rt, lay, layN, List.map_cons, List.map_nil, List.getElem?_cons_zero, List.getElem?_cons_succ, Nat.sub_self, List.replicate_zero, List.replicate_succ, List.append_nil, List.cons_append, List.nil_append, List.set_cons_zero, List.set_cons_succ, Nat.reduceSub, to_ok, wipeP, true_and, glob0, glob1, glob2, glob3, glob4, glob5, glob6, glob7, glob8, glob9]
  have hml : (merged (ms sc)).length ≤ 10 := by
    refine Nat.le_trans (List.length_filter_le _ _) ?_
    rw [List.length_map]
    refine Nat.le_trans rise_len ?_
    rw [List.length_map]
    exact Nat.le_trans ms_len h.len
  rw [addL (hA.fr0 h2) hB (by simp [cap]; omega)]
  try simp only [w_int, w_bl, w_non, w_no, w_str, w_nil, w_one, w_var, toVar_some, w_glob, toGl_some, toTup_tup, toBl_true, toBl_false, w_cons, w_tup, w_lst, w_bin, w_cmp, w_chain, w_not, w_and, w_or, w_ife, toInt_int, w_neg, w_idx, w_slice, w_isi, w_call, w_blt, toSeq_tup, w_star, w_rev, onNx_nx, onNx_rt, onNx_ct, x_skip, x_seq, toSl_some, x_set, x_setC, x_par, x_ret, x_expr, x_cont, x_sif, onRt_rt, onRt_nx, onTurn_nx, onTurn_ct, onTurn_rt, lay, layN, List.map_cons, List.map_nil, List.getElem?_cons_zero, List.getElem?_cons_succ, Nat.sub_self, List.replicate_zero, List.replicate_succ, List.append_nil, List.cons_append, List.nil_append, List.set_cons_zero, List.set_cons_succ, Nat.reduceSub, to_ok, wipeP, true_and, glob0, glob1, glob2, glob3, glob4, glob5, glob6, glob7, glob8, glob9]
  rw [tuple_lst .new]
  exact ⟨rfl, (h1.trans h2).trans .new⟩
theorem plain_ok (h : Sco sc) : Gives (runF T (n + 7) 18 [.tup (sc.map pv)] s) s (.tup ((merged (ms sc)).map mk)) := by
  refine run_to d_plain rfl ?_
  simp only [c_plain, w_int, w_bl, w_non, w_no, w_str, w_nil, w_one, w_var, toVar_some, w_glob, toGl_some, toTup_tup, toBl_true, toBl_false, w_cons, w_tup, w_lst, w_bin, w_cmp, w_chain, w_not, w_and, w_or, w_ife, toInt_int, w_neg, w_idx, w_slice, w_isi, w_call, w_blt, toSeq_tup, w_star, w_rev, onNx_nx, onNx_rt, onNx_ct, x_skip, x_seq, toSl_some, x_set, x_setC, x_par, x_ret, x_expr, x_cont, x_sif, onRt_rt, onRt_nx, onTurn_nx, onTurn_ct, onTurn_rt, lay, layN, List.map_cons, List.map_nil, List.getElem?_cons_zero, List.getElem?_cons_succ, Nat.sub_self, List.replicate_zero, List.replicate_succ, List.append_nil, List.cons_append, List.nil_append, List.set_cons_zero, List.set_cons_succ, Nat.reduceSub, to_ok, wipeP, true_and, glob0, glob1, glob2, glob3, glob4, glob5, glob6, glob7, glob8, glob9]
  refine (needscore_ok h).to fun s1 h1 => ?_
  try simp only [w_int, w_bl, w_non, w_no, w_str, w_nil, w_one, w_var, toVar_some, w_glob, toGl_some, toTup_tup, toBl_true, toBl_false, w_cons, w_tup, w_lst, w_bin, w_cmp, w_chain, w_not, w_and, w_or, w_ife, toInt_int, w_neg, w_idx, w_slice, w_isi, w_call, w_blt, toSeq_tup, w_star, w_rev, onNx_nx, onNx_rt, onNx_ct, x_skip, x_seq, toSl_some, x_set, x_setC, x_par, x_ret, x_expr, x_cont, x_sif, onRt_rt, onRt_nx, onTurn_nx, onTurn_ct, onTurn_rt, lay, layN, List.map_cons, List.map_nil, List.getElem?_cons_zero, List.getElem?_cons_succ, Nat.sub_self, List.replicate_zero, List.replicate_succ, List.append_nil, List.cons_append, List.nil_append, List.set_cons_zero, List.set_cons_succ, Nat.reduceSub, to_ok, wipeP, true_and, glob0, glob1, glob2, glob3, glob4, glob5, glob6, glob7, glob8, glob9]
  refine (plain_in_ok h).to fun s2 h2 => ?_
  exact ⟨rfl, h1.trans h2⟩
def dmk (p : Rat × Rat) : PyData := .tuple [.str "mark", dq p.1, dq p.2]
def drow (p : Rat × Rat) : PyData := .tuple [dq p.1, dq p.2]
theorem toD_mk {m : Nat} : toD s (m + 3) (mk p) = some (dmk p) := rfl
theorem toD_row {m : Nat} : toD s (m + 3) (row p) = some (drow p) := rfl
theorem depthAll {α : Type} {h : α → PyData} {m : Nat} : ∀ {l : List α}, (∀ a ∈ l, (h a).depth ≤ m) → PyData.depthAll (l.map h) ≤ m
  | [], _ => by simp [PyData.depthAll]
  | a :: l, e => by
    simp only [List.map_cons, PyData.depthAll]
    have h1 := e a List.mem_cons_self
    have h2 := depthAll (l := l) fun b hb => e b (List.mem_cons_of_mem _ hb)
    omega
theorem can_mk : (dmk p).canLay0 = true := by
  have h : (PyData.str "mark").canLay0 = true := by decide +kernel
  simp only [dmk, dq, PyData.canLay0, PyData.canLayAll0] at h ⊢
  simp [h]
theorem can_row : (drow p).canLay0 = true := rfl
theorem dep_mk : (dmk p).depth ≤ 10 := by simp [dmk, dq, PyData.depth, PyData.depthAll]
theorem dep_row : (drow p).depth ≤ 10 := by simp [drow, dq, PyData.depth, PyData.depthAll]
theorem dep_tup {α : Type} {h : α → PyData} {m : Nat} {l : List α} (e : ∀ a ∈ l, (h a).depth ≤ m) (hm : m ≤ 63) : (PyData.tuple (l.map h)).depth ≤ 64 := by
  have := depthAll e
  simp only [PyData.depth]
  omega
theorem dep_lst {α : Type} {h : α → PyData} {m : Nat} {l : List α} (e : ∀ a ∈ l, (h a).depth ≤ m) (hm : m ≤ 63) : (PyData.list (l.map h)).depth ≤ 64 := by
  have := depthAll e
  simp only [PyData.depth]
  omega
theorem eqP_sco {M : List (Rat × Rat)} : eqP s (.tup (M.map mk)) (.tup (M.map mk)) = some true := by
  have e : toD s 60 (.tup (M.map mk)) = some (.tuple (M.map dmk)) := toD_tup fun a _ => toD_mk
  exact eq_same e e (canAll fun a _ => can_mk) (dep_tup (fun a _ => dep_mk) (by decide))
theorem eqP_lad {M : List (Rat × Rat)} : eqP s (lad M) (lad M) = some true := by
  have e : toD s 60 (.tup (M.map row)) = some (.tuple (M.map drow)) := toD_tup fun a _ => toD_row
  exact eq_same e e (canAll fun a _ => can_row) (dep_tup (fun a _ => dep_row) (by decide))
theorem like_ok {sd : List Pc} (h : Sco sc) (k : Sco sd) (e : merged (ms sc) = merged (ms sd)) : Gives (runF T (n + 7) 19 [.tup (sc.map pv), .tup (sd.map pv)] s) s (.bl true) := by
  refine run_to d_are_like rfl ?_
  simp only [c_are_like, w_int, w_bl, w_non, w_no, w_str, w_nil, w_one, w_var, toVar_some, w_glob, toGl_some, toTup_tup, toBl_true, toBl_false, w_cons, w_tup, w_lst, w_bin, w_cmp, w_chain, w_not, w_and, w_or, w_ife, toInt_int, w_neg, w_idx, w_slice, w_isi, w_call, w_blt, toSeq_tup, w_star, w_rev, onNx_nx, onNx_rt, onNx_ct, x_skip, x_seq, toSl_some, x_set, x_setC, x_par, x_ret, x_expr, x_cont, x_sif, onRt_rt, onRt_nx, onTurn_nx, onTurn_ct, onTurn_rt, lay, layN, List.map_cons, List.map_nil, List.getElem?_cons_zero, List.getElem?_cons_succ, Nat.sub_self, List.replicate_zero, List.replicate_succ, List.append_nil, List.cons_append, List.nil_append, List.set_cons_zero, List.set_cons_succ, Nat.reduceSub, to_ok, wipeP, true_and, glob0, glob1, glob2, glob3, glob4, glob5, glob6, glob7, glob8, glob9]
  refine (needscore_ok h).to fun s1 h1 => ?_
  try simp only [w_int, w_bl, w_non, w_no, w_str, w_nil, w_one, w_var, toVar_some, w_glob, toGl_some, toTup_tup, toBl_true, toBl_false, w_cons, w_tup, w_lst, w_bin, w_cmp, w_chain, w_not, w_and, w_or, w_ife, toInt_int, w_neg, w_idx, w_slice, w_isi, w_call, w_blt, toSeq_tup, w_star, w_rev, onNx_nx, onNx_rt, onNx_ct, x_skip, x_seq, toSl_some, x_set, x_setC, x_par, x_ret, x_expr, x_cont, x_sif, onRt_rt, onRt_nx, onTurn_nx, onTurn_ct, onTurn_rt, lay, layN, List.map_cons, List.map_nil, List.getElem?_cons_zero, List.getElem?_cons_succ, Nat.sub_self, List.replicate_zero, List.replicate_succ, List.append_nil, List.cons_append, List.nil_append, List.set_cons_zero, List.set_cons_succ, Nat.reduceSub, to_ok, wipeP, true_and, glob0, glob1, glob2, glob3, glob4, glob5, glob6, glob7, glob8, glob9]
  refine (plain_in_ok h).to fun s2 h2 => ?_
  try simp only [w_int, w_bl, w_non, w_no, w_str, w_nil, w_one, w_var, toVar_some, w_glob, toGl_some, toTup_tup, toBl_true, toBl_false, w_cons, w_tup, w_lst, w_bin, w_cmp, w_chain, w_not, w_and, w_or, w_ife, toInt_int, w_neg, w_idx, w_slice, w_isi, w_call, w_blt, toSeq_tup, w_star, w_rev, onNx_nx, onNx_rt, onNx_ct, x_skip, x_seq, toSl_some, x_set, x_setC, x_par, x_ret, x_expr, x_cont, x_sif, onRt_rt, onRt_nx, onTurn_nx, onTurn_ct, onTurn_rt, lay, layN, List.map_cons, List.map_nil, List.getElem?_cons_zero, List.getElem?_cons_succ, Nat.sub_self, List.replicate_zero, List.replicate_succ, List.append_nil, List.cons_append, List.nil_append, List.set_cons_zero, List.set_cons_succ, Nat.reduceSub, to_ok, wipeP, true_and, glob0, glob1, glob2, glob3, glob4, glob5, glob6, glob7, glob8, glob9]
  refine (needscore_ok k).to fun s3 h3 => ?_
  try simp only [w_int, w_bl, w_non, w_no, w_str, w_nil, w_one, w_var, toVar_some, w_glob, toGl_some, toTup_tup, toBl_true, toBl_false, w_cons, w_tup, w_lst, w_bin, w_cmp, w_chain, w_not, w_and, w_or, w_ife, toInt_int, w_neg, w_idx, w_slice, w_isi, w_call, w_blt, toSeq_tup, w_star, w_rev, onNx_nx, onNx_rt, onNx_ct, x_skip, x_seq, toSl_some, x_set, x_setC, x_par, x_ret, x_expr, x_cont, x_sif, onRt_rt, onRt_nx, onTurn_nx, onTurn_ct, onTurn_rt, lay, layN, List.map_cons, List.map_nil, List.getElem?_cons_zero, List.getElem?_cons_succ, Nat.sub_self, List.replicate_zero, List.replicate_succ, List.append_nil, List.cons_append, List.nil_append, List.set_cons_zero, List.set_cons_succ, Nat.reduceSub, to_ok, wipeP, true_and, glob0, glob1, glob2, glob3, glob4, glob5, glob6, glob7, glob8, glob9]
  refine (plain_in_ok k).to fun s4 h4 => ?_
  rw [e]
  simp only [evCmp, eqP_sco, to_ok]
  exact ⟨trivial, ((h1.trans h2).trans h3).trans h4⟩
theorem ladderof_ok (h : Sco sc) : Gives (runF T (n + 7) 32 [.tup (sc.map pv)] s) s (lad (merged (ms sc))) := by
  refine run_to d_ladder_of rfl ?_
  simp only [c_ladder_of, w_int, w_bl, w_non, w_no, w_str, w_nil, w_one, w_var, toVar_some, w_glob, toGl_some, toTup_tup, toBl_true, toBl_false, w_cons, w_tup, w_lst, w_bin, w_cmp, w_chain, w_not, w_and, w_or, w_ife, toInt_int, w_neg, w_idx, w_slice, w_isi, w_call, w_blt, toSeq_tup, w_star, w_rev, onNx_nx, onNx_rt, onNx_ct, x_skip, x_seq, toSl_some, x_set, x_setC, x_par, x_ret, x_expr, x_cont, x_sif, onRt_rt, onRt_nx, onTurn_nx, onTurn_ct, onTurn_rt, lay, layN, List.map_cons, List.map_nil, List.getElem?_cons_zero, List.getElem?_cons_succ, Nat.sub_self, List.replicate_zero, List.replicate_succ, List.append_nil, List.cons_append, List.nil_append, List.set_cons_zero, List.set_cons_succ, Nat.reduceSub, to_ok, wipeP, true_and, glob0, glob1, glob2, glob3, glob4, glob5, glob6, glob7, glob8, glob9]
  refine (needscore_ok h).to fun s1 h1 => ?_
  try simp only [w_int, w_bl, w_non, w_no, w_str, w_nil, w_one, w_var, toVar_some, w_glob, toGl_some, toTup_tup, toBl_true, toBl_false, w_cons, w_tup, w_lst, w_bin, w_cmp, w_chain, w_not, w_and, w_or, w_ife, toInt_int, w_neg, w_idx, w_slice, w_isi, w_call, w_blt, toSeq_tup, w_star, w_rev, onNx_nx, onNx_rt, onNx_ct, x_skip, x_seq, toSl_some, x_set, x_setC, x_par, x_ret, x_expr, x_cont, x_sif, onRt_rt, onRt_nx, onTurn_nx, onTurn_ct, onTurn_rt, lay, layN, List.map_cons, List.map_nil, List.getElem?_cons_zero, List.getElem?_cons_succ, Nat.sub_self, List.replicate_zero, List.replicate_succ, List.append_nil, List.cons_append, List.nil_append, List.set_cons_zero, List.set_cons_succ, Nat.reduceSub, to_ok, wipeP, true_and, glob0, glob1, glob2, glob3, glob4, glob5, glob6, glob7, glob8, glob9]
  refine (plain_in_ok h).to fun s2 h2 => ?_
  have hml : (merged (ms sc)).length ≤ 10 := by
    refine Nat.le_trans (List.length_filter_le _ _) ?_
    rw [List.length_map]
    refine Nat.le_trans rise_len ?_
    rw [List.length_map]
    exact Nat.le_trans ms_len h.len
  generalize merged (ms sc) = M at hml ⊢
  try simp only [w_int, w_bl, w_non, w_no, w_str, w_nil, w_one, w_var, toVar_some, w_glob, toGl_some, toTup_tup, toBl_true, toBl_false, w_cons, w_tup, w_lst, w_bin, w_cmp, w_chain, w_not, w_and, w_or, w_ife, toInt_int, w_neg, w_idx, w_slice, w_isi, w_call, w_blt, toSeq_tup, w_star, w_rev, onNx_nx, onNx_rt, onNx_ct, x_skip, x_seq, toSl_some, x_set, x_setC, x_par, x_ret, x_expr, x_cont, x_sif, onRt_rt, onRt_nx, onTurn_nx, onTurn_ct, onTurn_rt, lay, layN, List.map_cons, List.map_nil, List.getElem?_cons_zero, List.getElem?_cons_succ, Nat.sub_self, List.replicate_zero, List.replicate_succ, List.append_nil, List.cons_append, List.nil_append, List.set_cons_zero, List.set_cons_succ, Nat.reduceSub, to_ok, wipeP, true_and, glob0, glob1, glob2, glob3, glob4, glob5, glob6, glob7, glob8, glob9]
  refine comp_pure M mk (fun _ => some (.bl true)) ?_ (by simp [cap]; omega) (fun x hx s' hs => ?_) fun i s3 hf3 hA hi => ?_
  · simp only [j_seq, w_int, w_bl, w_non, w_no, w_str, w_nil, w_one, w_var, toVar_some, w_glob, toGl_some, toTup_tup, toBl_true, toBl_false, w_cons, w_tup, w_lst, w_bin, w_cmp, w_chain, w_not, w_and, w_or, w_ife, toInt_int, w_neg, w_idx, w_slice, w_isi, w_call, w_blt, toSeq_tup, w_star, w_rev, onNx_nx, onNx_rt, onNx_ct, x_skip, x_seq, toSl_some, x_set, x_setC, x_par, x_ret, x_expr, x_cont, x_sif, onRt_rt, onRt_nx, onTurn_nx, onTurn_ct, onTurn_rt, lay, layN, List.map_cons, List.map_nil, List.getElem?_cons_zero, List.getElem?_cons_succ, Nat.sub_self, List.replicate_zero, List.replicate_succ, List.append_nil, List.cons_append, List.nil_append, List.set_cons_zero, List.set_cons_succ, Nat.reduceSub, to_ok, wipeP, true_and, glob0, glob1, glob2, glob3, glob4, glob5, glob6, glob7, glob8, glob9]
    exact ⟨by simp [It.most], sees_t, .refl⟩
  · simp only [Turn, w_int, w_bl, w_non, w_no, w_str, w_nil, w_one, w_var, toVar_some, w_glob, toGl_some, toTup_tup, toBl_true, toBl_false, w_cons, w_tup, w_lst, w_bin, w_cmp, w_chain, w_not, w_and, w_or, w_ife, toInt_int, w_neg, w_idx, w_slice, w_isi, w_call, w_blt, toSeq_tup, w_star, w_rev, onNx_nx, onNx_rt, onNx_ct, x_skip, x_seq, toSl_some, x_set, x_setC, x_par, x_ret, x_expr, x_cont, x_sif, onRt_rt, onRt_nx, onTurn_nx, onTurn_ct, onTurn_rt, lay, layN, List.map_cons, List.map_nil, List.getElem?_cons_zero, List.getElem?_cons_succ, Nat.sub_self, List.replicate_zero, List.replicate_succ, List.append_nil, List.cons_append, List.nil_append, List.set_cons_zero, List.set_cons_succ, Nat.reduceSub, to_ok, wipeP, true_and, glob0, glob1, glob2, glob3, glob4, glob5, glob6, glob7, glob8, glob9, mk_0, eq_mm]
    exact .refl
  · rw [fm_some] at hA
    simp only [w_int, w_bl, w_non, w_no, w_str, w_nil, w_one, w_var, toVar_some, w_glob, toGl_some, toTup_tup, toBl_true, toBl_false, w_cons, w_tup, w_lst, w_bin, w_cmp, w_chain, w_not, w_and, w_or, w_ife, toInt_int, w_neg, w_idx, w_slice, w_isi, w_call, w_blt, toSeq_tup, w_star, w_rev, onNx_nx, onNx_rt, onNx_ct, x_skip, x_seq, toSl_some, x_set, x_setC, x_par, x_ret, x_expr, x_cont, x_sif, onRt_rt, onRt_nx, onTurn_nx, onTurn_ct, onTurn_rt, lay, layN, List.map_cons, List.map_nil, List.getElem?_cons_zero, List.getElem?_cons_succ, Nat.sub_self, List.replicate_zero, List.replicate_succ, List.append_nil, List.cons_append, List.nil_append, List.set_cons_zero, List.set_cons_succ, Nat.reduceSub, to_ok, wipeP, true_and, glob0, glob1, glob2, glob3, glob4, glob5, glob6, glob7, glob8, glob9, all_lst hA, all_true]
    refine comp_pure M mk (fun p => some (row p)) ?_ (by simp [cap]; omega) (fun x hx s' hs => ?_) fun i s4 hf4 hA4 hi => ?_
    · simp only [j_seq, w_int, w_bl, w_non, w_no, w_str, w_nil, w_one, w_var, toVar_some, w_glob, toGl_some, toTup_tup, toBl_true, toBl_false, w_cons, w_tup, w_lst, w_bin, w_cmp, w_chain, w_not, w_and, w_or, w_ife, toInt_int, w_neg, w_idx, w_slice, w_isi, w_call, w_blt, toSeq_tup, w_star, w_rev, onNx_nx, onNx_rt, onNx_ct, x_skip, x_seq, toSl_some, x_set, x_setC, x_par, x_ret, x_expr, x_cont, x_sif, onRt_rt, onRt_nx, onTurn_nx, onTurn_ct, onTurn_rt, lay, layN, List.map_cons, List.map_nil, List.getElem?_cons_zero, List.getElem?_cons_succ, Nat.sub_self, List.replicate_zero, List.replicate_succ, List.append_nil, List.cons_append, List.nil_append, List.set_cons_zero, List.set_cons_succ, Nat.reduceSub, to_ok, wipeP, true_and, glob0, glob1, glob2, glob3, glob4, glob5, glob6, glob7, glob8, glob9]
      exact ⟨by simp [It.most], sees_t, .refl⟩
    · simp only [Turn, w_int, w_bl, w_non, w_no, w_str, w_nil, w_one, w_var, toVar_some, w_glob, toGl_some, toTup_tup, toBl_true, toBl_false, w_cons, w_tup, w_lst, w_bin, w_cmp, w_chain, w_not, w_and, w_or, w_ife, toInt_int, w_neg, w_idx, w_slice, w_isi, w_call, w_blt, toSeq_tup, w_star, w_rev, onNx_nx, onNx_rt, onNx_ct, x_skip, x_seq, toSl_some, x_set, x_setC, x_par, x_ret, x_expr, x_cont, x_sif, onRt_rt, onRt_nx, onTurn_nx, onTurn_ct, onTurn_rt, lay, layN, List.map_cons, List.map_nil, List.getElem?_cons_zero, List.getElem?_cons_succ, Nat.sub_self, List.replicate_zero, List.replicate_succ, List.append_nil, List.cons_append, List.nil_append, List.set_cons_zero, List.set_cons_succ, Nat.reduceSub, to_ok, wipeP, true_and, glob0, glob1, glob2, glob3, glob4, glob5, glob6, glob7, glob8, glob9]
      exact ⟨some 1, none, rfl, rfl, rfl, .refl⟩
    · rw [fm_some] at hA4
      try simp only [w_int, w_bl, w_non, w_no, w_str, w_nil, w_one, w_var, toVar_some, w_glob, toGl_some, toTup_tup, toBl_true, toBl_false, w_cons, w_tup, w_lst, w_bin, w_cmp, w_chain, w_not, w_and, w_or, w_ife, toInt_int, w_neg, w_idx, w_slice, w_isi, w_call, w_blt, toSeq_tup, w_star, w_rev, onNx_nx, onNx_rt, onNx_ct, x_skip, x_seq, toSl_some, x_set, x_setC, x_par, x_ret, x_expr, x_cont, x_sif, onRt_rt, onRt_nx, onTurn_nx, onTurn_ct, onTurn_rt, lay, layN, List.map_cons, List.map_nil, List.getElem?_cons_zero, List.getElem?_cons_succ, Nat.sub_self, List.replicate_zero, List.replicate_succ, List.append_nil, List.cons_append, List.nil_append, List.set_cons_zero, List.set_cons_succ, Nat.reduceSub, to_ok, wipeP, true_and, glob0, glob1, glob2, glob3, glob4, glob5, glob6, glob7, glob8, glob9]
      rw [tuple_lst hA4]
      exact ⟨rfl, ((h1.trans h2).trans hf3).trans hf4⟩
end
end K69

namespace K69
open PySem FI GI
section
variable {n : Nat} {a b w g : Rat} {s : Sto} {p : Rat × Rat} {L : List (Rat × Rat)} {Q : PV → Sto → Prop} {sc : List Pc}
theorem isstate_ok (h1 : W 4000 p.1) (h2 : W 4000 p.2) (h : 0 < p.1) : Gives (runF T (n + 4) 26 [row p] s) s (.bl true) := by
  refine run_to d_is_state rfl ?_
  simp only [c_is_state, w_int, w_bl, w_non, w_no, w_str, w_nil, w_one, w_var, toVar_some, w_glob, toGl_some, toTup_tup, toBl_true, toBl_false, w_cons, w_tup, w_lst, w_bin, w_cmp, w_chain, w_not, w_and, w_or, w_ife, toInt_int, w_neg, w_idx, w_slice, w_isi, w_call, w_blt, toSeq_tup, w_star, w_rev, onNx_nx, onNx_rt, onNx_ct, x_skip, x_seq, toSl_some, x_set, x_setC, x_par, x_ret, x_expr, x_cont, x_sif, onRt_rt, onRt_nx, onTurn_nx, onTurn_ct, onTurn_rt, lay, layN, List.map_cons, List.map_nil, List.getElem?_cons_zero, List.getElem?_cons_succ, Nat.sub_self, List.replicate_zero, List.replicate_succ, List.append_nil, List.cons_append, List.nil_append, List.set_cons_zero, List.set_cons_succ, Nat.reduceSub, to_ok, wipeP, true_and, glob0, glob1, glob2, glob3, glob4, glob5, glob6, glob7, glob8, glob9, isTy_row, len_row, row_0, row_1, w_eqI]
  refine ⟨true, rfl, ?_⟩
  simp only [w_int, w_bl, w_non, w_no, w_str, w_nil, w_one, w_var, toVar_some, w_glob, toGl_some, toTup_tup, toBl_true, toBl_false, w_cons, w_tup, w_lst, w_bin, w_cmp, w_chain, w_not, w_and, w_or, w_ife, toInt_int, w_neg, w_idx, w_slice, w_isi, w_call, w_blt, toSeq_tup, w_star, w_rev, onNx_nx, onNx_rt, onNx_ct, x_skip, x_seq, toSl_some, x_set, x_setC, x_par, x_ret, x_expr, x_cont, x_sif, onRt_rt, onRt_nx, onTurn_nx, onTurn_ct, onTurn_rt, lay, layN, List.map_cons, List.map_nil, List.getElem?_cons_zero, List.getElem?_cons_succ, Nat.sub_self, List.replicate_zero, List.replicate_succ, List.append_nil, List.cons_append, List.nil_append, List.set_cons_zero, List.set_cons_succ, Nat.reduceSub, to_ok, wipeP, true_and, glob0, glob1, glob2, glob3, glob4, glob5, glob6, glob7, glob8, glob9, decide_true]
  refine (isweight_ok h1 h).to fun s' hs => ?_
  try simp only [w_int, w_bl, w_non, w_no, w_str, w_nil, w_one, w_var, toVar_some, w_glob, toGl_some, toTup_tup, toBl_true, toBl_false, w_cons, w_tup, w_lst, w_bin, w_cmp, w_chain, w_not, w_and, w_or, w_ife, toInt_int, w_neg, w_idx, w_slice, w_isi, w_call, w_blt, toSeq_tup, w_star, w_rev, onNx_nx, onNx_rt, onNx_ct, x_skip, x_seq, toSl_some, x_set, x_setC, x_par, x_ret, x_expr, x_cont, x_sif, onRt_rt, onRt_nx, onTurn_nx, onTurn_ct, onTurn_rt, lay, layN, List.map_cons, List.map_nil, List.getElem?_cons_zero, List.getElem?_cons_succ, Nat.sub_self, List.replicate_zero, List.replicate_succ, List.append_nil, List.cons_append, List.nil_append, List.set_cons_zero, List.set_cons_succ, Nat.reduceSub, to_ok, wipeP, true_and, glob0, glob1, glob2, glob3, glob4, glob5, glob6, glob7, glob8, glob9]
  refine (isfrac_ok (h2.mono (by decide))).to fun s'' hs' => ?_
  exact ⟨rfl, hs.trans hs'⟩
theorem one_pos : (0 : Rat) < 1 := by grind
theorem needworld_ok (hw : W 20 w) : Gives (runF T (n + 5) 27 [lad [(1, w)]] s) s (lad [(1, w)]) := by
  refine run_to d_need_world rfl ?_
  have e1 : decide ((1 : Int) ≤ (([(1, w)] : List (Rat × Rat)).map row).length) = true := by simp
  have e2 : decide (((([(1, w)] : List (Rat × Rat)).map row).length : Int) ≤ 36) = true := by simp
  simp only [c_need_world, w_or, w_not, w_isi, w_var, toVar_some, List.getElem?_cons_zero, List.cons_append, List.map_cons, List.map_nil, x_seq, x_sif, w_one, w_chain, w_int, w_blt, w_cons, w_nil, toTup_tup, w_glob, glob5, toGl_some]
  refine ⟨true, rfl, ?_⟩
  simp only [toBl_true, toBl_false]
  rw [show lad [(1, w)] = .tup ([(1, w)].map row) from rfl, len_tup, w_le, e1]
  simp only [toBl_true, w_le, e2, toBl_false]
  rw [x_skip]
  simp only [onNx_nx]
  rw [x_sfor]
  simp only [evI, to_bind, w_int, w_bl, w_non, w_no, w_str, w_nil, w_one, w_var, toVar_some, w_glob, toGl_some, toTup_tup, toBl_true, toBl_false, w_cons, w_tup, w_lst, w_bin, w_cmp, w_chain, w_not, w_and, w_or, w_ife, toInt_int, w_neg, w_idx, w_slice, w_isi, w_call, w_blt, toSeq_tup, w_star, w_rev, onNx_nx, onNx_rt, onNx_ct, x_skip, x_seq, toSl_some, x_set, x_setC, x_par, x_ret, x_expr, x_cont, x_sif, onRt_rt, onRt_nx, onTurn_nx, onTurn_ct, onTurn_rt, lay, layN, List.map_cons, List.map_nil, List.getElem?_cons_zero, List.getElem?_cons_succ, Nat.sub_self, List.replicate_zero, List.replicate_succ, List.append_nil, List.cons_append, List.nil_append, List.set_cons_zero, List.set_cons_succ, Nat.reduceSub, to_ok, wipeP, true_and, glob0, glob1, glob2, glob3, glob4, glob5, glob6, glob7, glob8, glob9, seqIt]
  refine for_inv (L := ([(1, w)] : List (Rat × Rat)).zipIdx) (g := fun p => .tup [.int (p.2 : Int), row p.1]) (I := Fr [] s) (fun k σ s' => Fr [] s s' ∧ ∃ o o', σ = [some (lad [(1, w)]), o, o']) (sees_en_t (L := [(1, w)])) (fun k σ s' h => h.1) (fun k x σ s' hx ⟨hf, o, o', eσ⟩ => ?_) (fun σ s' ⟨hf, o, o', eσ⟩ => ?_) _ 0 _ _ (by simp [It.most]) ⟨.refl, none, none, rfl⟩
  · subst eσ
    have hm : x = ((1, w), 0) := by
      have := List.mem_of_getElem? hx
      simpa using this
    subst hm
    simp only [w_int, w_bl, w_non, w_no, w_str, w_nil, w_one, w_var, toVar_some, w_glob, toGl_some, toTup_tup, toBl_true, toBl_false, w_cons, w_tup, w_lst, w_bin, w_cmp, w_chain, w_not, w_and, w_or, w_ife, toInt_int, w_neg, w_idx, w_slice, w_isi, w_call, w_blt, toSeq_tup, w_star, w_rev, onNx_nx, onNx_rt, onNx_ct, x_skip, x_seq, toSl_some, x_set, x_setC, x_par, x_ret, x_expr, x_cont, x_sif, onRt_rt, onRt_nx, onTurn_nx, onTurn_ct, onTurn_rt, lay, layN, List.map_cons, List.map_nil, List.getElem?_cons_zero, List.getElem?_cons_succ, Nat.sub_self, List.replicate_zero, List.replicate_succ, List.append_nil, List.cons_append, List.nil_append, List.set_cons_zero, List.set_cons_succ, Nat.reduceSub, to_ok, wipeP, true_and, glob0, glob1, glob2, glob3, glob4, glob5, glob6, glob7, glob8, glob9]
    refine (isstate_ok (W_one.mono (by decide)) (w20 hw) one_pos).to fun s1 hs1 => ?_
    try simp only [w_int, w_bl, w_non, w_no, w_str, w_nil, w_one, w_var, toVar_some, w_glob, toGl_some, toTup_tup, toBl_true, toBl_false, w_cons, w_tup, w_lst, w_bin, w_cmp, w_chain, w_not, w_and, w_or, w_ife, toInt_int, w_neg, w_idx, w_slice, w_isi, w_call, w_blt, toSeq_tup, w_star, w_rev, onNx_nx, onNx_rt, onNx_ct, x_skip, x_seq, toSl_some, x_set, x_setC, x_par, x_ret, x_expr, x_cont, x_sif, onRt_rt, onRt_nx, onTurn_nx, onTurn_ct, onTurn_rt, lay, layN, List.map_cons, List.map_nil, List.getElem?_cons_zero, List.getElem?_cons_succ, Nat.sub_self, List.replicate_zero, List.replicate_succ, List.append_nil, List.cons_append, List.nil_append, List.set_cons_zero, List.set_cons_succ, Nat.reduceSub, to_ok, wipeP, true_and, glob0, glob1, glob2, glob3, glob4, glob5, glob6, glob7, glob8, glob9]
    exact ⟨hf.trans hs1, _, _, rfl⟩
  · subst eσ
    try simp only [w_int, w_bl, w_non, w_no, w_str, w_nil, w_one, w_var, toVar_some, w_glob, toGl_some, toTup_tup, toBl_true, toBl_false, w_cons, w_tup, w_lst, w_bin, w_cmp, w_chain, w_not, w_and, w_or, w_ife, toInt_int, w_neg, w_idx, w_slice, w_isi, w_call, w_blt, toSeq_tup, w_star, w_rev, onNx_nx, onNx_rt, onNx_ct, x_skip, x_seq, toSl_some, x_set, x_setC, x_par, x_ret, x_expr, x_cont, x_sif, onRt_rt, onRt_nx, onTurn_nx, onTurn_ct, onTurn_rt, lay, layN, List.map_cons, List.map_nil, List.getElem?_cons_zero, List.getElem?_cons_succ, Nat.sub_self, List.replicate_zero, List.replicate_succ, List.append_nil, List.cons_append, List.nil_append, List.set_cons_zero, List.set_cons_succ, Nat.reduceSub, to_ok, wipeP, true_and, glob0, glob1, glob2, glob3, glob4, glob5, glob6, glob7, glob8, glob9]
    exact ⟨rfl, hf⟩
theorem isbet_ok (hg : W 20 g) : Gives (runF T (n + 3) 28 [lad [(1, w)], .tup [q g]] s) s (.bl true) := by
  refine run_to d_is_bet rfl ?_
  have e1 : ∀ {Q' : PV → Sto → Prop} {s : Sto}, (evBlt .len [lad [(1, w)]] s).to Q' = Q' (.int 1) s := rfl
  have e2 : ∀ {Q' : PV → Sto → Prop} {s : Sto}, (evBlt .len [.tup [q g]] s).to Q' = Q' (.int 1) s := rfl
  simp only [c_is_bet, w_int, w_bl, w_non, w_no, w_str, w_nil, w_one, w_var, toVar_some, w_glob, toGl_some, toTup_tup, toBl_true, toBl_false, w_cons, w_tup, w_lst, w_bin, w_cmp, w_chain, w_not, w_and, w_or, w_ife, toInt_int, w_neg, w_idx, w_slice, w_isi, w_call, w_blt, toSeq_tup, w_star, w_rev, onNx_nx, onNx_rt, onNx_ct, x_skip, x_seq, toSl_some, x_set, x_setC, x_par, x_ret, x_expr, x_cont, x_sif, onRt_rt, onRt_nx, onTurn_nx, onTurn_ct, onTurn_rt, lay, layN, List.map_cons, List.map_nil, List.getElem?_cons_zero, List.getElem?_cons_succ, Nat.sub_self, List.replicate_zero, List.replicate_succ, List.append_nil, List.cons_append, List.nil_append, List.set_cons_zero, List.set_cons_succ, Nat.reduceSub, to_ok, wipeP, true_and, glob0, glob1, glob2, glob3, glob4, glob5, glob6, glob7, glob8, glob9, e1, e2, w_eqI, decide_true]
  refine ⟨true, rfl, ?_⟩
  try simp only [w_int, w_bl, w_non, w_no, w_str, w_nil, w_one, w_var, toVar_some, w_glob, toGl_some, toTup_tup, toBl_true, toBl_false, w_cons, w_tup, w_lst, w_bin, w_cmp, w_chain, w_not, w_and, w_or, w_ife, toInt_int, w_neg, w_idx, w_slice, w_isi, w_call, w_blt, toSeq_tup, w_star, w_rev, onNx_nx, onNx_rt, onNx_ct, x_skip, x_seq, toSl_some, x_set, x_setC, x_par, x_ret, x_expr, x_cont, x_sif, onRt_rt, onRt_nx, onTurn_nx, onTurn_ct, onTurn_rt, lay, layN, List.map_cons, List.map_nil, List.getElem?_cons_zero, List.getElem?_cons_succ, Nat.sub_self, List.replicate_zero, List.replicate_succ, List.append_nil, List.cons_append, List.nil_append, List.set_cons_zero, List.set_cons_succ, Nat.reduceSub, to_ok, wipeP, true_and, glob0, glob1, glob2, glob3, glob4, glob5, glob6, glob7, glob8, glob9]
  refine comp_pure [g] q (fun _ => some (.bl true)) ?_ (by simp [cap]) (fun x hx s' hs => ?_) fun i s' hf hA hi => ?_
  · simp only [j_seq, w_int, w_bl, w_non, w_no, w_str, w_nil, w_one, w_var, toVar_some, w_glob, toGl_some, toTup_tup, toBl_true, toBl_false, w_cons, w_tup, w_lst, w_bin, w_cmp, w_chain, w_not, w_and, w_or, w_ife, toInt_int, w_neg, w_idx, w_slice, w_isi, w_call, w_blt, toSeq_tup, w_star, w_rev, onNx_nx, onNx_rt, onNx_ct, x_skip, x_seq, toSl_some, x_set, x_setC, x_par, x_ret, x_expr, x_cont, x_sif, onRt_rt, onRt_nx, onTurn_nx, onTurn_ct, onTurn_rt, lay, layN, List.map_cons, List.map_nil, List.getElem?_cons_zero, List.getElem?_cons_succ, Nat.sub_self, List.replicate_zero, List.replicate_succ, List.append_nil, List.cons_append, List.nil_append, List.set_cons_zero, List.set_cons_succ, Nat.reduceSub, to_ok, wipeP, true_and, glob0, glob1, glob2, glob3, glob4, glob5, glob6, glob7, glob8, glob9]
    exact ⟨rfl, sees_t (L := [g]), .refl⟩
  · rw [List.mem_singleton.mp hx]
    simp only [Turn, w_int, w_bl, w_non, w_no, w_str, w_nil, w_one, w_var, toVar_some, w_glob, toGl_some, toTup_tup, toBl_true, toBl_false, w_cons, w_tup, w_lst, w_bin, w_cmp, w_chain, w_not, w_and, w_or, w_ife, toInt_int, w_neg, w_idx, w_slice, w_isi, w_call, w_blt, toSeq_tup, w_star, w_rev, onNx_nx, onNx_rt, onNx_ct, x_skip, x_seq, toSl_some, x_set, x_setC, x_par, x_ret, x_expr, x_cont, x_sif, onRt_rt, onRt_nx, onTurn_nx, onTurn_ct, onTurn_rt, lay, layN, List.map_cons, List.map_nil, List.getElem?_cons_zero, List.getElem?_cons_succ, Nat.sub_self, List.replicate_zero, List.replicate_succ, List.append_nil, List.cons_append, List.nil_append, List.set_cons_zero, List.set_cons_succ, Nat.reduceSub, to_ok, wipeP, true_and, glob0, glob1, glob2, glob3, glob4, glob5, glob6, glob7, glob8, glob9]
    refine (isfrac_ok (hg.mono (by decide))).to fun s'' h'' => ?_
    exact ⟨rfl, h''⟩
  · rw [fm_some] at hA
    simp only [w_int, w_bl, w_non, w_no, w_str, w_nil, w_one, w_var, toVar_some, w_glob, toGl_some, toTup_tup, toBl_true, toBl_false, w_cons, w_tup, w_lst, w_bin, w_cmp, w_chain, w_not, w_and, w_or, w_ife, toInt_int, w_neg, w_idx, w_slice, w_isi, w_call, w_blt, toSeq_tup, w_star, w_rev, onNx_nx, onNx_rt, onNx_ct, x_skip, x_seq, toSl_some, x_set, x_setC, x_par, x_ret, x_expr, x_cont, x_sif, onRt_rt, onRt_nx, onTurn_nx, onTurn_ct, onTurn_rt, lay, layN, List.map_cons, List.map_nil, List.getElem?_cons_zero, List.getElem?_cons_succ, Nat.sub_self, List.replicate_zero, List.replicate_succ, List.append_nil, List.cons_append, List.nil_append, List.set_cons_zero, List.set_cons_succ, Nat.reduceSub, to_ok, wipeP, true_and, glob0, glob1, glob2, glob3, glob4, glob5, glob6, glob7, glob8, glob9, all_lst hA, all_true]
    exact hf
theorem needguess_ok (hw : W 20 w) (hg : W 20 g) : Gives (runF T (n + 6) 51 [lad [(1, w)], .tup [q g]] s) s (.tup [q g]) := by
  refine run_to d_need_guesses rfl ?_
  simp only [c_need_guesses, w_int, w_bl, w_non, w_no, w_str, w_nil, w_one, w_var, toVar_some, w_glob, toGl_some, toTup_tup, toBl_true, toBl_false, w_cons, w_tup, w_lst, w_bin, w_cmp, w_chain, w_not, w_and, w_or, w_ife, toInt_int, w_neg, w_idx, w_slice, w_isi, w_call, w_blt, toSeq_tup, w_star, w_rev, onNx_nx, onNx_rt, onNx_ct, x_skip, x_seq, toSl_some, x_set, x_setC, x_par, x_ret, x_expr, x_cont, x_sif, onRt_rt, onRt_nx, onTurn_nx, onTurn_ct, onTurn_rt, lay, layN, List.map_cons, List.map_nil, List.getElem?_cons_zero, List.getElem?_cons_succ, Nat.sub_self, List.replicate_zero, List.replicate_succ, List.append_nil, List.cons_append, List.nil_append, List.set_cons_zero, List.set_cons_succ, Nat.reduceSub, to_ok, wipeP, true_and, glob0, glob1, glob2, glob3, glob4, glob5, glob6, glob7, glob8, glob9]
  refine (needworld_ok hw).to fun s1 h1 => ?_
  try simp only [w_int, w_bl, w_non, w_no, w_str, w_nil, w_one, w_var, toVar_some, w_glob, toGl_some, toTup_tup, toBl_true, toBl_false, w_cons, w_tup, w_lst, w_bin, w_cmp, w_chain, w_not, w_and, w_or, w_ife, toInt_int, w_neg, w_idx, w_slice, w_isi, w_call, w_blt, toSeq_tup, w_star, w_rev, onNx_nx, onNx_rt, onNx_ct, x_skip, x_seq, toSl_some, x_set, x_setC, x_par, x_ret, x_expr, x_cont, x_sif, onRt_rt, onRt_nx, onTurn_nx, onTurn_ct, onTurn_rt, lay, layN, List.map_cons, List.map_nil, List.getElem?_cons_zero, List.getElem?_cons_succ, Nat.sub_self, List.replicate_zero, List.replicate_succ, List.append_nil, List.cons_append, List.nil_append, List.set_cons_zero, List.set_cons_succ, Nat.reduceSub, to_ok, wipeP, true_and, glob0, glob1, glob2, glob3, glob4, glob5, glob6, glob7, glob8, glob9]
  refine (isbet_ok hg).to fun s2 h2 => ?_
  try simp only [w_int, w_bl, w_non, w_no, w_str, w_nil, w_one, w_var, toVar_some, w_glob, toGl_some, toTup_tup, toBl_true, toBl_false, w_cons, w_tup, w_lst, w_bin, w_cmp, w_chain, w_not, w_and, w_or, w_ife, toInt_int, w_neg, w_idx, w_slice, w_isi, w_call, w_blt, toSeq_tup, w_star, w_rev, onNx_nx, onNx_rt, onNx_ct, x_skip, x_seq, toSl_some, x_set, x_setC, x_par, x_ret, x_expr, x_cont, x_sif, onRt_rt, onRt_nx, onTurn_nx, onTurn_ct, onTurn_rt, lay, layN, List.map_cons, List.map_nil, List.getElem?_cons_zero, List.getElem?_cons_succ, Nat.sub_self, List.replicate_zero, List.replicate_succ, List.append_nil, List.cons_append, List.nil_append, List.set_cons_zero, List.set_cons_succ, Nat.reduceSub, to_ok, wipeP, true_and, glob0, glob1, glob2, glob3, glob4, glob5, glob6, glob7, glob8, glob9]
  first | exact ⟨rfl, h1.trans h2⟩ | exact h1.trans h2
/-- what is lost -/
def Ls (sc : List Pc) (g w : Rat) : Rat := Pd sc w w - Pd sc g w
theorem W_Ls (h : Sco sc) (hw : W 20 w) : W 1700 (Ls sc g w) := ((W_Pd h hw).sub (W_Pd h hw)).mono (by decide)
theorem lossin_ok (h : Sco sc) (hw : W 20 w) (hg : W 20 g) : Gives (runF T (n + 8) 52 [lad [(1, w)], .tup [q g], .tup (sc.map pv)] s) s (q (Ls sc g w)) := by
  refine run_to d_loss_in rfl ?_
  simp only [c_loss_in, w_int, w_bl, w_non, w_no, w_str, w_nil, w_one, w_var, toVar_some, w_glob, toGl_some, toTup_tup, toBl_true, toBl_false, w_cons, w_tup, w_lst, w_bin, w_cmp, w_chain, w_not, w_and, w_or, w_ife, toInt_int, w_neg, w_idx, w_slice, w_isi, w_call, w_blt, toSeq_tup, w_star, w_rev, onNx_nx, onNx_rt, onNx_ct, x_skip, x_seq, toSl_some, x_set, x_setC, x_par, x_ret, x_expr, x_cont, x_sif, onRt_rt, onRt_nx, onTurn_nx, onTurn_ct, onTurn_rt, lay, layN, List.map_cons, List.map_nil, List.getElem?_cons_zero, List.getElem?_cons_succ, Nat.sub_self, List.replicate_zero, List.replicate_succ, List.append_nil, List.cons_append, List.nil_append, List.set_cons_zero, List.set_cons_succ, Nat.reduceSub, to_ok, wipeP, true_and, glob0, glob1, glob2, glob3, glob4, glob5, glob6, glob7, glob8, glob9]
  refine ⟨by simp [cap], ?_⟩
  have hF0 : At (s.new (.lst [])) s.n [] := .new
  have f0 : Fr [] s (s.new (.lst [])) := .new
  rw [x_sfor]
  refine j_zip ?_
  simp only [w_int, w_bl, w_non, w_no, w_str, w_nil, w_one, w_var, toVar_some, w_glob, toGl_some, toTup_tup, toBl_true, toBl_false, w_cons, w_tup, w_lst, w_bin, w_cmp, w_chain, w_not, w_and, w_or, w_ife, toInt_int, w_neg, w_idx, w_slice, w_isi, w_call, w_blt, toSeq_tup, w_star, w_rev, onNx_nx, onNx_rt, onNx_ct, x_skip, x_seq, toSl_some, x_set, x_setC, x_par, x_ret, x_expr, x_cont, x_sif, onRt_rt, onRt_nx, onTurn_nx, onTurn_ct, onTurn_rt, lay, layN, List.map_cons, List.map_nil, List.getElem?_cons_zero, List.getElem?_cons_succ, Nat.sub_self, List.replicate_zero, List.replicate_succ, List.append_nil, List.cons_append, List.nil_append, List.set_cons_zero, List.set_cons_succ, Nat.reduceSub, to_ok, wipeP, true_and, glob0, glob1, glob2, glob3, glob4, glob5, glob6, glob7, glob8, glob9]
  refine ⟨_, _, .zp (.t ([(1, w)].map row)) (.t ([g].map q)), rfl, rfl, ?_⟩
  refine for_inv (L := ([(1, w)] : List (Rat × Rat)).zip [g]) (g := fun p => .tup [row p.1, q p.2]) (I := fun _ => True) (fun k σ s' => Fr [] s s' ∧ ∃ o1 o2 o3, σ = [some (lad [(1, w)]), some (.tup [q g]), some (.tup (sc.map pv)), some (.lst s.n), o1, o2, o3] ∧ At s' s.n (([Ls sc g w].take k).map q)) (sees_zp (a := .t ([(1, w)].map row)) (b := .t ([g].map q)) (fun _ _ => rfl) (fun _ _ => rfl)) (fun k σ s' h => trivial) (fun k m σ s' hm ⟨hJ, o1, o2, o3, eσ, hF⟩ => ?_) (fun σ s' ⟨hJ, o1, o2, o3, eσ, hF⟩ => ?_) _ 0 _ _ (by simp [It.most]) ⟨f0, none, none, none, rfl, hF0⟩
  · subst eσ
    have hk : k = 0 := by
      have := (List.getElem?_eq_some_iff.mp hm).1
      simpa using this
    subst hk
    have hm' : m = ((1, w), g) := by simpa using hm.symm
    subst hm'
    simp only [w_int, w_bl, w_non, w_no, w_str, w_nil, w_one, w_var, toVar_some, w_glob, toGl_some, toTup_tup, toBl_true, toBl_false, w_cons, w_tup, w_lst, w_bin, w_cmp, w_chain, w_not, w_and, w_or, w_ife, toInt_int, w_neg, w_idx, w_slice, w_isi, w_call, w_blt, toSeq_tup, w_star, w_rev, onNx_nx, onNx_rt, onNx_ct, x_skip, x_seq, toSl_some, x_set, x_setC, x_par, x_ret, x_expr, x_cont, x_sif, onRt_rt, onRt_nx, onTurn_nx, onTurn_ct, onTurn_rt, lay, layN, List.map_cons, List.map_nil, List.getElem?_cons_zero, List.getElem?_cons_succ, Nat.sub_self, List.replicate_zero, List.replicate_succ, List.append_nil, List.cons_append, List.nil_append, List.set_cons_zero, List.set_cons_succ, Nat.reduceSub, to_ok, wipeP, true_and, glob0, glob1, glob2, glob3, glob4, glob5, glob6, glob7, glob8, glob9, row]
    refine w_app (i := s.n) (by simp [ev]) hF ?_
    simp only [w_int, w_bl, w_non, w_no, w_str, w_nil, w_one, w_var, toVar_some, w_glob, toGl_some, toTup_tup, toBl_true, toBl_false, w_cons, w_tup, w_lst, w_bin, w_cmp, w_chain, w_not, w_and, w_or, w_ife, toInt_int, w_neg, w_idx, w_slice, w_isi, w_call, w_blt, toSeq_tup, w_star, w_rev, onNx_nx, onNx_rt, onNx_ct, x_skip, x_seq, toSl_some, x_set, x_setC, x_par, x_ret, x_expr, x_cont, x_sif, onRt_rt, onRt_nx, onTurn_nx, onTurn_ct, onTurn_rt, lay, layN, List.map_cons, List.map_nil, List.getElem?_cons_zero, List.getElem?_cons_succ, Nat.sub_self, List.replicate_zero, List.replicate_succ, List.append_nil, List.cons_append, List.nil_append, List.set_cons_zero, List.set_cons_succ, Nat.reduceSub, to_ok, wipeP, true_and, glob0, glob1, glob2, glob3, glob4, glob5, glob6, glob7, glob8, glob9]
    refine (bend_in_ok h hw).to fun s1 h1 => ?_
    try simp only [w_int, w_bl, w_non, w_no, w_str, w_nil, w_one, w_var, toVar_some, w_glob, toGl_some, toTup_tup, toBl_true, toBl_false, w_cons, w_tup, w_lst, w_bin, w_cmp, w_chain, w_not, w_and, w_or, w_ife, toInt_int, w_neg, w_idx, w_slice, w_isi, w_call, w_blt, toSeq_tup, w_star, w_rev, onNx_nx, onNx_rt, onNx_ct, x_skip, x_seq, toSl_some, x_set, x_setC, x_par, x_ret, x_expr, x_cont, x_sif, onRt_rt, onRt_nx, onTurn_nx, onTurn_ct, onTurn_rt, lay, layN, List.map_cons, List.map_nil, List.getElem?_cons_zero, List.getElem?_cons_succ, Nat.sub_self, List.replicate_zero, List.replicate_succ, List.append_nil, List.cons_append, List.nil_append, List.set_cons_zero, List.set_cons_succ, Nat.reduceSub, to_ok, wipeP, true_and, glob0, glob1, glob2, glob3, glob4, glob5, glob6, glob7, glob8, glob9]
    refine (passed_ok h hg hw).to fun s2 h2 => ?_
    try simp only [w_int, w_bl, w_non, w_no, w_str, w_nil, w_one, w_var, toVar_some, w_glob, toGl_some, toTup_tup, toBl_true, toBl_false, w_cons, w_tup, w_lst, w_bin, w_cmp, w_chain, w_not, w_and, w_or, w_ife, toInt_int, w_neg, w_idx, w_slice, w_isi, w_call, w_blt, toSeq_tup, w_star, w_rev, onNx_nx, onNx_rt, onNx_ct, x_skip, x_seq, toSl_some, x_set, x_setC, x_par, x_ret, x_expr, x_cont, x_sif, onRt_rt, onRt_nx, onTurn_nx, onTurn_ct, onTurn_rt, lay, layN, List.map_cons, List.map_nil, List.getElem?_cons_zero, List.getElem?_cons_succ, Nat.sub_self, List.replicate_zero, List.replicate_succ, List.append_nil, List.cons_append, List.nil_append, List.set_cons_zero, List.set_cons_succ, Nat.reduceSub, to_ok, wipeP, true_and, glob0, glob1, glob2, glob3, glob4, glob5, glob6, glob7, glob8, glob9]
    rw [sub_ok (w20 (W_Pd h hw)) (w20 (W_Pd h hw))]
    try simp only [w_int, w_bl, w_non, w_no, w_str, w_nil, w_one, w_var, toVar_some, w_glob, toGl_some, toTup_tup, toBl_true, toBl_false, w_cons, w_tup, w_lst, w_bin, w_cmp, w_chain, w_not, w_and, w_or, w_ife, toInt_int, w_neg, w_idx, w_slice, w_isi, w_call, w_blt, toSeq_tup, w_star, w_rev, onNx_nx, onNx_rt, onNx_ct, x_skip, x_seq, toSl_some, x_set, x_setC, x_par, x_ret, x_expr, x_cont, x_sif, onRt_rt, onRt_nx, onTurn_nx, onTurn_ct, onTurn_rt, lay, layN, List.map_cons, List.map_nil, List.getElem?_cons_zero, List.getElem?_cons_succ, Nat.sub_self, List.replicate_zero, List.replicate_succ, List.append_nil, List.cons_append, List.nil_append, List.set_cons_zero, List.set_cons_succ, Nat.reduceSub, to_ok, wipeP, true_and, glob0, glob1, glob2, glob3, glob4, glob5, glob6, glob7, glob8, glob9]
    rw [mul_ok (w20 W_one) (w20 (W_Ls (g := g) h hw) : W 4000 (Pd sc w w - Pd sc g w))]
    try simp only [w_int, w_bl, w_non, w_no, w_str, w_nil, w_one, w_var, toVar_some, w_glob, toGl_some, toTup_tup, toBl_true, toBl_false, w_cons, w_tup, w_lst, w_bin, w_cmp, w_chain, w_not, w_and, w_or, w_ife, toInt_int, w_neg, w_idx, w_slice, w_isi, w_call, w_blt, toSeq_tup, w_star, w_rev, onNx_nx, onNx_rt, onNx_ct, x_skip, x_seq, toSl_some, x_set, x_setC, x_par, x_ret, x_expr, x_cont, x_sif, onRt_rt, onRt_nx, onTurn_nx, onTurn_ct, onTurn_rt, lay, layN, List.map_cons, List.map_nil, List.getElem?_cons_zero, List.getElem?_cons_succ, Nat.sub_self, List.replicate_zero, List.replicate_succ, List.append_nil, List.cons_append, List.nil_append, List.set_cons_zero, List.set_cons_succ, Nat.reduceSub, to_ok, wipeP, true_and, glob0, glob1, glob2, glob3, glob4, glob5, glob6, glob7, glob8, glob9]
    have hF2 := (hF.fr0 h1).fr0 h2
    refine ⟨_, hF2, by simp [cap], ?_⟩
    refine ⟨((hJ.trans h1).trans h2).put (.inr (Nat.le_refl _)), _, _, _, rfl, ?_⟩
    rw [show ([Ls sc g w].take 0).map q ++ [q (1 * (Pd sc w w - Pd sc g w))] = ([Ls sc g w].take (0 + 1)).map q by simp [Rat.one_mul, Ls]]
    exact hF2.put
  · subst eσ
    try simp only [w_int, w_bl, w_non, w_no, w_str, w_nil, w_one, w_var, toVar_some, w_glob, toGl_some, toTup_tup, toBl_true, toBl_false, w_cons, w_tup, w_lst, w_bin, w_cmp, w_chain, w_not, w_and, w_or, w_ife, toInt_int, w_neg, w_idx, w_slice, w_isi, w_call, w_blt, toSeq_tup, w_star, w_rev, onNx_nx, onNx_rt, onNx_ct, x_skip, x_seq, toSl_some, x_set, x_setC, x_par, x_ret, x_expr, x_cont, x_sif, onRt_rt, onRt_nx, onTurn_nx, onTurn_ct, onTurn_rt, lay, layN, List.map_cons, List.map_nil, List.getElem?_cons_zero, List.getElem?_cons_succ, Nat.sub_self, List.replicate_zero, List.replicate_succ, List.append_nil, List.cons_append, List.nil_append, List.set_cons_zero, List.set_cons_succ, Nat.reduceSub, to_ok, wipeP, true_and, glob0, glob1, glob2, glob3, glob4, glob5, glob6, glob7, glob8, glob9]
    have hF' : At s' s.n ([Ls sc g w].map q) := hF
    rw [sum_ok (k := 1700) hF' (fun x hx => by rw [List.mem_singleton.mp hx]; exact W_Ls h hw) (by decide) (by simp)]
    try simp only [w_int, w_bl, w_non, w_no, w_str, w_nil, w_one, w_var, toVar_some, w_glob, toGl_some, toTup_tup, toBl_true, toBl_false, w_cons, w_tup, w_lst, w_bin, w_cmp, w_chain, w_not, w_and, w_or, w_ife, toInt_int, w_neg, w_idx, w_slice, w_isi, w_call, w_blt, toSeq_tup, w_star, w_rev, onNx_nx, onNx_rt, onNx_ct, x_skip, x_seq, toSl_some, x_set, x_setC, x_par, x_ret, x_expr, x_cont, x_sif, onRt_rt, onRt_nx, onTurn_nx, onTurn_ct, onTurn_rt, lay, layN, List.map_cons, List.map_nil, List.getElem?_cons_zero, List.getElem?_cons_succ, Nat.sub_self, List.replicate_zero, List.replicate_succ, List.append_nil, List.cons_append, List.nil_append, List.set_cons_zero, List.set_cons_succ, Nat.reduceSub, to_ok, wipeP, true_and, glob0, glob1, glob2, glob3, glob4, glob5, glob6, glob7, glob8, glob9]
    have e : S [Ls sc g w] = Ls sc g w := by simp only [S]; grind
    rw [e, add_ok W0 (w20 (W_Ls h hw))]
    exact ⟨by rw [Rat.zero_add], hJ⟩
theorem loss_ok (h : Sco sc) (hw : W 20 w) (hg : W 20 g) : Gives (runF T (n + 9) 53 [lad [(1, w)], .tup [q g], .tup (sc.map pv)] s) s (q (Ls sc g w)) := by
  refine run_to d_loss rfl ?_
  simp only [c_loss, w_int, w_bl, w_non, w_no, w_str, w_nil, w_one, w_var, toVar_some, w_glob, toGl_some, toTup_tup, toBl_true, toBl_false, w_cons, w_tup, w_lst, w_bin, w_cmp, w_chain, w_not, w_and, w_or, w_ife, toInt_int, w_neg, w_idx, w_slice, w_isi, w_call, w_blt, toSeq_tup, w_star, w_rev, onNx_nx, onNx_rt, onNx_ct, x_skip, x_seq, toSl_some, x_set, x_setC, x_par, x_ret, x_expr, x_cont, x_sif, onRt_rt, onRt_nx, onTurn_nx, onTurn_ct, onTurn_rt, lay, layN, List.map_cons, List.map_nil, List.getElem?_cons_zero, List.getElem?_cons_succ, Nat.sub_self, List.replicate_zero, List.replicate_succ, List.append_nil, List.cons_append, List.nil_append, List.set_cons_zero, List.set_cons_succ, Nat.reduceSub, to_ok, wipeP, true_and, glob0, glob1, glob2, glob3, glob4, glob5, glob6, glob7, glob8, glob9]
  refine (needguess_ok hw hg).to fun s1 h1 => (needscore_ok h).to fun s2 h2 => ?_
  try simp only [w_int, w_bl, w_non, w_no, w_str, w_nil, w_one, w_var, toVar_some, w_glob, toGl_some, toTup_tup, toBl_true, toBl_false, w_cons, w_tup, w_lst, w_bin, w_cmp, w_chain, w_not, w_and, w_or, w_ife, toInt_int, w_neg, w_idx, w_slice, w_isi, w_call, w_blt, toSeq_tup, w_star, w_rev, onNx_nx, onNx_rt, onNx_ct, x_skip, x_seq, toSl_some, x_set, x_setC, x_par, x_ret, x_expr, x_cont, x_sif, onRt_rt, onRt_nx, onTurn_nx, onTurn_ct, onTurn_rt, lay, layN, List.map_cons, List.map_nil, List.getElem?_cons_zero, List.getElem?_cons_succ, Nat.sub_self, List.replicate_zero, List.replicate_succ, List.append_nil, List.cons_append, List.nil_append, List.set_cons_zero, List.set_cons_succ, Nat.reduceSub, to_ok, wipeP, true_and, glob0, glob1, glob2, glob3, glob4, glob5, glob6, glob7, glob8, glob9]
  refine (lossin_ok h hw hg).to fun s3 h3 => ?_
  exact ⟨rfl, (h1.trans h2).trans h3⟩
end
end K69

namespace K69
open PySem FI GI
section
variable {n : Nat} {a b w g : Rat} {s : Sto} {p : Rat × Rat} {L X : List (Rat × Rat)} {Q : PV → Sto → Prop} {sc : List Pc}
theorem ispoint_ok (h1 : W 4000 p.1) (h2 : W 4000 p.2) : Gives (runF T (n + 3) 43 [row p] s) s (.bl true) := by
  refine run_to d_is_point rfl ?_
  simp only [c_is_point, w_int, w_bl, w_non, w_no, w_str, w_nil, w_one, w_var, toVar_some, w_glob, toGl_some, toTup_tup, toBl_true, toBl_false, w_cons, w_tup, w_lst, w_bin, w_cmp, w_chain, w_not, w_and, w_or, w_ife, toInt_int, w_neg, w_idx, w_slice, w_isi, w_call, w_blt, toSeq_tup, w_star, w_rev, onNx_nx, onNx_rt, onNx_ct, x_skip, x_seq, toSl_some, x_set, x_setC, x_par, x_ret, x_expr, x_cont, x_sif, onRt_rt, onRt_nx, onTurn_nx, onTurn_ct, onTurn_rt, lay, layN, List.map_cons, List.map_nil, List.getElem?_cons_zero, List.getElem?_cons_succ, Nat.sub_self, List.replicate_zero, List.replicate_succ, List.append_nil, List.cons_append, List.nil_append, List.set_cons_zero, List.set_cons_succ, Nat.reduceSub, to_ok, wipeP, true_and, glob0, glob1, glob2, glob3, glob4, glob5, glob6, glob7, glob8, glob9, isTy_row, len_row, row_0, row_1, w_eqI]
  refine ⟨true, rfl, ?_⟩
  simp only [w_int, w_bl, w_non, w_no, w_str, w_nil, w_one, w_var, toVar_some, w_glob, toGl_some, toTup_tup, toBl_true, toBl_false, w_cons, w_tup, w_lst, w_bin, w_cmp, w_chain, w_not, w_and, w_or, w_ife, toInt_int, w_neg, w_idx, w_slice, w_isi, w_call, w_blt, toSeq_tup, w_star, w_rev, onNx_nx, onNx_rt, onNx_ct, x_skip, x_seq, toSl_some, x_set, x_setC, x_par, x_ret, x_expr, x_cont, x_sif, onRt_rt, onRt_nx, onTurn_nx, onTurn_ct, onTurn_rt, lay, layN, List.map_cons, List.map_nil, List.getElem?_cons_zero, List.getElem?_cons_succ, Nat.sub_self, List.replicate_zero, List.replicate_succ, List.append_nil, List.cons_append, List.nil_append, List.set_cons_zero, List.set_cons_succ, Nat.reduceSub, to_ok, wipeP, true_and, glob0, glob1, glob2, glob3, glob4, glob5, glob6, glob7, glob8, glob9, decide_true]
  refine (isfrac_ok (h1.mono (by decide))).to fun s' hs => ?_
  try simp only [w_int, w_bl, w_non, w_no, w_str, w_nil, w_one, w_var, toVar_some, w_glob, toGl_some, toTup_tup, toBl_true, toBl_false, w_cons, w_tup, w_lst, w_bin, w_cmp, w_chain, w_not, w_and, w_or, w_ife, toInt_int, w_neg, w_idx, w_slice, w_isi, w_call, w_blt, toSeq_tup, w_star, w_rev, onNx_nx, onNx_rt, onNx_ct, x_skip, x_seq, toSl_some, x_set, x_setC, x_par, x_ret, x_expr, x_cont, x_sif, onRt_rt, onRt_nx, onTurn_nx, onTurn_ct, onTurn_rt, lay, layN, List.map_cons, List.map_nil, List.getElem?_cons_zero, List.getElem?_cons_succ, Nat.sub_self, List.replicate_zero, List.replicate_succ, List.append_nil, List.cons_append, List.nil_append, List.set_cons_zero, List.set_cons_succ, Nat.reduceSub, to_ok, wipeP, true_and, glob0, glob1, glob2, glob3, glob4, glob5, glob6, glob7, glob8, glob9]
  refine (isfrac_ok (h2.mono (by decide))).to fun s'' hs' => ?_
  exact ⟨rfl, hs.trans hs'⟩
/-- points of a line -/
structure Pts (X : List (Rat × Rat)) : Prop where
  lo : 2 ≤ X.length
  hi : X.length ≤ 12
  w : ∀ p ∈ X, W 30 p.1 ∧ W 1900 p.2
  srt : X.Pairwise fun a b => a.1 < b.1
theorem Pts.pair (h : Pts X) {m : (Rat × Rat) × (Rat × Rat)} (hm : m ∈ X.zip (X.drop 1)) : m.1 ∈ X ∧ m.2 ∈ X ∧ m.1.1 < m.2.1 := by
  obtain ⟨k, hk, e⟩ := List.mem_iff_getElem.mp hm
  rw [List.getElem_zip] at e
  have hk1 : k + 1 < X.length := by simp at hk; omega
  rw [← e]
  refine ⟨List.getElem_mem _, ?_, ?_⟩
  · dsimp only
    rw [List.getElem_drop]
    exact List.getElem_mem _
  · have := List.pairwise_iff_getElem.mp h.srt k (1 + k) (by omega) (by omega) (by omega)
    dsimp only
    rw [List.getElem_drop]
    exact this
theorem slice1 {xs : List PV} (h : 1 ≤ xs.length) : evSlice (.tup xs) (some 1) none s = .ok (.tup (xs.drop 1)) s := by
  have e : HT.sIx xs.length 0 (some 1) = 1 := by
    have := HT.sIx_nat xs.length 0 1
    rw [Nat.min_eq_left h] at this
    exact this
  simp only [evSlice, cutP, e, HT.sIx_none]
  rw [List.take_of_length_le (by simp)]
theorem zip2_tt {xs ys : List PV} : zip2 s (.tup xs) (.tup ys) = some (.zp (.t xs) (.t ys)) := rfl
theorem le_of_dec {x y : Int} (h : x ≤ y) : decide (x ≤ y) = true := decide_eq_true h
theorem needpts_ok (h : Pts X) : Gives (runF T (n + 4) 44 [lad X] s) s (lad X) := by
  refine run_to d_need_points rfl ?_
  have hlo := h.lo
  have hhi := h.hi
  have e1 : decide ((2 : Int) ≤ (X.map row).length) = true := by simp; omega
  have e2 : decide (((X.map row).length : Int) ≤ 12) = true := by simp; omega
  simp only [c_need_points, w_int, w_bl, w_non, w_no, w_str, w_nil, w_one, w_var, toVar_some, w_glob, toGl_some, toTup_tup, toBl_true, toBl_false, w_cons, w_tup, w_lst, w_bin, w_cmp, w_chain, w_not, w_and, w_or, w_ife, toInt_int, w_neg, w_idx, w_slice, w_isi, w_call, w_blt, toSeq_tup, w_star, w_rev, onNx_nx, onNx_rt, onNx_ct, x_skip, x_seq, toSl_some, x_set, x_setC, x_par, x_ret, x_expr, x_cont, x_sif, onRt_rt, onRt_nx, onTurn_nx, onTurn_ct, onTurn_rt, lay, layN, List.map_cons, List.map_nil, List.getElem?_cons_zero, List.getElem?_cons_succ, Nat.sub_self, List.replicate_zero, List.replicate_succ, List.append_nil, List.cons_append, List.nil_append, List.set_cons_zero, List.set_cons_succ, Nat.reduceSub, to_ok, wipeP, true_and, glob0, glob1, glob2, glob3, glob4, glob5, glob6, glob7, glob8, glob9, lad, isTy_tup, len_tup, w_le, e1, e2]
  refine ⟨true, rfl, ?_⟩
  try simp only [w_int, w_bl, w_non, w_no, w_str, w_nil, w_one, w_var, toVar_some, w_glob, toGl_some, toTup_tup, toBl_true, toBl_false, w_cons, w_tup, w_lst, w_bin, w_cmp, w_chain, w_not, w_and, w_or, w_ife, toInt_int, w_neg, w_idx, w_slice, w_isi, w_call, w_blt, toSeq_tup, w_star, w_rev, onNx_nx, onNx_rt, onNx_ct, x_skip, x_seq, toSl_some, x_set, x_setC, x_par, x_ret, x_expr, x_cont, x_sif, onRt_rt, onRt_nx, onTurn_nx, onTurn_ct, onTurn_rt, lay, layN, List.map_cons, List.map_nil, List.getElem?_cons_zero, List.getElem?_cons_succ, Nat.sub_self, List.replicate_zero, List.replicate_succ, List.append_nil, List.cons_append, List.nil_append, List.set_cons_zero, List.set_cons_succ, Nat.reduceSub, to_ok, wipeP, true_and, glob0, glob1, glob2, glob3, glob4, glob5, glob6, glob7, glob8, glob9, w_le, e2]
  refine comp_pure X row (fun _ => some (.bl true)) ?_ (by simp [cap]; omega) (fun x hx s' hs => ?_) fun i s1 hf1 hA hi => ?_
  · simp only [j_seq, w_int, w_bl, w_non, w_no, w_str, w_nil, w_one, w_var, toVar_some, w_glob, toGl_some, toTup_tup, toBl_true, toBl_false, w_cons, w_tup, w_lst, w_bin, w_cmp, w_chain, w_not, w_and, w_or, w_ife, toInt_int, w_neg, w_idx, w_slice, w_isi, w_call, w_blt, toSeq_tup, w_star, w_rev, onNx_nx, onNx_rt, onNx_ct, x_skip, x_seq, toSl_some, x_set, x_setC, x_par, x_ret, x_expr, x_cont, x_sif, onRt_rt, onRt_nx, onTurn_nx, onTurn_ct, onTurn_rt, lay, layN, List.map_cons, List.map_nil, List.getElem?_cons_zero, List.getElem?_cons_succ, Nat.sub_self, List.replicate_zero, List.replicate_succ, List.append_nil, List.cons_append, List.nil_append, List.set_cons_zero, List.set_cons_succ, Nat.reduceSub, to_ok, wipeP, true_and, glob0, glob1, glob2, glob3, glob4, glob5, glob6, glob7, glob8, glob9]
    exact ⟨by simp [It.most], sees_t, .refl⟩
  · have hw := h.w x hx
    simp only [Turn, w_int, w_bl, w_non, w_no, w_str, w_nil, w_one, w_var, toVar_some, w_glob, toGl_some, toTup_tup, toBl_true, toBl_false, w_cons, w_tup, w_lst, w_bin, w_cmp, w_chain, w_not, w_and, w_or, w_ife, toInt_int, w_neg, w_idx, w_slice, w_isi, w_call, w_blt, toSeq_tup, w_star, w_rev, onNx_nx, onNx_rt, onNx_ct, x_skip, x_seq, toSl_some, x_set, x_setC, x_par, x_ret, x_expr, x_cont, x_sif, onRt_rt, onRt_nx, onTurn_nx, onTurn_ct, onTurn_rt, lay, layN, List.map_cons, List.map_nil, List.getElem?_cons_zero, List.getElem?_cons_succ, Nat.sub_self, List.replicate_zero, List.replicate_succ, List.append_nil, List.cons_append, List.nil_append, List.set_cons_zero, List.set_cons_succ, Nat.reduceSub, to_ok, wipeP, true_and, glob0, glob1, glob2, glob3, glob4, glob5, glob6, glob7, glob8, glob9]
    refine (ispoint_ok (w20 hw.1) (w20 hw.2)).to fun s'' h'' => ?_
    exact ⟨rfl, h''⟩
  · rw [fm_some] at hA
    simp only [w_int, w_bl, w_non, w_no, w_str, w_nil, w_one, w_var, toVar_some, w_glob, toGl_some, toTup_tup, toBl_true, toBl_false, w_cons, w_tup, w_lst, w_bin, w_cmp, w_chain, w_not, w_and, w_or, w_ife, toInt_int, w_neg, w_idx, w_slice, w_isi, w_call, w_blt, toSeq_tup, w_star, w_rev, onNx_nx, onNx_rt, onNx_ct, x_skip, x_seq, toSl_some, x_set, x_setC, x_par, x_ret, x_expr, x_cont, x_sif, onRt_rt, onRt_nx, onTurn_nx, onTurn_ct, onTurn_rt, lay, layN, List.map_cons, List.map_nil, List.getElem?_cons_zero, List.getElem?_cons_succ, Nat.sub_self, List.replicate_zero, List.replicate_succ, List.append_nil, List.cons_append, List.nil_append, List.set_cons_zero, List.set_cons_succ, Nat.reduceSub, to_ok, wipeP, true_and, glob0, glob1, glob2, glob3, glob4, glob5, glob6, glob7, glob8, glob9, all_lst hA, all_true]
    refine comp_pure (X.zip (X.drop 1)) (fun p => .tup [row p.1, row p.2]) (fun _ => some (.bl true)) ?_ (by simp [cap]; omega) (fun x hx s' hs => ?_) fun i s2 hf2 hA2 hi => ?_
    · refine j_zip ?_
      simp only [w_int, w_bl, w_non, w_no, w_str, w_nil, w_one, w_var, toVar_some, w_glob, toGl_some, toTup_tup, toBl_true, toBl_false, w_cons, w_tup, w_lst, w_bin, w_cmp, w_chain, w_not, w_and, w_or, w_ife, toInt_int, w_neg, w_idx, w_slice, w_isi, w_call, w_blt, toSeq_tup, w_star, w_rev, onNx_nx, onNx_rt, onNx_ct, x_skip, x_seq, toSl_some, x_set, x_setC, x_par, x_ret, x_expr, x_cont, x_sif, onRt_rt, onRt_nx, onTurn_nx, onTurn_ct, onTurn_rt, lay, layN, List.map_cons, List.map_nil, List.getElem?_cons_zero, List.getElem?_cons_succ, Nat.sub_self, List.replicate_zero, List.replicate_succ, List.append_nil, List.cons_append, List.nil_append, List.set_cons_zero, List.set_cons_succ, Nat.reduceSub, to_ok, wipeP, true_and, glob0, glob1, glob2, glob3, glob4, glob5, glob6, glob7, glob8, glob9]
      refine ⟨some 1, none, rfl, rfl, ?_⟩
      rw [slice1 (by simp; omega), to_ok]
      refine ⟨_, _, _, rfl, zip2_tt, ?_, ?_, .refl⟩
      · simp [It.most]
      · rw [← List.map_drop]
        exact sees_zp (a := .t (X.map row)) (b := .t ((X.drop 1).map row)) (fun _ _ => rfl) (fun _ _ => rfl)
    · obtain ⟨m1, m2, hlt⟩ := h.pair hx
      simp only [Turn, w_int, w_bl, w_non, w_no, w_str, w_nil, w_one, w_var, toVar_some, w_glob, toGl_some, toTup_tup, toBl_true, toBl_false, w_cons, w_tup, w_lst, w_bin, w_cmp, w_chain, w_not, w_and, w_or, w_ife, toInt_int, w_neg, w_idx, w_slice, w_isi, w_call, w_blt, toSeq_tup, w_star, w_rev, onNx_nx, onNx_rt, onNx_ct, x_skip, x_seq, toSl_some, x_set, x_setC, x_par, x_ret, x_expr, x_cont, x_sif, onRt_rt, onRt_nx, onTurn_nx, onTurn_ct, onTurn_rt, lay, layN, List.map_cons, List.map_nil, List.getElem?_cons_zero, List.getElem?_cons_succ, Nat.sub_self, List.replicate_zero, List.replicate_succ, List.append_nil, List.cons_append, List.nil_append, List.set_cons_zero, List.set_cons_succ, Nat.reduceSub, to_ok, wipeP, true_and, glob0, glob1, glob2, glob3, glob4, glob5, glob6, glob7, glob8, glob9, row_0, under_ok (w20 (h.w _ m1).1) (w20 (h.w _ m2).1), hlt, decide_true]
      exact .refl
    · rw [fm_some] at hA2
      simp only [w_int, w_bl, w_non, w_no, w_str, w_nil, w_one, w_var, toVar_some, w_glob, toGl_some, toTup_tup, toBl_true, toBl_false, w_cons, w_tup, w_lst, w_bin, w_cmp, w_chain, w_not, w_and, w_or, w_ife, toInt_int, w_neg, w_idx, w_slice, w_isi, w_call, w_blt, toSeq_tup, w_star, w_rev, onNx_nx, onNx_rt, onNx_ct, x_skip, x_seq, toSl_some, x_set, x_setC, x_par, x_ret, x_expr, x_cont, x_sif, onRt_rt, onRt_nx, onTurn_nx, onTurn_ct, onTurn_rt, lay, layN, List.map_cons, List.map_nil, List.getElem?_cons_zero, List.getElem?_cons_succ, Nat.sub_self, List.replicate_zero, List.replicate_succ, List.append_nil, List.cons_append, List.nil_append, List.set_cons_zero, List.set_cons_succ, Nat.reduceSub, to_ok, wipeP, true_and, glob0, glob1, glob2, glob3, glob4, glob5, glob6, glob7, glob8, glob9, all_lst hA2, all_true]
      first | exact ⟨rfl, hf1.trans hf2⟩ | exact hf1.trans hf2
/-- slopes between neighbours -/
def slope (m : (Rat × Rat) × (Rat × Rat)) : Rat := (m.2.2 - m.1.2) / (m.2.1 - m.1.1)
def slopes (X : List (Rat × Rat)) : List Rat := (X.zip (X.drop 1)).map slope
theorem Pts.slope_w (h : Pts X) {m : (Rat × Rat) × (Rat × Rat)} (hm : m ∈ X.zip (X.drop 1)) : W 3862 (slope m) := by
  obtain ⟨m1, m2, hlt⟩ := h.pair hm
  exact (((h.w _ m2).2.sub (h.w _ m1).2).div ((h.w _ m2).1.sub (h.w _ m1).1) (by grind)).mono (by decide)
theorem slopes_ok (h : Pts X) : GivesL (runF T (n + 4) 45 [lad X] s) s ((slopes X).map q) := by
  refine run_to d_slopes_in rfl ?_
  have hlo := h.lo
  have hhi := h.hi
  simp only [c_slopes_in, w_int, w_bl, w_non, w_no, w_str, w_nil, w_one, w_var, toVar_some, w_glob, toGl_some, toTup_tup, toBl_true, toBl_false, w_cons, w_tup, w_lst, w_bin, w_cmp, w_chain, w_not, w_and, w_or, w_ife, toInt_int, w_neg, w_idx, w_slice, w_isi, w_call, w_blt, toSeq_tup, w_star, w_rev, onNx_nx, onNx_rt, onNx_ct, x_skip, x_seq, toSl_some, x_set, x_setC, x_par, x_ret, x_expr, x_cont, x_sif, onRt_rt, onRt_nx, onTurn_nx, onTurn_ct, onTurn_rt, lay, layN, List.map_cons, List.map_nil, List.getElem?_cons_zero, List.getElem?_cons_succ, Nat.sub_self, List.replicate_zero, List.replicate_succ, List.append_nil, List.cons_append, List.nil_append, List.set_cons_zero, List.set_cons_succ, Nat.reduceSub, to_ok, wipeP, true_and, glob0, glob1, glob2, glob3, glob4, glob5, glob6, glob7, glob8, glob9]
  refine comp_pure (X.zip (X.drop 1)) (fun p => .tup [row p.1, row p.2]) (fun m => some (q (slope m))) ?_ (by simp [cap]; omega) (fun x hx s' hs => ?_) fun i s2 hf2 hA2 hi => ?_
  · refine j_zip ?_
    simp only [w_int, w_bl, w_non, w_no, w_str, w_nil, w_one, w_var, toVar_some, w_glob, toGl_some, toTup_tup, toBl_true, toBl_false, w_cons, w_tup, w_lst, w_bin, w_cmp, w_chain, w_not, w_and, w_or, w_ife, toInt_int, w_neg, w_idx, w_slice, w_isi, w_call, w_blt, toSeq_tup, w_star, w_rev, onNx_nx, onNx_rt, onNx_ct, x_skip, x_seq, toSl_some, x_set, x_setC, x_par, x_ret, x_expr, x_cont, x_sif, onRt_rt, onRt_nx, onTurn_nx, onTurn_ct, onTurn_rt, lay, layN, List.map_cons, List.map_nil, List.getElem?_cons_zero, List.getElem?_cons_succ, Nat.sub_self, List.replicate_zero, List.replicate_succ, List.append_nil, List.cons_append, List.nil_append, List.set_cons_zero, List.set_cons_succ, Nat.reduceSub, to_ok, wipeP, true_and, glob0, glob1, glob2, glob3, glob4, glob5, glob6, glob7, glob8, glob9, lad]
    refine ⟨some 1, none, rfl, rfl, ?_⟩
    rw [slice1 (by simp; omega), to_ok]
    refine ⟨_, _, _, rfl, zip2_tt, ?_, ?_, .refl⟩
    · simp [It.most]
    · rw [← List.map_drop]
      exact sees_zp (a := .t (X.map row)) (b := .t ((X.drop 1).map row)) (fun _ _ => rfl) (fun _ _ => rfl)
  · obtain ⟨m1, m2, hlt⟩ := h.pair hx
    have w1 := h.w _ m1
    have w2 := h.w _ m2
    simp only [Turn, w_int, w_bl, w_non, w_no, w_str, w_nil, w_one, w_var, toVar_some, w_glob, toGl_some, toTup_tup, toBl_true, toBl_false, w_cons, w_tup, w_lst, w_bin, w_cmp, w_chain, w_not, w_and, w_or, w_ife, toInt_int, w_neg, w_idx, w_slice, w_isi, w_call, w_blt, toSeq_tup, w_star, w_rev, onNx_nx, onNx_rt, onNx_ct, x_skip, x_seq, toSl_some, x_set, x_setC, x_par, x_ret, x_expr, x_cont, x_sif, onRt_rt, onRt_nx, onTurn_nx, onTurn_ct, onTurn_rt, lay, layN, List.map_cons, List.map_nil, List.getElem?_cons_zero, List.getElem?_cons_succ, Nat.sub_self, List.replicate_zero, List.replicate_succ, List.append_nil, List.cons_append, List.nil_append, List.set_cons_zero, List.set_cons_succ, Nat.reduceSub, to_ok, wipeP, true_and, glob0, glob1, glob2, glob3, glob4, glob5, glob6, glob7, glob8, glob9, row_0, row_1, sub_ok (w20 w2.2) (w20 w1.2), sub_ok (w20 w2.1) (w20 w1.1), div_ok (w20 (w2.2.sub w1.2)) (w20 (w2.1.sub w1.1)) (by grind : 0 < x.2.1 - x.1.1)]
    exact ⟨rfl, .refl⟩
  · rw [fm_some, show (X.zip (X.drop 1)).map (fun m => q (slope m)) = (slopes X).map q by simp [slopes]] at hA2
    exact ⟨hf2, _, rfl, hA2, hi⟩
/-! ### the slope above a number -/
theorem maxI_spec : ∀ (l : List Int) (m : Int), (maxI m l = m ∨ maxI m l ∈ l) ∧ m ≤ maxI m l ∧ ∀ x ∈ l, x ≤ maxI m l
  | [], m => ⟨.inl rfl, Int.le_refl _, fun x hx => by simp at hx⟩
  | y :: l, m => by
    by_cases hc : m < y
    · obtain ⟨h1, h2, h3⟩ := maxI_spec l y
      simp only [maxI, hc, if_true]
      refine ⟨?_, by omega, fun x hx => ?_⟩
      · rcases h1 with e | e
        · exact .inr (by rw [e]; exact List.mem_cons_self)
        · exact .inr (List.mem_cons_of_mem _ e)
      · rcases List.mem_cons.mp hx with rfl | hx
        · exact h2
        · exact h3 x hx
    · obtain ⟨h1, h2, h3⟩ := maxI_spec l m
      simp only [maxI, hc, if_false]
      refine ⟨?_, h2, fun x hx => ?_⟩
      · rcases h1 with e | e
        · exact .inl e
        · exact .inr (List.mem_cons_of_mem _ e)
      · rcases List.mem_cons.mp hx with rfl | hx
        · omega
        · exact h3 x hx
structure Above (X : List (Rat × Rat)) (w : Rat) (k : Nat) : Prop where
  lt : k + 1 < X.length
  at_ : k = 0 ∨ ∃ p, X[k]? = some p ∧ p.1 ≤ w
  most : ∀ i p, i + 1 < X.length → X[i]? = some p → p.1 ≤ w → i ≤ k
theorem intsP_map {α : Type} {f : α → Int} : ∀ {l : List α}, intsP (l.map fun a => .int (f a)) = some (l.map f)
  | [] => rfl
  | a :: l => by simp only [List.map_cons, intsP, intsP_map]
theorem slice_init {xs : List PV} : evSlice (.tup xs) none (some (-1)) s = .ok (.tup xs.dropLast) s := by
  have e : HT.sIx xs.length xs.length (some (-1)) = xs.length - 1 := by
    simp only [HT.sIx]
    rw [if_pos (by decide)]
    omega
  simp only [evSlice, cutP, e, HT.sIx_none, List.drop_zero, Nat.sub_zero, List.dropLast_eq_take]
theorem above_ok (h : Pts X) (hw : W 30 w) : (runF T (n + 2) 46 [lad X, q w] s).to fun v s' => Fr [] s s' ∧ ∃ k : Nat, v = .int (k : Int) ∧ Above X w k := by
  refine run_to d_slope_above rfl ?_
  have hlo := h.lo
  have hhi := h.hi
  simp only [c_slope_above, w_int, w_bl, w_non, w_no, w_str, w_nil, w_one, w_var, toVar_some, w_glob, toGl_some, toTup_tup, toBl_true, toBl_false, w_cons, w_tup, w_lst, w_bin, w_cmp, w_chain, w_not, w_and, w_or, w_ife, toInt_int, w_neg, w_idx, w_slice, w_isi, w_call, w_blt, toSeq_tup, w_star, w_rev, onNx_nx, onNx_rt, onNx_ct, x_skip, x_seq, toSl_some, x_set, x_setC, x_par, x_ret, x_expr, x_cont, x_sif, onRt_rt, onRt_nx, onTurn_nx, onTurn_ct, onTurn_rt, lay, layN, List.map_cons, List.map_nil, List.getElem?_cons_zero, List.getElem?_cons_succ, Nat.sub_self, List.replicate_zero, List.replicate_succ, List.append_nil, List.cons_append, List.nil_append, List.set_cons_zero, List.set_cons_succ, Nat.reduceSub, to_ok, wipeP, true_and, glob0, glob1, glob2, glob3, glob4, glob5, glob6, glob7, glob8, glob9]
  refine ⟨by simp [cap], ?_⟩
  refine comp_pure X.dropLast.zipIdx (fun p => .tup [.int (p.2 : Int), row p.1]) (fun p => if decide (p.1.1 ≤ w) = true then some (.int (p.2 : Int)) else none) ?_ (by simp [cap]; omega) (fun x hx s' hs => ?_) fun i s2 hf2 hA2 hi => ?_
  · simp only [evI, to_bind, w_int, w_bl, w_non, w_no, w_str, w_nil, w_one, w_var, toVar_some, w_glob, toGl_some, toTup_tup, toBl_true, toBl_false, w_cons, w_tup, w_lst, w_bin, w_cmp, w_chain, w_not, w_and, w_or, w_ife, toInt_int, w_neg, w_idx, w_slice, w_isi, w_call, w_blt, toSeq_tup, w_star, w_rev, onNx_nx, onNx_rt, onNx_ct, x_skip, x_seq, toSl_some, x_set, x_setC, x_par, x_ret, x_expr, x_cont, x_sif, onRt_rt, onRt_nx, onTurn_nx, onTurn_ct, onTurn_rt, lay, layN, List.map_cons, List.map_nil, List.getElem?_cons_zero, List.getElem?_cons_succ, Nat.sub_self, List.replicate_zero, List.replicate_succ, List.append_nil, List.cons_append, List.nil_append, List.set_cons_zero, List.set_cons_succ, Nat.reduceSub, to_ok, wipeP, true_and, glob0, glob1, glob2, glob3, glob4, glob5, glob6, glob7, glob8, glob9, lad]
    refine ⟨none, some (-1), rfl, rfl, ?_⟩
    rw [slice_init, to_ok, ← List.map_dropLast]
    simp only [seqIt, to_ok]
    exact ⟨by simp [It.most], sees_en_t (L := X.dropLast), .refl⟩
  · have hm : x.1 ∈ X := by
      obtain ⟨y, k'⟩ := x
      have := (List.mem_zipIdx' hx).2
      rw [this]
      exact (List.dropLast_sublist _).subset (List.getElem_mem _)
    simp only [Turn, w_int, w_bl, w_non, w_no, w_str, w_nil, w_one, w_var, toVar_some, w_glob, toGl_some, toTup_tup, toBl_true, toBl_false, w_cons, w_tup, w_lst, w_bin, w_cmp, w_chain, w_not, w_and, w_or, w_ife, toInt_int, w_neg, w_idx, w_slice, w_isi, w_call, w_blt, toSeq_tup, w_star, w_rev, onNx_nx, onNx_rt, onNx_ct, x_skip, x_seq, toSl_some, x_set, x_setC, x_par, x_ret, x_expr, x_cont, x_sif, onRt_rt, onRt_nx, onTurn_nx, onTurn_ct, onTurn_rt, lay, layN, List.map_cons, List.map_nil, List.getElem?_cons_zero, List.getElem?_cons_succ, Nat.sub_self, List.replicate_zero, List.replicate_succ, List.append_nil, List.cons_append, List.nil_append, List.set_cons_zero, List.set_cons_succ, Nat.reduceSub, to_ok, wipeP, true_and, glob0, glob1, glob2, glob3, glob4, glob5, glob6, glob7, glob8, glob9, row_0, under_ok (w20 hw) (w20 (h.w _ hm).1)]
    by_cases hc : x.1.1 ≤ w
    · have hn : ¬ w < x.1.1 := by grind
      simp only [hn, hc, decide_true, decide_false, w_int, w_bl, w_non, w_no, w_str, w_nil, w_one, w_var, toVar_some, w_glob, toGl_some, toTup_tup, toBl_true, toBl_false, w_cons, w_tup, w_lst, w_bin, w_cmp, w_chain, w_not, w_and, w_or, w_ife, toInt_int, w_neg, w_idx, w_slice, w_isi, w_call, w_blt, toSeq_tup, w_star, w_rev, onNx_nx, onNx_rt, onNx_ct, x_skip, x_seq, toSl_some, x_set, x_setC, x_par, x_ret, x_expr, x_cont, x_sif, onRt_rt, onRt_nx, onTurn_nx, onTurn_ct, onTurn_rt, lay, layN, List.map_cons, List.map_nil, List.getElem?_cons_zero, List.getElem?_cons_succ, Nat.sub_self, List.replicate_zero, List.replicate_succ, List.append_nil, List.cons_append, List.nil_append, List.set_cons_zero, List.set_cons_succ, Nat.reduceSub, to_ok, wipeP, true_and, glob0, glob1, glob2, glob3, glob4, glob5, glob6, glob7, glob8, glob9]
      exact ⟨rfl, .refl⟩
    · have hn : w < x.1.1 := by grind
      simp only [hn, hc, decide_true, decide_false, w_int, w_bl, w_non, w_no, w_str, w_nil, w_one, w_var, toVar_some, w_glob, toGl_some, toTup_tup, toBl_true, toBl_false, w_cons, w_tup, w_lst, w_bin, w_cmp, w_chain, w_not, w_and, w_or, w_ife, toInt_int, w_neg, w_idx, w_slice, w_isi, w_call, w_blt, toSeq_tup, w_star, w_rev, onNx_nx, onNx_rt, onNx_ct, x_skip, x_seq, toSl_some, x_set, x_setC, x_par, x_ret, x_expr, x_cont, x_sif, onRt_rt, onRt_nx, onTurn_nx, onTurn_ct, onTurn_rt, lay, layN, List.map_cons, List.map_nil, List.getElem?_cons_zero, List.getElem?_cons_succ, Nat.sub_self, List.replicate_zero, List.replicate_succ, List.append_nil, List.cons_append, List.nil_append, List.set_cons_zero, List.set_cons_succ, Nat.reduceSub, to_ok, wipeP, true_and, glob0, glob1, glob2, glob3, glob4, glob5, glob6, glob7, glob8, glob9]
      exact ⟨rfl, .refl⟩
  · rw [fm_if] at hA2
    have hA1 : At s2 s.n [.int 0] := At.fr0 .new hf2
    try simp only [w_int, w_bl, w_non, w_no, w_str, w_nil, w_one, w_var, toVar_some, w_glob, toGl_some, toTup_tup, toBl_true, toBl_false, w_cons, w_tup, w_lst, w_bin, w_cmp, w_chain, w_not, w_and, w_or, w_ife, toInt_int, w_neg, w_idx, w_slice, w_isi, w_call, w_blt, toSeq_tup, w_star, w_rev, onNx_nx, onNx_rt, onNx_ct, x_skip, x_seq, toSl_some, x_set, x_setC, x_par, x_ret, x_expr, x_cont, x_sif, onRt_rt, onRt_nx, onTurn_nx, onTurn_ct, onTurn_rt, lay, layN, List.map_cons, List.map_nil, List.getElem?_cons_zero, List.getElem?_cons_succ, Nat.sub_self, List.replicate_zero, List.replicate_succ, List.append_nil, List.cons_append, List.nil_append, List.set_cons_zero, List.set_cons_succ, Nat.reduceSub, to_ok, wipeP, true_and, glob0, glob1, glob2, glob3, glob4, glob5, glob6, glob7, glob8, glob9]
    generalize hI : X.dropLast.zipIdx.filter (fun p => decide (p.1.1 ≤ w)) = I at hA2
    have hIl : I.length ≤ 12 := by
      rw [← hI]
      refine Nat.le_trans (List.length_filter_le _ _) ?_
      simp; omega
    rw [addL hA1 hA2 (by simp [cap]; omega)]
    try simp only [w_int, w_bl, w_non, w_no, w_str, w_nil, w_one, w_var, toVar_some, w_glob, toGl_some, toTup_tup, toBl_true, toBl_false, w_cons, w_tup, w_lst, w_bin, w_cmp, w_chain, w_not, w_and, w_or, w_ife, toInt_int, w_neg, w_idx, w_slice, w_isi, w_call, w_blt, toSeq_tup, w_star, w_rev, onNx_nx, onNx_rt, onNx_ct, x_skip, x_seq, toSl_some, x_set, x_setC, x_par, x_ret, x_expr, x_cont, x_sif, onRt_rt, onRt_nx, onTurn_nx, onTurn_ct, onTurn_rt, lay, layN, List.map_cons, List.map_nil, List.getElem?_cons_zero, List.getElem?_cons_succ, Nat.sub_self, List.replicate_zero, List.replicate_succ, List.append_nil, List.cons_append, List.nil_append, List.set_cons_zero, List.set_cons_succ, Nat.reduceSub, to_ok, wipeP, true_and, glob0, glob1, glob2, glob3, glob4, glob5, glob6, glob7, glob8, glob9]
    have hA3 : At (s2.new (.lst (.int 0 :: I.map fun p => .int (p.2 : Int)))) s2.n (.int 0 :: I.map fun p => .int (p.2 : Int)) := .new
    have e : intsP (.int 0 :: I.map fun p => .int ((p.2 : Nat) : Int)) = some (0 :: I.map fun p => ((p.2 : Nat) : Int)) := by simp only [intsP, intsP_map]
    simp only [evBlt, hA3.getL, e, to_ok]
    refine ⟨(Fr.new.trans hf2).trans .new, ?_⟩
    obtain ⟨h1, h2, h3⟩ := maxI_spec (I.map fun p => ((p.2 : Nat) : Int)) 0
    refine ⟨(maxI 0 (I.map fun p => ((p.2 : Nat) : Int))).toNat, by rw [Int.toNat_of_nonneg h2], ?_⟩
    generalize hM : maxI 0 (I.map fun p => ((p.2 : Nat) : Int)) = M at h1 h2 h3
    have mem : ∀ {j : Nat} {p : Rat × Rat}, (p, j) ∈ I → ∃ hj : j + 1 < X.length, X[j]? = some p ∧ p.1 ≤ w := fun {j p} hm => by
      rw [← hI] at hm
      obtain ⟨hm1, hm2⟩ := List.mem_filter.mp hm
      have hz := List.mem_zipIdx' hm1
      have hj : j < X.dropLast.length := hz.1
      have hj' : j + 1 < X.length := by simp at hj; omega
      refine ⟨hj', ?_, by simpa using hm2⟩
      rw [List.getElem?_eq_getElem (by omega), hz.2, List.getElem_dropLast]
    refine ⟨?_, ?_, fun j p hj hp hle => ?_⟩
    · rcases h1 with e | e
      · rw [e]; simp; omega
      · obtain ⟨⟨p, j⟩, hm, rfl⟩ := List.mem_map.mp e
        obtain ⟨hj, _⟩ := mem hm
        simpa using hj
    · rcases h1 with e | e
      · left; rw [e]; rfl
      · obtain ⟨⟨p, j⟩, hm, rfl⟩ := List.mem_map.mp e
        obtain ⟨hj, hp, hle⟩ := mem hm
        exact .inr ⟨p, by simpa using hp, hle⟩
    · have hm : (p, j) ∈ I := by
        rw [← hI]
        refine List.mem_filter.mpr ⟨?_, by simpa using hle⟩
        have hj2 : j < X.dropLast.length := by simp; omega
        have hx : X.dropLast[j] = p := by
          rw [List.getElem_dropLast]
          exact (List.getElem?_eq_some_iff.mp hp).2
        refine List.mem_iff_getElem.mpr ⟨j, by simpa using hj2, ?_⟩
        simp [hx] 
      have := h3 (j : Int) (List.mem_map.mpr ⟨_, hm, rfl⟩)
      omega
/-- the line at a number -/
def lineAt (X : List (Rat × Rat)) (w : Rat) (v : Rat) : Prop := ∃ k x y t, Above X w k ∧ X[k]? = some (x, y) ∧ (slopes X)[k]? = some t ∧ v = y + t * (w - x)
theorem slopes_len : (slopes X).length = X.length - 1 := by simp [slopes]
theorem line_in_ok (h : Pts X) (hw : W 30 w) : (runF T (n + 5) 47 [lad X, q w] s).to fun v s' => Fr [] s s' ∧ ∃ r, v = q r ∧ lineAt X w r := by
  refine run_to d_line_in rfl ?_
  simp only [c_line_in, w_int, w_bl, w_non, w_no, w_str, w_nil, w_one, w_var, toVar_some, w_glob, toGl_some, toTup_tup, toBl_true, toBl_false, w_cons, w_tup, w_lst, w_bin, w_cmp, w_chain, w_not, w_and, w_or, w_ife, toInt_int, w_neg, w_idx, w_slice, w_isi, w_call, w_blt, toSeq_tup, w_star, w_rev, onNx_nx, onNx_rt, onNx_ct, x_skip, x_seq, toSl_some, x_set, x_setC, x_par, x_ret, x_expr, x_cont, x_sif, onRt_rt, onRt_nx, onTurn_nx, onTurn_ct, onTurn_rt, lay, layN, List.map_cons, List.map_nil, List.getElem?_cons_zero, List.getElem?_cons_succ, Nat.sub_self, List.replicate_zero, List.replicate_succ, List.append_nil, List.cons_append, List.nil_append, List.set_cons_zero, List.set_cons_succ, Nat.reduceSub, to_ok, wipeP, true_and, glob0, glob1, glob2, glob3, glob4, glob5, glob6, glob7, glob8, glob9]
  refine to_mono (above_ok h hw) fun v s1 ⟨f1, k, e, hk⟩ => ?_
  subst e
  have hkl : k < X.length := by have := hk.lt; omega
  have hm : X[k] ∈ X := List.getElem_mem hkl
  have e1 : (X.map row)[k]? = some (row X[k]) := by simp [List.getElem?_eq_getElem hkl]
  simp only [w_int, w_bl, w_non, w_no, w_str, w_nil, w_one, w_var, toVar_some, w_glob, toGl_some, toTup_tup, toBl_true, toBl_false, w_cons, w_tup, w_lst, w_bin, w_cmp, w_chain, w_not, w_and, w_or, w_ife, toInt_int, w_neg, w_idx, w_slice, w_isi, w_call, w_blt, toSeq_tup, w_star, w_rev, onNx_nx, onNx_rt, onNx_ct, x_skip, x_seq, toSl_some, x_set, x_setC, x_par, x_ret, x_expr, x_cont, x_sif, onRt_rt, onRt_nx, onTurn_nx, onTurn_ct, onTurn_rt, lay, layN, List.map_cons, List.map_nil, List.getElem?_cons_zero, List.getElem?_cons_succ, Nat.sub_self, List.replicate_zero, List.replicate_succ, List.append_nil, List.cons_append, List.nil_append, List.set_cons_zero, List.set_cons_succ, Nat.reduceSub, to_ok, wipeP, true_and, glob0, glob1, glob2, glob3, glob4, glob5, glob6, glob7, glob8, glob9, lad, idx_tup e1, row]
  refine (slopes_ok h).to fun i s2 f2 hA hi => ?_
  have hks : k < (slopes X).length := by rw [slopes_len]; have := hk.lt; omega
  have e2 : ((slopes X).map q)[k]? = some (q (slopes X)[k]) := by simp [List.getElem?_eq_getElem hks]
  have hsw : W 3862 (slopes X)[k] := by
    have : (slopes X)[k] ∈ slopes X := List.getElem_mem hks
    obtain ⟨m, hm, e⟩ := List.mem_map.mp this
    rw [← e]
    exact h.slope_w hm
  have w1 := h.w _ hm
  simp only [w_int, w_bl, w_non, w_no, w_str, w_nil, w_one, w_var, toVar_some, w_glob, toGl_some, toTup_tup, toBl_true, toBl_false, w_cons, w_tup, w_lst, w_bin, w_cmp, w_chain, w_not, w_and, w_or, w_ife, toInt_int, w_neg, w_idx, w_slice, w_isi, w_call, w_blt, toSeq_tup, w_star, w_rev, onNx_nx, onNx_rt, onNx_ct, x_skip, x_seq, toSl_some, x_set, x_setC, x_par, x_ret, x_expr, x_cont, x_sif, onRt_rt, onRt_nx, onTurn_nx, onTurn_ct, onTurn_rt, lay, layN, List.map_cons, List.map_nil, List.getElem?_cons_zero, List.getElem?_cons_succ, Nat.sub_self, List.replicate_zero, List.replicate_succ, List.append_nil, List.cons_append, List.nil_append, List.set_cons_zero, List.set_cons_succ, Nat.reduceSub, to_ok, wipeP, true_and, glob0, glob1, glob2, glob3, glob4, glob5, glob6, glob7, glob8, glob9, idx_lst hA e2, sub_ok (w20 hw) (w20 w1.1), mul_ok (w20 hsw) (w20 (hw.sub w1.1)), add_ok (w20 w1.2) ((hsw.mul (hw.sub w1.1)).mono (by decide : 3862 + (30 + 30 + 1) ≤ 4000))]
  exact ⟨f1.trans f2, _, rfl, k, X[k].1, X[k].2, _, hk, by rw [List.getElem?_eq_getElem hkl], List.getElem?_eq_getElem hks, rfl⟩
theorem line_at_ok (h : Pts X) (hw : W 30 w) : (runF T (n + 6) 48 [lad X, q w] s).to fun v s' => Fr [] s s' ∧ ∃ r, v = q r ∧ lineAt X w r := by
  refine run_to d_line_at rfl ?_
  simp only [c_line_at, w_int, w_bl, w_non, w_no, w_str, w_nil, w_one, w_var, toVar_some, w_glob, toGl_some, toTup_tup, toBl_true, toBl_false, w_cons, w_tup, w_lst, w_bin, w_cmp, w_chain, w_not, w_and, w_or, w_ife, toInt_int, w_neg, w_idx, w_slice, w_isi, w_call, w_blt, toSeq_tup, w_star, w_rev, onNx_nx, onNx_rt, onNx_ct, x_skip, x_seq, toSl_some, x_set, x_setC, x_par, x_ret, x_expr, x_cont, x_sif, onRt_rt, onRt_nx, onTurn_nx, onTurn_ct, onTurn_rt, lay, layN, List.map_cons, List.map_nil, List.getElem?_cons_zero, List.getElem?_cons_succ, Nat.sub_self, List.replicate_zero, List.replicate_succ, List.append_nil, List.cons_append, List.nil_append, List.set_cons_zero, List.set_cons_succ, Nat.reduceSub, to_ok, wipeP, true_and, glob0, glob1, glob2, glob3, glob4, glob5, glob6, glob7, glob8, glob9]
  refine (needpts_ok h).to fun s1 h1 => (needfrac_ok (hw.mono (by decide))).to fun s2 h2 => ?_
  try simp only [w_int, w_bl, w_non, w_no, w_str, w_nil, w_one, w_var, toVar_some, w_glob, toGl_some, toTup_tup, toBl_true, toBl_false, w_cons, w_tup, w_lst, w_bin, w_cmp, w_chain, w_not, w_and, w_or, w_ife, toInt_int, w_neg, w_idx, w_slice, w_isi, w_call, w_blt, toSeq_tup, w_star, w_rev, onNx_nx, onNx_rt, onNx_ct, x_skip, x_seq, toSl_some, x_set, x_setC, x_par, x_ret, x_expr, x_cont, x_sif, onRt_rt, onRt_nx, onTurn_nx, onTurn_ct, onTurn_rt, lay, layN, List.map_cons, List.map_nil, List.getElem?_cons_zero, List.getElem?_cons_succ, Nat.sub_self, List.replicate_zero, List.replicate_succ, List.append_nil, List.cons_append, List.nil_append, List.set_cons_zero, List.set_cons_succ, Nat.reduceSub, to_ok, wipeP, true_and, glob0, glob1, glob2, glob3, glob4, glob5, glob6, glob7, glob8, glob9]
  refine to_mono (line_in_ok h hw) fun v s3 ⟨h3, r, e⟩ => ?_
  exact ⟨(h1.trans h2).trans h3, r, e⟩
end
end K69

namespace K69
open PySem FI GI
section
variable {n : Nat} {a b w g r : Rat} {s : Sto} {p : Rat × Rat} {L X : List (Rat × Rat)} {Q : PV → Sto → Prop} {sc : List Pc}
structure Ends (L : List (Rat × Rat)) (r lo hi : Rat) : Prop where
  wl : W 20 lo
  wh : W 20 hi
  lr : lo ≤ r
  rh : r ≤ hi
  all : ∀ p ∈ L, lo ≤ p.1 ∧ p.1 ≤ hi
  lm : lo ∈ r :: L.map (·.1)
  hm : hi ∈ r :: L.map (·.1)
def xsOf (L : List (Rat × Rat)) (lo hi : Rat) : List Rat := (lo - 1) :: (L.map (·.1) ++ [hi + 1])
def pts (L : List (Rat × Rat)) (r lo hi : Rat) : List (Rat × Rat) := (xsOf L lo hi).map fun x => (x, En L r x x)
theorem xs_w {lo hi : Rat} (h : Lad L) (e : Ends L r lo hi) : ∀ x ∈ xsOf L lo hi, W 30 x := fun x hx => by
  simp only [xsOf, List.mem_cons, List.mem_append, List.mem_map, List.not_mem_nil, or_false] at hx
  rcases hx with rfl | ⟨p, hp, rfl⟩ | rfl
  · exact (e.wl.sub W_one).mono (by decide)
  · exact (h.w p hp).1.mono (by decide)
  · exact (e.wh.add W_one).mono (by decide)
theorem points_of_ok (h : Lad L) (hr : W 20 r) : (runF T (n + 8) 50 [lad L, q r] s).to fun v s' => Fr [] s s' ∧ ∃ lo hi, Ends L r lo hi ∧ v = lad (pts L r lo hi) := by
  refine run_to d_points_of rfl ?_
  have hl := h.len
  simp only [c_points_of, w_int, w_bl, w_non, w_no, w_str, w_nil, w_one, w_var, toVar_some, w_glob, toGl_some, toTup_tup, toBl_true, toBl_false, w_cons, w_tup, w_lst, w_bin, w_cmp, w_chain, w_not, w_and, w_or, w_ife, toInt_int, w_neg, w_idx, w_slice, w_isi, w_call, w_blt, toSeq_tup, w_star, w_rev, onNx_nx, onNx_rt, onNx_ct, x_skip, x_seq, toSl_some, x_set, x_setC, x_par, x_ret, x_expr, x_cont, x_sif, onRt_rt, onRt_nx, onTurn_nx, onTurn_ct, onTurn_rt, lay, layN, List.map_cons, List.map_nil, List.getElem?_cons_zero, List.getElem?_cons_succ, Nat.sub_self, List.replicate_zero, List.replicate_succ, List.append_nil, List.cons_append, List.nil_append, List.set_cons_zero, List.set_cons_succ, Nat.reduceSub, to_ok, wipeP, true_and, glob0, glob1, glob2, glob3, glob4, glob5, glob6, glob7, glob8, glob9]
  refine (needlad_ok h).to fun s1 h1 => (needfrac_ok (hr.mono (by decide))).to fun s2 h2 => ?_
  try simp only [w_int, w_bl, w_non, w_no, w_str, w_nil, w_one, w_var, toVar_some, w_glob, toGl_some, toTup_tup, toBl_true, toBl_false, w_cons, w_tup, w_lst, w_bin, w_cmp, w_chain, w_not, w_and, w_or, w_ife, toInt_int, w_neg, w_idx, w_slice, w_isi, w_call, w_blt, toSeq_tup, w_star, w_rev, onNx_nx, onNx_rt, onNx_ct, x_skip, x_seq, toSl_some, x_set, x_setC, x_par, x_ret, x_expr, x_cont, x_sif, onRt_rt, onRt_nx, onTurn_nx, onTurn_ct, onTurn_rt, lay, layN, List.map_cons, List.map_nil, List.getElem?_cons_zero, List.getElem?_cons_succ, Nat.sub_self, List.replicate_zero, List.replicate_succ, List.append_nil, List.cons_append, List.nil_append, List.set_cons_zero, List.set_cons_succ, Nat.reduceSub, to_ok, wipeP, true_and, glob0, glob1, glob2, glob3, glob4, glob5, glob6, glob7, glob8, glob9]
  refine comp_pure L row (fun p => some (q p.1)) ?_ (by simp [cap]; omega) (fun x hx s' hs => ?_) fun i s3 hf3 hA hi => ?_
  · simp only [j_seq, w_int, w_bl, w_non, w_no, w_str, w_nil, w_one, w_var, toVar_some, w_glob, toGl_some, toTup_tup, toBl_true, toBl_false, w_cons, w_tup, w_lst, w_bin, w_cmp, w_chain, w_not, w_and, w_or, w_ife, toInt_int, w_neg, w_idx, w_slice, w_isi, w_call, w_blt, toSeq_tup, w_star, w_rev, onNx_nx, onNx_rt, onNx_ct, x_skip, x_seq, toSl_some, x_set, x_setC, x_par, x_ret, x_expr, x_cont, x_sif, onRt_rt, onRt_nx, onTurn_nx, onTurn_ct, onTurn_rt, lay, layN, List.map_cons, List.map_nil, List.getElem?_cons_zero, List.getElem?_cons_succ, Nat.sub_self, List.replicate_zero, List.replicate_succ, List.append_nil, List.cons_append, List.nil_append, List.set_cons_zero, List.set_cons_succ, Nat.reduceSub, to_ok, wipeP, true_and, glob0, glob1, glob2, glob3, glob4, glob5, glob6, glob7, glob8, glob9, lad]
    exact ⟨by simp [It.most], sees_t, .refl⟩
  · simp only [Turn, w_int, w_bl, w_non, w_no, w_str, w_nil, w_one, w_var, toVar_some, w_glob, toGl_some, toTup_tup, toBl_true, toBl_false, w_cons, w_tup, w_lst, w_bin, w_cmp, w_chain, w_not, w_and, w_or, w_ife, toInt_int, w_neg, w_idx, w_slice, w_isi, w_call, w_blt, toSeq_tup, w_star, w_rev, onNx_nx, onNx_rt, onNx_ct, x_skip, x_seq, toSl_some, x_set, x_setC, x_par, x_ret, x_expr, x_cont, x_sif, onRt_rt, onRt_nx, onTurn_nx, onTurn_ct, onTurn_rt, lay, layN, List.map_cons, List.map_nil, List.getElem?_cons_zero, List.getElem?_cons_succ, Nat.sub_self, List.replicate_zero, List.replicate_succ, List.append_nil, List.cons_append, List.nil_append, List.set_cons_zero, List.set_cons_succ, Nat.reduceSub, to_ok, wipeP, true_and, glob0, glob1, glob2, glob3, glob4, glob5, glob6, glob7, glob8, glob9, row]
    exact .refl
  · rw [fm_some] at hA
    have f3 : Fr [] s s3 := (h1.trans h2).trans hf3
    try simp only [w_int, w_bl, w_non, w_no, w_str, w_nil, w_one, w_var, toVar_some, w_glob, toGl_some, toTup_tup, toBl_true, toBl_false, w_cons, w_tup, w_lst, w_bin, w_cmp, w_chain, w_not, w_and, w_or, w_ife, toInt_int, w_neg, w_idx, w_slice, w_isi, w_call, w_blt, toSeq_tup, w_star, w_rev, onNx_nx, onNx_rt, onNx_ct, x_skip, x_seq, toSl_some, x_set, x_setC, x_par, x_ret, x_expr, x_cont, x_sif, onRt_rt, onRt_nx, onTurn_nx, onTurn_ct, onTurn_rt, lay, layN, List.map_cons, List.map_nil, List.getElem?_cons_zero, List.getElem?_cons_succ, Nat.sub_self, List.replicate_zero, List.replicate_succ, List.append_nil, List.cons_append, List.nil_append, List.set_cons_zero, List.set_cons_succ, Nat.reduceSub, to_ok, wipeP, true_and, glob0, glob1, glob2, glob3, glob4, glob5, glob6, glob7, glob8, glob9]
    have hA' : At s3 i (L.map fun p => q p.1) := hA
    refine x_for L (fun p => q p.1) (fun s' => At s' i (L.map fun p => q p.1)) (fun k σ s' => s' = s3 ∧ ∃ lo hi o, σ = [some (lad L), some (q r), some (.lst i), some (q lo), some (q hi), o, none, none, none] ∧ Ends (L.take k) r lo hi) ?_ (fun k σ s' h => h.1 ▸ hA) (fun k x σ s' hx ⟨es, lo, hi', o, eσ, he⟩ => ?_) (fun σ s' ⟨es, lo, hi', o, eσ, he⟩ => ?_)
    · simp only [j_seq, w_int, w_bl, w_non, w_no, w_str, w_nil, w_one, w_var, toVar_some, w_glob, toGl_some, toTup_tup, toBl_true, toBl_false, w_cons, w_tup, w_lst, w_bin, w_cmp, w_chain, w_not, w_and, w_or, w_ife, toInt_int, w_neg, w_idx, w_slice, w_isi, w_call, w_blt, toSeq_tup, w_star, w_rev, onNx_nx, onNx_rt, onNx_ct, x_skip, x_seq, toSl_some, x_set, x_setC, x_par, x_ret, x_expr, x_cont, x_sif, onRt_rt, onRt_nx, onTurn_nx, onTurn_ct, onTurn_rt, lay, layN, List.map_cons, List.map_nil, List.getElem?_cons_zero, List.getElem?_cons_succ, Nat.sub_self, List.replicate_zero, List.replicate_succ, List.append_nil, List.cons_append, List.nil_append, List.set_cons_zero, List.set_cons_succ, Nat.reduceSub, to_ok, wipeP, true_and, glob0, glob1, glob2, glob3, glob4, glob5, glob6, glob7, glob8, glob9]
      refine ⟨_, hA.getL, by simp [It.most, hA.getL], sees_l fun s' h => h, r, r, none, rfl, hr, hr, by grind, by grind, fun p hp => by simp at hp, List.mem_cons_self, List.mem_cons_self⟩
    · subst es; subst eσ
      have hx1 := h.w x (List.mem_of_getElem? hx)
      have key : ∀ {lo' hi'' : Rat}, W 20 lo' → W 20 hi'' → lo' ≤ lo → hi' ≤ hi'' → lo' ≤ x.1 → x.1 ≤ hi'' → lo' = lo ∨ lo' = x.1 → hi'' = hi' ∨ hi'' = x.1 → Ends (L.take (k + 1)) r lo' hi'' := fun w1 w2 l1 l2 l3 l4 m1 m2 => by
        have e1 := he.lr
        have e2 := he.rh
        have e3 : (L.take (k + 1)).map (·.1) = (L.take k).map (·.1) ++ [x.1] := by rw [List.take_add_one, hx, Option.toList_some, List.map_append]; rfl
        have up : ∀ {y : Rat}, y ∈ r :: (L.take k).map (·.1) → y ∈ r :: (L.take (k + 1)).map (·.1) := fun {y} hy => by
          rw [e3]
          rcases List.mem_cons.mp hy with rfl | hy
          · exact List.mem_cons_self
          · exact List.mem_cons_of_mem _ (List.mem_append_left _ hy)
        have ux : x.1 ∈ r :: (L.take (k + 1)).map (·.1) := by
          rw [e3]
          exact List.mem_cons_of_mem _ (List.mem_append_right _ (List.mem_singleton.mpr rfl))
        refine ⟨w1, w2, by grind, by grind, fun p hp => ?_, ?_, ?_⟩
        rotate_left
        · rcases m1 with rfl | rfl
          · exact up he.lm
          · exact ux
        · rcases m2 with rfl | rfl
          · exact up he.hm
          · exact ux
        rw [List.take_add_one, hx, Option.toList_some] at hp
        rcases List.mem_append.mp hp with hp | hp
        · have := he.all p hp
          constructor <;> grind
        · rw [List.mem_singleton.mp hp]
          exact ⟨l3, l4⟩
      have l0 := he.lr
      have r0 := he.rh
      simp only [w_int, w_bl, w_non, w_no, w_str, w_nil, w_one, w_var, toVar_some, w_glob, toGl_some, toTup_tup, toBl_true, toBl_false, w_cons, w_tup, w_lst, w_bin, w_cmp, w_chain, w_not, w_and, w_or, w_ife, toInt_int, w_neg, w_idx, w_slice, w_isi, w_call, w_blt, toSeq_tup, w_star, w_rev, onNx_nx, onNx_rt, onNx_ct, x_skip, x_seq, toSl_some, x_set, x_setC, x_par, x_ret, x_expr, x_cont, x_sif, onRt_rt, onRt_nx, onTurn_nx, onTurn_ct, onTurn_rt, lay, layN, List.map_cons, List.map_nil, List.getElem?_cons_zero, List.getElem?_cons_succ, Nat.sub_self, List.replicate_zero, List.replicate_succ, List.append_nil, List.cons_append, List.nil_append, List.set_cons_zero, List.set_cons_succ, Nat.reduceSub, to_ok, wipeP, true_and, glob0, glob1, glob2, glob3, glob4, glob5, glob6, glob7, glob8, glob9, under_ok (w20 hx1.1) (w20 he.wl)]
      by_cases c1 : x.1 < lo
      · simp only [c1, decide_true, w_int, w_bl, w_non, w_no, w_str, w_nil, w_one, w_var, toVar_some, w_glob, toGl_some, toTup_tup, toBl_true, toBl_false, w_cons, w_tup, w_lst, w_bin, w_cmp, w_chain, w_not, w_and, w_or, w_ife, toInt_int, w_neg, w_idx, w_slice, w_isi, w_call, w_blt, toSeq_tup, w_star, w_rev, onNx_nx, onNx_rt, onNx_ct, x_skip, x_seq, toSl_some, x_set, x_setC, x_par, x_ret, x_expr, x_cont, x_sif, onRt_rt, onRt_nx, onTurn_nx, onTurn_ct, onTurn_rt, lay, layN, List.map_cons, List.map_nil, List.getElem?_cons_zero, List.getElem?_cons_succ, Nat.sub_self, List.replicate_zero, List.replicate_succ, List.append_nil, List.cons_append, List.nil_append, List.set_cons_zero, List.set_cons_succ, Nat.reduceSub, to_ok, wipeP, true_and, glob0, glob1, glob2, glob3, glob4, glob5, glob6, glob7, glob8, glob9, under_ok (w20 he.wh) (w20 hx1.1)]
        by_cases c2 : hi' < x.1
        · simp only [c2, decide_true, w_int, w_bl, w_non, w_no, w_str, w_nil, w_one, w_var, toVar_some, w_glob, toGl_some, toTup_tup, toBl_true, toBl_false, w_cons, w_tup, w_lst, w_bin, w_cmp, w_chain, w_not, w_and, w_or, w_ife, toInt_int, w_neg, w_idx, w_slice, w_isi, w_call, w_blt, toSeq_tup, w_star, w_rev, onNx_nx, onNx_rt, onNx_ct, x_skip, x_seq, toSl_some, x_set, x_setC, x_par, x_ret, x_expr, x_cont, x_sif, onRt_rt, onRt_nx, onTurn_nx, onTurn_ct, onTurn_rt, lay, layN, List.map_cons, List.map_nil, List.getElem?_cons_zero, List.getElem?_cons_succ, Nat.sub_self, List.replicate_zero, List.replicate_succ, List.append_nil, List.cons_append, List.nil_append, List.set_cons_zero, List.set_cons_succ, Nat.reduceSub, to_ok, wipeP, true_and, glob0, glob1, glob2, glob3, glob4, glob5, glob6, glob7, glob8, glob9]
          exact ⟨_, _, _, rfl, key hx1.1 hx1.1 (by grind) (by grind) (by grind) (by grind) (.inr rfl) (.inr rfl)⟩
        · simp only [c2, decide_false, w_int, w_bl, w_non, w_no, w_str, w_nil, w_one, w_var, toVar_some, w_glob, toGl_some, toTup_tup, toBl_true, toBl_false, w_cons, w_tup, w_lst, w_bin, w_cmp, w_chain, w_not, w_and, w_or, w_ife, toInt_int, w_neg, w_idx, w_slice, w_isi, w_call, w_blt, toSeq_tup, w_star, w_rev, onNx_nx, onNx_rt, onNx_ct, x_skip, x_seq, toSl_some, x_set, x_setC, x_par, x_ret, x_expr, x_cont, x_sif, onRt_rt, onRt_nx, onTurn_nx, onTurn_ct, onTurn_rt, lay, layN, List.map_cons, List.map_nil, List.getElem?_cons_zero, List.getElem?_cons_succ, Nat.sub_self, List.replicate_zero, List.replicate_succ, List.append_nil, List.cons_append, List.nil_append, List.set_cons_zero, List.set_cons_succ, Nat.reduceSub, to_ok, wipeP, true_and, glob0, glob1, glob2, glob3, glob4, glob5, glob6, glob7, glob8, glob9]
          exact ⟨_, _, _, rfl, key hx1.1 he.wh (by grind) (by grind) (by grind) (by grind) (.inr rfl) (.inl rfl)⟩
      · simp only [c1, decide_false, w_int, w_bl, w_non, w_no, w_str, w_nil, w_one, w_var, toVar_some, w_glob, toGl_some, toTup_tup, toBl_true, toBl_false, w_cons, w_tup, w_lst, w_bin, w_cmp, w_chain, w_not, w_and, w_or, w_ife, toInt_int, w_neg, w_idx, w_slice, w_isi, w_call, w_blt, toSeq_tup, w_star, w_rev, onNx_nx, onNx_rt, onNx_ct, x_skip, x_seq, toSl_some, x_set, x_setC, x_par, x_ret, x_expr, x_cont, x_sif, onRt_rt, onRt_nx, onTurn_nx, onTurn_ct, onTurn_rt, lay, layN, List.map_cons, List.map_nil, List.getElem?_cons_zero, List.getElem?_cons_succ, Nat.sub_self, List.replicate_zero, List.replicate_succ, List.append_nil, List.cons_append, List.nil_append, List.set_cons_zero, List.set_cons_succ, Nat.reduceSub, to_ok, wipeP, true_and, glob0, glob1, glob2, glob3, glob4, glob5, glob6, glob7, glob8, glob9, under_ok (w20 he.wh) (w20 hx1.1)]
        by_cases c2 : hi' < x.1
        · simp only [c2, decide_true, w_int, w_bl, w_non, w_no, w_str, w_nil, w_one, w_var, toVar_some, w_glob, toGl_some, toTup_tup, toBl_true, toBl_false, w_cons, w_tup, w_lst, w_bin, w_cmp, w_chain, w_not, w_and, w_or, w_ife, toInt_int, w_neg, w_idx, w_slice, w_isi, w_call, w_blt, toSeq_tup, w_star, w_rev, onNx_nx, onNx_rt, onNx_ct, x_skip, x_seq, toSl_some, x_set, x_setC, x_par, x_ret, x_expr, x_cont, x_sif, onRt_rt, onRt_nx, onTurn_nx, onTurn_ct, onTurn_rt, lay, layN, List.map_cons, List.map_nil, List.getElem?_cons_zero, List.getElem?_cons_succ, Nat.sub_self, List.replicate_zero, List.replicate_succ, List.append_nil, List.cons_append, List.nil_append, List.set_cons_zero, List.set_cons_succ, Nat.reduceSub, to_ok, wipeP, true_and, glob0, glob1, glob2, glob3, glob4, glob5, glob6, glob7, glob8, glob9]
          exact ⟨_, _, _, rfl, key he.wl hx1.1 (by grind) (by grind) (by grind) (by grind) (.inl rfl) (.inr rfl)⟩
        · simp only [c2, decide_false, w_int, w_bl, w_non, w_no, w_str, w_nil, w_one, w_var, toVar_some, w_glob, toGl_some, toTup_tup, toBl_true, toBl_false, w_cons, w_tup, w_lst, w_bin, w_cmp, w_chain, w_not, w_and, w_or, w_ife, toInt_int, w_neg, w_idx, w_slice, w_isi, w_call, w_blt, toSeq_tup, w_star, w_rev, onNx_nx, onNx_rt, onNx_ct, x_skip, x_seq, toSl_some, x_set, x_setC, x_par, x_ret, x_expr, x_cont, x_sif, onRt_rt, onRt_nx, onTurn_nx, onTurn_ct, onTurn_rt, lay, layN, List.map_cons, List.map_nil, List.getElem?_cons_zero, List.getElem?_cons_succ, Nat.sub_self, List.replicate_zero, List.replicate_succ, List.append_nil, List.cons_append, List.nil_append, List.set_cons_zero, List.set_cons_succ, Nat.reduceSub, to_ok, wipeP, true_and, glob0, glob1, glob2, glob3, glob4, glob5, glob6, glob7, glob8, glob9]
          exact ⟨_, _, _, rfl, key he.wl he.wh (by grind) (by grind) (by grind) (by grind) (.inl rfl) (.inl rfl)⟩
    · subst es; subst eσ
      rw [List.take_length] at he
      simp only [w_int, w_bl, w_non, w_no, w_str, w_nil, w_one, w_var, toVar_some, w_glob, toGl_some, toTup_tup, toBl_true, toBl_false, w_cons, w_tup, w_lst, w_bin, w_cmp, w_chain, w_not, w_and, w_or, w_ife, toInt_int, w_neg, w_idx, w_slice, w_isi, w_call, w_blt, toSeq_tup, w_star, w_rev, onNx_nx, onNx_rt, onNx_ct, x_skip, x_seq, toSl_some, x_set, x_setC, x_par, x_ret, x_expr, x_cont, x_sif, onRt_rt, onRt_nx, onTurn_nx, onTurn_ct, onTurn_rt, lay, layN, List.map_cons, List.map_nil, List.getElem?_cons_zero, List.getElem?_cons_succ, Nat.sub_self, List.replicate_zero, List.replicate_succ, List.append_nil, List.cons_append, List.nil_append, List.set_cons_zero, List.set_cons_succ, Nat.reduceSub, to_ok, wipeP, true_and, glob0, glob1, glob2, glob3, glob4, glob5, glob6, glob7, glob8, glob9, sub_ok (w20 he.wl) (w20 W_one), toSeq_lst hA, add_ok (w20 he.wh) (w20 W_one)]
      have e1 : q (lo - 1) :: (L.map (fun p => q p.1) ++ [q (hi' + 1)]) = (xsOf L lo hi').map q := by simp [xsOf]
      rw [e1]
      refine ⟨by simp [cap, xsOf]; omega, ?_⟩
      have hW : At (s'.new (.lst ((xsOf L lo hi').map q))) s'.n ((xsOf L lo hi').map q) := .new
      have f4 : Fr [] s (s'.new (.lst ((xsOf L lo hi').map q))) := f3.trans .new
      generalize s'.new (.lst ((xsOf L lo hi').map q)) = s5 at hW f4 ⊢
      refine comp_pure (xsOf L lo hi') q (fun x => some (row (x, En L r x x))) ?_ (by simp [cap, xsOf]; omega) (fun x hx s6 hs => ?_) fun i6 s6 hf6 hA6 hi6 => ?_
      · simp only [j_seq, w_int, w_bl, w_non, w_no, w_str, w_nil, w_one, w_var, toVar_some, w_glob, toGl_some, toTup_tup, toBl_true, toBl_false, w_cons, w_tup, w_lst, w_bin, w_cmp, w_chain, w_not, w_and, w_or, w_ife, toInt_int, w_neg, w_idx, w_slice, w_isi, w_call, w_blt, toSeq_tup, w_star, w_rev, onNx_nx, onNx_rt, onNx_ct, x_skip, x_seq, toSl_some, x_set, x_setC, x_par, x_ret, x_expr, x_cont, x_sif, onRt_rt, onRt_nx, onTurn_nx, onTurn_ct, onTurn_rt, lay, layN, List.map_cons, List.map_nil, List.getElem?_cons_zero, List.getElem?_cons_succ, Nat.sub_self, List.replicate_zero, List.replicate_succ, List.append_nil, List.cons_append, List.nil_append, List.set_cons_zero, List.set_cons_succ, Nat.reduceSub, to_ok, wipeP, true_and, glob0, glob1, glob2, glob3, glob4, glob5, glob6, glob7, glob8, glob9]
        exact ⟨_, hW.getL, by simp [It.most, hW.getL], sees_l fun s'' hs'' => hW.fr0 hs'', .refl⟩
      · have hx1 := xs_w h he x hx
        simp only [Turn, w_int, w_bl, w_non, w_no, w_str, w_nil, w_one, w_var, toVar_some, w_glob, toGl_some, toTup_tup, toBl_true, toBl_false, w_cons, w_tup, w_lst, w_bin, w_cmp, w_chain, w_not, w_and, w_or, w_ife, toInt_int, w_neg, w_idx, w_slice, w_isi, w_call, w_blt, toSeq_tup, w_star, w_rev, onNx_nx, onNx_rt, onNx_ct, x_skip, x_seq, toSl_some, x_set, x_setC, x_par, x_ret, x_expr, x_cont, x_sif, onRt_rt, onRt_nx, onTurn_nx, onTurn_ct, onTurn_rt, lay, layN, List.map_cons, List.map_nil, List.getElem?_cons_zero, List.getElem?_cons_succ, Nat.sub_self, List.replicate_zero, List.replicate_succ, List.append_nil, List.cons_append, List.nil_append, List.set_cons_zero, List.set_cons_succ, Nat.reduceSub, to_ok, wipeP, true_and, glob0, glob1, glob2, glob3, glob4, glob5, glob6, glob7, glob8, glob9]
        refine (earned_in_ok h (hr.mono (by decide)) hx1 hx1).to fun s7 h7 => ?_
        try simp only [w_int, w_bl, w_non, w_no, w_str, w_nil, w_one, w_var, toVar_some, w_glob, toGl_some, toTup_tup, toBl_true, toBl_false, w_cons, w_tup, w_lst, w_bin, w_cmp, w_chain, w_not, w_and, w_or, w_ife, toInt_int, w_neg, w_idx, w_slice, w_isi, w_call, w_blt, toSeq_tup, w_star, w_rev, onNx_nx, onNx_rt, onNx_ct, x_skip, x_seq, toSl_some, x_set, x_setC, x_par, x_ret, x_expr, x_cont, x_sif, onRt_rt, onRt_nx, onTurn_nx, onTurn_ct, onTurn_rt, lay, layN, List.map_cons, List.map_nil, List.getElem?_cons_zero, List.getElem?_cons_succ, Nat.sub_self, List.replicate_zero, List.replicate_succ, List.append_nil, List.cons_append, List.nil_append, List.set_cons_zero, List.set_cons_succ, Nat.reduceSub, to_ok, wipeP, true_and, glob0, glob1, glob2, glob3, glob4, glob5, glob6, glob7, glob8, glob9]
        exact ⟨by simp [cap], rfl, h7⟩
      · rw [fm_some] at hA6
        try simp only [w_int, w_bl, w_non, w_no, w_str, w_nil, w_one, w_var, toVar_some, w_glob, toGl_some, toTup_tup, toBl_true, toBl_false, w_cons, w_tup, w_lst, w_bin, w_cmp, w_chain, w_not, w_and, w_or, w_ife, toInt_int, w_neg, w_idx, w_slice, w_isi, w_call, w_blt, toSeq_tup, w_star, w_rev, onNx_nx, onNx_rt, onNx_ct, x_skip, x_seq, toSl_some, x_set, x_setC, x_par, x_ret, x_expr, x_cont, x_sif, onRt_rt, onRt_nx, onTurn_nx, onTurn_ct, onTurn_rt, lay, layN, List.map_cons, List.map_nil, List.getElem?_cons_zero, List.getElem?_cons_succ, Nat.sub_self, List.replicate_zero, List.replicate_succ, List.append_nil, List.cons_append, List.nil_append, List.set_cons_zero, List.set_cons_succ, Nat.reduceSub, to_ok, wipeP, true_and, glob0, glob1, glob2, glob3, glob4, glob5, glob6, glob7, glob8, glob9]
        rw [tuple_lst hA6]
        refine ⟨f4.trans hf6, lo, hi', he, ?_⟩
        simp [lad, pts]
/-! ### the ladder back -/
def inner (X : List (Rat × Rat)) : List (Rat × Rat) := (X.drop 1).take (X.length - 1 - 1)
def trip (X : List (Rat × Rat)) : List ((Rat × Rat) × Rat × Rat) := (inner X).zip ((slopes X).zip ((slopes X).drop 1))
def stepOf (t : (Rat × Rat) × Rat × Rat) : Rat × Rat := (t.1.1, t.2.2 - t.2.1)
def back (l : List ((Rat × Rat) × Rat × Rat)) : List (Rat × Rat) := (l.filter fun t => !decide (t.2.1 = t.2.2)).map stepOf
theorem j_zip3 {T : Tab} {call : Nat → List PV → Sto → Res PV} {σ : Sl} {a : E} {K : It → Sto → Prop} (h : (ev T call a σ s).to fun x s1 => ∃ u v w j, x = .tup [u, v, w] ∧ zip3 s1 u v w = some j ∧ K j s1) : (evI T call (.izip3 a) σ s).to K := by
  simp only [evI, to_bind]
  refine to_mono h fun x s1 ⟨u, v, w, j, e, e2, hk⟩ => ?_
  subst e
  simp only [e2, to_ok]
  exact hk
theorem zip3_tll {i j : Nat} {ws xs ys : List PV} (hi : At s i xs) (hj : At s j ys) : zip3 s (.tup ws) (.lst i) (.lst j) = some (.zp3 (.t ws) (.l i) (.l j)) := by
  simp only [zip3, seqIt, hi.getL, hj.getL]
theorem slice_in {xs : List PV} (h : 2 ≤ xs.length) : evSlice (.tup xs) (some 1) (some (-1)) s = .ok (.tup ((xs.drop 1).take (xs.length - 1 - 1))) s := by
  have e : HT.sIx xs.length 0 (some 1) = 1 := by
    have := HT.sIx_nat xs.length 0 1
    rw [Nat.min_eq_left (by omega)] at this
    exact this
  have e2 : HT.sIx xs.length xs.length (some (-1)) = xs.length - 1 := by
    simp only [HT.sIx]
    rw [if_pos (by decide)]
    omega
  simp only [evSlice, cutP, e, e2]
theorem Pts.slopes_w (h : Pts X) {t : Rat} (ht : t ∈ slopes X) : W 3862 t := by
  obtain ⟨m, hm, e⟩ := List.mem_map.mp ht
  rw [← e]
  exact h.slope_w hm
/-- the part that both ways share -/
theorem back_any (h : Pts X) (hr : W 30 r) (hany : ((slopes X).zip ((slopes X).drop 1)).any (fun m => decide (m.2 < m.1)) = true) : Gives (runF T (n + 6) 49 [lad X, q r] s) s .non := by
  refine run_to d_ladder_back rfl ?_
  have hlo := h.lo
  have hhi := h.hi
  simp only [c_ladder_back, w_int, w_bl, w_non, w_no, w_str, w_nil, w_one, w_var, toVar_some, w_glob, toGl_some, toTup_tup, toBl_true, toBl_false, w_cons, w_tup, w_lst, w_bin, w_cmp, w_chain, w_not, w_and, w_or, w_ife, toInt_int, w_neg, w_idx, w_slice, w_isi, w_call, w_blt, toSeq_tup, w_star, w_rev, onNx_nx, onNx_rt, onNx_ct, x_skip, x_seq, toSl_some, x_set, x_setC, x_par, x_ret, x_expr, x_cont, x_sif, onRt_rt, onRt_nx, onTurn_nx, onTurn_ct, onTurn_rt, lay, layN, List.map_cons, List.map_nil, List.getElem?_cons_zero, List.getElem?_cons_succ, Nat.sub_self, List.replicate_zero, List.replicate_succ, List.append_nil, List.cons_append, List.nil_append, List.set_cons_zero, List.set_cons_succ, Nat.reduceSub, to_ok, wipeP, true_and, glob0, glob1, glob2, glob3, glob4, glob5, glob6, glob7, glob8, glob9]
  refine (needpts_ok h).to fun s1 h1 => (needfrac_ok (hr.mono (by decide))).to fun s2 h2 => ?_
  try simp only [w_int, w_bl, w_non, w_no, w_str, w_nil, w_one, w_var, toVar_some, w_glob, toGl_some, toTup_tup, toBl_true, toBl_false, w_cons, w_tup, w_lst, w_bin, w_cmp, w_chain, w_not, w_and, w_or, w_ife, toInt_int, w_neg, w_idx, w_slice, w_isi, w_call, w_blt, toSeq_tup, w_star, w_rev, onNx_nx, onNx_rt, onNx_ct, x_skip, x_seq, toSl_some, x_set, x_setC, x_par, x_ret, x_expr, x_cont, x_sif, onRt_rt, onRt_nx, onTurn_nx, onTurn_ct, onTurn_rt, lay, layN, List.map_cons, List.map_nil, List.getElem?_cons_zero, List.getElem?_cons_succ, Nat.sub_self, List.replicate_zero, List.replicate_succ, List.append_nil, List.cons_append, List.nil_append, List.set_cons_zero, List.set_cons_succ, Nat.reduceSub, to_ok, wipeP, true_and, glob0, glob1, glob2, glob3, glob4, glob5, glob6, glob7, glob8, glob9]
  refine (slopes_ok h).to fun i s3 h3 hA hi => ?_
  try simp only [w_int, w_bl, w_non, w_no, w_str, w_nil, w_one, w_var, toVar_some, w_glob, toGl_some, toTup_tup, toBl_true, toBl_false, w_cons, w_tup, w_lst, w_bin, w_cmp, w_chain, w_not, w_and, w_or, w_ife, toInt_int, w_neg, w_idx, w_slice, w_isi, w_call, w_blt, toSeq_tup, w_star, w_rev, onNx_nx, onNx_rt, onNx_ct, x_skip, x_seq, toSl_some, x_set, x_setC, x_par, x_ret, x_expr, x_cont, x_sif, onRt_rt, onRt_nx, onTurn_nx, onTurn_ct, onTurn_rt, lay, layN, List.map_cons, List.map_nil, List.getElem?_cons_zero, List.getElem?_cons_succ, Nat.sub_self, List.replicate_zero, List.replicate_succ, List.append_nil, List.cons_append, List.nil_append, List.set_cons_zero, List.set_cons_succ, Nat.reduceSub, to_ok, wipeP, true_and, glob0, glob1, glob2, glob3, glob4, glob5, glob6, glob7, glob8, glob9]
  have hsl : (slopes X).length = X.length - 1 := slopes_len
  refine comp_pure ((slopes X).zip ((slopes X).drop 1)) (fun p => .tup [q p.1, q p.2]) (fun m => some (.bl (decide (m.2 < m.1)))) ?_ (by simp [cap]; omega) (fun x hx s' hs => ?_) fun i4 s4 hf4 hA4 hi4 => ?_
  · refine j_zip ?_
    simp only [w_int, w_bl, w_non, w_no, w_str, w_nil, w_one, w_var, toVar_some, w_glob, toGl_some, toTup_tup, toBl_true, toBl_false, w_cons, w_tup, w_lst, w_bin, w_cmp, w_chain, w_not, w_and, w_or, w_ife, toInt_int, w_neg, w_idx, w_slice, w_isi, w_call, w_blt, toSeq_tup, w_star, w_rev, onNx_nx, onNx_rt, onNx_ct, x_skip, x_seq, toSl_some, x_set, x_setC, x_par, x_ret, x_expr, x_cont, x_sif, onRt_rt, onRt_nx, onTurn_nx, onTurn_ct, onTurn_rt, lay, layN, List.map_cons, List.map_nil, List.getElem?_cons_zero, List.getElem?_cons_succ, Nat.sub_self, List.replicate_zero, List.replicate_succ, List.append_nil, List.cons_append, List.nil_append, List.set_cons_zero, List.set_cons_succ, Nat.reduceSub, to_ok, wipeP, true_and, glob0, glob1, glob2, glob3, glob4, glob5, glob6, glob7, glob8, glob9]
    refine ⟨some ((1 : Nat) : Int), none, rfl, rfl, ?_⟩
    rw [slice_from hA (by simp; omega), ← List.map_drop]
    have hA5 : At (s3.new (.lst (((slopes X).drop 1).map q))) i ((slopes X).map q) := hA.fr0 .new
    have hB5 : At (s3.new (.lst (((slopes X).drop 1).map q))) s3.n (((slopes X).drop 1).map q) := .new
    refine ⟨_, _, _, rfl, zip2_ll hA5 hB5, ?_, ?_, .new⟩
    · simp only [It.most, hA5.getL, hB5.getL]
      simp
    · exact sees_zp (a := .l i) (b := .l s3.n) (fun s' h => (hA5.fr0 h).getL) (fun s' h => (hB5.fr0 h).getL)
  · have hz := List.of_mem_zip hx
    simp only [Turn, w_int, w_bl, w_non, w_no, w_str, w_nil, w_one, w_var, toVar_some, w_glob, toGl_some, toTup_tup, toBl_true, toBl_false, w_cons, w_tup, w_lst, w_bin, w_cmp, w_chain, w_not, w_and, w_or, w_ife, toInt_int, w_neg, w_idx, w_slice, w_isi, w_call, w_blt, toSeq_tup, w_star, w_rev, onNx_nx, onNx_rt, onNx_ct, x_skip, x_seq, toSl_some, x_set, x_setC, x_par, x_ret, x_expr, x_cont, x_sif, onRt_rt, onRt_nx, onTurn_nx, onTurn_ct, onTurn_rt, lay, layN, List.map_cons, List.map_nil, List.getElem?_cons_zero, List.getElem?_cons_succ, Nat.sub_self, List.replicate_zero, List.replicate_succ, List.append_nil, List.cons_append, List.nil_append, List.set_cons_zero, List.set_cons_succ, Nat.reduceSub, to_ok, wipeP, true_and, glob0, glob1, glob2, glob3, glob4, glob5, glob6, glob7, glob8, glob9, under_ok (w20 (h.slopes_w (List.mem_of_mem_drop hz.2))) (w20 (h.slopes_w hz.1))]
    exact .refl
  · rw [fm_some] at hA4
    simp only [w_int, w_bl, w_non, w_no, w_str, w_nil, w_one, w_var, toVar_some, w_glob, toGl_some, toTup_tup, toBl_true, toBl_false, w_cons, w_tup, w_lst, w_bin, w_cmp, w_chain, w_not, w_and, w_or, w_ife, toInt_int, w_neg, w_idx, w_slice, w_isi, w_call, w_blt, toSeq_tup, w_star, w_rev, onNx_nx, onNx_rt, onNx_ct, x_skip, x_seq, toSl_some, x_set, x_setC, x_par, x_ret, x_expr, x_cont, x_sif, onRt_rt, onRt_nx, onTurn_nx, onTurn_ct, onTurn_rt, lay, layN, List.map_cons, List.map_nil, List.getElem?_cons_zero, List.getElem?_cons_succ, Nat.sub_self, List.replicate_zero, List.replicate_succ, List.append_nil, List.cons_append, List.nil_append, List.set_cons_zero, List.set_cons_succ, Nat.reduceSub, to_ok, wipeP, true_and, glob0, glob1, glob2, glob3, glob4, glob5, glob6, glob7, glob8, glob9, any_lst hA4, hany]
    exact ((h1.trans h2).trans h3).trans hf4
theorem back_ok (h : Pts X) (hr : W 30 r) (hany : ((slopes X).zip ((slopes X).drop 1)).any (fun m => decide (m.2 < m.1)) = false) (hline : ∀ v, lineAt X r v → v = 0) (hsl0 : ∀ k t, Above X r k → (slopes X)[k]? = some t → t = 0) : Gives (runF T (n + 6) 49 [lad X, q r] s) s (lad (back (trip X))) := by
  refine run_to d_ladder_back rfl ?_
  have hlo := h.lo
  have hhi := h.hi
  simp only [c_ladder_back, w_int, w_bl, w_non, w_no, w_str, w_nil, w_one, w_var, toVar_some, w_glob, toGl_some, toTup_tup, toBl_true, toBl_false, w_cons, w_tup, w_lst, w_bin, w_cmp, w_chain, w_not, w_and, w_or, w_ife, toInt_int, w_neg, w_idx, w_slice, w_isi, w_call, w_blt, toSeq_tup, w_star, w_rev, onNx_nx, onNx_rt, onNx_ct, x_skip, x_seq, toSl_some, x_set, x_setC, x_par, x_ret, x_expr, x_cont, x_sif, onRt_rt, onRt_nx, onTurn_nx, onTurn_ct, onTurn_rt, lay, layN, List.map_cons, List.map_nil, List.getElem?_cons_zero, List.getElem?_cons_succ, Nat.sub_self, List.replicate_zero, List.replicate_succ, List.append_nil, List.cons_append, List.nil_append, List.set_cons_zero, List.set_cons_succ, Nat.reduceSub, to_ok, wipeP, true_and, glob0, glob1, glob2, glob3, glob4, glob5, glob6, glob7, glob8, glob9]
  refine (needpts_ok h).to fun s1 h1 => (needfrac_ok (hr.mono (by decide))).to fun s2 h2 => ?_
  try simp only [w_int, w_bl, w_non, w_no, w_str, w_nil, w_one, w_var, toVar_some, w_glob, toGl_some, toTup_tup, toBl_true, toBl_false, w_cons, w_tup, w_lst, w_bin, w_cmp, w_chain, w_not, w_and, w_or, w_ife, toInt_int, w_neg, w_idx, w_slice, w_isi, w_call, w_blt, toSeq_tup, w_star, w_rev, onNx_nx, onNx_rt, onNx_ct, x_skip, x_seq, toSl_some, x_set, x_setC, x_par, x_ret, x_expr, x_cont, x_sif, onRt_rt, onRt_nx, onTurn_nx, onTurn_ct, onTurn_rt, lay, layN, List.map_cons, List.map_nil, List.getElem?_cons_zero, List.getElem?_cons_succ, Nat.sub_self, List.replicate_zero, List.replicate_succ, List.append_nil, List.cons_append, List.nil_append, List.set_cons_zero, List.set_cons_succ, Nat.reduceSub, to_ok, wipeP, true_and, glob0, glob1, glob2, glob3, glob4, glob5, glob6, glob7, glob8, glob9]
  refine (slopes_ok h).to fun i s3 h3 hA hi => ?_
  try simp only [w_int, w_bl, w_non, w_no, w_str, w_nil, w_one, w_var, toVar_some, w_glob, toGl_some, toTup_tup, toBl_true, toBl_false, w_cons, w_tup, w_lst, w_bin, w_cmp, w_chain, w_not, w_and, w_or, w_ife, toInt_int, w_neg, w_idx, w_slice, w_isi, w_call, w_blt, toSeq_tup, w_star, w_rev, onNx_nx, onNx_rt, onNx_ct, x_skip, x_seq, toSl_some, x_set, x_setC, x_par, x_ret, x_expr, x_cont, x_sif, onRt_rt, onRt_nx, onTurn_nx, onTurn_ct, onTurn_rt, lay, layN, List.map_cons, List.map_nil, List.getElem?_cons_zero, List.getElem?_cons_succ, Nat.sub_self, List.replicate_zero, List.replicate_succ, List.append_nil, List.cons_append, List.nil_append, List.set_cons_zero, List.set_cons_succ, Nat.reduceSub, to_ok, wipeP, true_and, glob0, glob1, glob2, glob3, glob4, glob5, glob6, glob7, glob8, glob9]
  have hsl : (slopes X).length = X.length - 1 := slopes_len
  refine comp_pure ((slopes X).zip ((slopes X).drop 1)) (fun p => .tup [q p.1, q p.2]) (fun m => some (.bl (decide (m.2 < m.1)))) ?_ (by simp [cap]; omega) (fun x hx s' hs => ?_) fun i4 s4 hf4 hA4 hi4 => ?_
  · refine j_zip ?_
    simp only [w_int, w_bl, w_non, w_no, w_str, w_nil, w_one, w_var, toVar_some, w_glob, toGl_some, toTup_tup, toBl_true, toBl_false, w_cons, w_tup, w_lst, w_bin, w_cmp, w_chain, w_not, w_and, w_or, w_ife, toInt_int, w_neg, w_idx, w_slice, w_isi, w_call, w_blt, toSeq_tup, w_star, w_rev, onNx_nx, onNx_rt, onNx_ct, x_skip, x_seq, toSl_some, x_set, x_setC, x_par, x_ret, x_expr, x_cont, x_sif, onRt_rt, onRt_nx, onTurn_nx, onTurn_ct, onTurn_rt, lay, layN, List.map_cons, List.map_nil, List.getElem?_cons_zero, List.getElem?_cons_succ, Nat.sub_self, List.replicate_zero, List.replicate_succ, List.append_nil, List.cons_append, List.nil_append, List.set_cons_zero, List.set_cons_succ, Nat.reduceSub, to_ok, wipeP, true_and, glob0, glob1, glob2, glob3, glob4, glob5, glob6, glob7, glob8, glob9]
    refine ⟨some ((1 : Nat) : Int), none, rfl, rfl, ?_⟩
    rw [slice_from hA (by simp; omega), ← List.map_drop]
    have hA5 : At (s3.new (.lst (((slopes X).drop 1).map q))) i ((slopes X).map q) := hA.fr0 .new
    have hB5 : At (s3.new (.lst (((slopes X).drop 1).map q))) s3.n (((slopes X).drop 1).map q) := .new
    refine ⟨_, _, _, rfl, zip2_ll hA5 hB5, ?_, ?_, .new⟩
    · simp only [It.most, hA5.getL, hB5.getL]
      simp
    · exact sees_zp (a := .l i) (b := .l s3.n) (fun s' h => (hA5.fr0 h).getL) (fun s' h => (hB5.fr0 h).getL)
  · have hz := List.of_mem_zip hx
    simp only [Turn, w_int, w_bl, w_non, w_no, w_str, w_nil, w_one, w_var, toVar_some, w_glob, toGl_some, toTup_tup, toBl_true, toBl_false, w_cons, w_tup, w_lst, w_bin, w_cmp, w_chain, w_not, w_and, w_or, w_ife, toInt_int, w_neg, w_idx, w_slice, w_isi, w_call, w_blt, toSeq_tup, w_star, w_rev, onNx_nx, onNx_rt, onNx_ct, x_skip, x_seq, toSl_some, x_set, x_setC, x_par, x_ret, x_expr, x_cont, x_sif, onRt_rt, onRt_nx, onTurn_nx, onTurn_ct, onTurn_rt, lay, layN, List.map_cons, List.map_nil, List.getElem?_cons_zero, List.getElem?_cons_succ, Nat.sub_self, List.replicate_zero, List.replicate_succ, List.append_nil, List.cons_append, List.nil_append, List.set_cons_zero, List.set_cons_succ, Nat.reduceSub, to_ok, wipeP, true_and, glob0, glob1, glob2, glob3, glob4, glob5, glob6, glob7, glob8, glob9, under_ok (w20 (h.slopes_w (List.mem_of_mem_drop hz.2))) (w20 (h.slopes_w hz.1))]
    exact .refl
  · rw [fm_some] at hA4
    simp only [w_int, w_bl, w_non, w_no, w_str, w_nil, w_one, w_var, toVar_some, w_glob, toGl_some, toTup_tup, toBl_true, toBl_false, w_cons, w_tup, w_lst, w_bin, w_cmp, w_chain, w_not, w_and, w_or, w_ife, toInt_int, w_neg, w_idx, w_slice, w_isi, w_call, w_blt, toSeq_tup, w_star, w_rev, onNx_nx, onNx_rt, onNx_ct, x_skip, x_seq, toSl_some, x_set, x_setC, x_par, x_ret, x_expr, x_cont, x_sif, onRt_rt, onRt_nx, onTurn_nx, onTurn_ct, onTurn_rt, lay, layN, List.map_cons, List.map_nil, List.getElem?_cons_zero, List.getElem?_cons_succ, Nat.sub_self, List.replicate_zero, List.replicate_succ, List.append_nil, List.cons_append, List.nil_append, List.set_cons_zero, List.set_cons_succ, Nat.reduceSub, to_ok, wipeP, true_and, glob0, glob1, glob2, glob3, glob4, glob5, glob6, glob7, glob8, glob9, any_lst hA4, hany]
    refine to_mono (line_in_ok h hr) fun v s5 ⟨f5, v', ev, hv⟩ => ?_
    have := hline v' hv
    subst this
    subst ev
    simp only [w_int, w_bl, w_non, w_no, w_str, w_nil, w_one, w_var, toVar_some, w_glob, toGl_some, toTup_tup, toBl_true, toBl_false, w_cons, w_tup, w_lst, w_bin, w_cmp, w_chain, w_not, w_and, w_or, w_ife, toInt_int, w_neg, w_idx, w_slice, w_isi, w_call, w_blt, toSeq_tup, w_star, w_rev, onNx_nx, onNx_rt, onNx_ct, x_skip, x_seq, toSl_some, x_set, x_setC, x_par, x_ret, x_expr, x_cont, x_sif, onRt_rt, onRt_nx, onTurn_nx, onTurn_ct, onTurn_rt, lay, layN, List.map_cons, List.map_nil, List.getElem?_cons_zero, List.getElem?_cons_succ, Nat.sub_self, List.replicate_zero, List.replicate_succ, List.append_nil, List.cons_append, List.nil_append, List.set_cons_zero, List.set_cons_succ, Nat.reduceSub, to_ok, wipeP, true_and, glob0, glob1, glob2, glob3, glob4, glob5, glob6, glob7, glob8, glob9, w_neq, decide_true, Bool.not_true]
    refine to_mono (above_ok h hr) fun v s6 ⟨f6, k, ek, hk⟩ => ?_
    subst ek
    have hks : k < (slopes X).length := by rw [slopes_len]; have := hk.lt; omega
    have h0 := hsl0 k _ hk (List.getElem?_eq_getElem hks)
    have e2 : ((slopes X).map q)[k]? = some (q 0) := by simp [List.getElem?_eq_getElem hks, h0]
    have hA6 := ((hA.fr0 hf4).fr0 f5).fr0 f6
    simp only [w_int, w_bl, w_non, w_no, w_str, w_nil, w_one, w_var, toVar_some, w_glob, toGl_some, toTup_tup, toBl_true, toBl_false, w_cons, w_tup, w_lst, w_bin, w_cmp, w_chain, w_not, w_and, w_or, w_ife, toInt_int, w_neg, w_idx, w_slice, w_isi, w_call, w_blt, toSeq_tup, w_star, w_rev, onNx_nx, onNx_rt, onNx_ct, x_skip, x_seq, toSl_some, x_set, x_setC, x_par, x_ret, x_expr, x_cont, x_sif, onRt_rt, onRt_nx, onTurn_nx, onTurn_ct, onTurn_rt, lay, layN, List.map_cons, List.map_nil, List.getElem?_cons_zero, List.getElem?_cons_succ, Nat.sub_self, List.replicate_zero, List.replicate_succ, List.append_nil, List.cons_append, List.nil_append, List.set_cons_zero, List.set_cons_succ, Nat.reduceSub, to_ok, wipeP, true_and, glob0, glob1, glob2, glob3, glob4, glob5, glob6, glob7, glob8, glob9, idx_lst hA6 e2, w_neq, decide_true, Bool.not_true]
    refine ⟨by simp [cap], ?_⟩
    have F7 : Fr [] s (s6.new (.lst [])) := (((((h1.trans h2).trans h3).trans hf4).trans f5).trans f6).trans .new
    have hA7 : At (s6.new (.lst [])) i ((slopes X).map q) := hA6.fr0 .new
    have hF7 : At (s6.new (.lst [])) s6.n [] := .new
    have hjn : s.n ≤ s6.n := (((((h1.trans h2).trans h3).trans hf4).trans f5).trans f6).le
    have hij : i < s6.n := hA6.2
    generalize s6.new (.lst []) = s7 at F7 hA7 hF7 ⊢
    generalize s6.n = jf at hF7 hjn hij ⊢
    rw [x_sfor]
    refine j_zip3 ?_
    simp only [w_int, w_bl, w_non, w_no, w_str, w_nil, w_one, w_var, toVar_some, w_glob, toGl_some, toTup_tup, toBl_true, toBl_false, w_cons, w_tup, w_lst, w_bin, w_cmp, w_chain, w_not, w_and, w_or, w_ife, toInt_int, w_neg, w_idx, w_slice, w_isi, w_call, w_blt, toSeq_tup, w_star, w_rev, onNx_nx, onNx_rt, onNx_ct, x_skip, x_seq, toSl_some, x_set, x_setC, x_par, x_ret, x_expr, x_cont, x_sif, onRt_rt, onRt_nx, onTurn_nx, onTurn_ct, onTurn_rt, lay, layN, List.map_cons, List.map_nil, List.getElem?_cons_zero, List.getElem?_cons_succ, Nat.sub_self, List.replicate_zero, List.replicate_succ, List.append_nil, List.cons_append, List.nil_append, List.set_cons_zero, List.set_cons_succ, Nat.reduceSub, to_ok, wipeP, true_and, glob0, glob1, glob2, glob3, glob4, glob5, glob6, glob7, glob8, glob9, lad]
    refine ⟨some 1, some (-1), rfl, rfl, ?_⟩
    rw [slice_in (by simp; omega), to_ok]
    refine ⟨some ((1 : Nat) : Int), none, rfl, rfl, ?_⟩
    rw [slice_from hA7 (by simp; omega), ← List.map_drop, ← List.map_take, ← List.map_drop, List.length_map]
    have hA8 : At (s7.new (.lst (((slopes X).drop 1).map q))) i ((slopes X).map q) := hA7.fr0 .new
    have hB8 : At (s7.new (.lst (((slopes X).drop 1).map q))) s7.n (((slopes X).drop 1).map q) := .new
    have hF8 : At (s7.new (.lst (((slopes X).drop 1).map q))) jf [] := hF7.fr0 .new
    have F8 : Fr [] s (s7.new (.lst (((slopes X).drop 1).map q))) := F7.trans .new
    have hbj : s7.n ≠ jf := by have := hF7.2; omega
    refine ⟨_, _, _, _, rfl, zip3_tll hA8 hB8, ?_⟩
    generalize s7.new (.lst (((slopes X).drop 1).map q)) = s8 at hA8 hB8 hF8 F8 ⊢
    generalize s7.n = ib at hB8 hbj ⊢
    have e9 : (It.zp3 (.t ((inner X).map row)) (.l i) (.l ib)).most s8 = (trip X).length := by simp [It.most, hA8.getL, hB8.getL, trip]
    have ei : (X.drop 1).take (X.length - 1 - 1) = inner X := rfl
    rw [ei, e9]
    have hins : ∀ s', Fr [jf] s8 s' → At s' i ((slopes X).map q) ∧ At s' ib (((slopes X).drop 1).map q) := fun s' hJ => ⟨hA8.fr hJ (by simp; omega), hB8.fr hJ (by simpa using hbj)⟩
    have htl : (trip X).length ≤ 12 := by simp [trip]; omega
    refine for_inv (L := trip X) (g := fun t => .tup [row t.1, q t.2.1, q t.2.2]) (I := Fr [jf] s8) (fun k σ s' => Fr [jf] s8 s' ∧ ∃ o1 o2 o3, σ = [some (lad X), some (q r), some (.lst i), some (.lst jf), o1, o2, o3] ∧ At s' jf ((back ((trip X).take k)).map row)) (sees_zp3 (a := .t ((inner X).map row)) (b := .l i) (c := .l ib) (fun _ _ => rfl) (fun s' h => (hins s' h).1.getL) (fun s' h => (hins s' h).2.getL)) (fun k σ s' h => h.1) (fun k m σ s' hm ⟨hJ, o1, o2, o3, eσ, hF⟩ => ?_) (fun σ s' ⟨hJ, o1, o2, o3, eσ, hF⟩ => ?_) _ 0 _ _ (by omega) ⟨.refl, none, none, none, rfl, hF8⟩
    · subst eσ
      have hmm := List.mem_of_getElem? hm
      have hz := List.of_mem_zip (show (m.1, m.2) ∈ (inner X).zip _ from hmm)
      have hz2 := List.of_mem_zip (show (m.2.1, m.2.2) ∈ (slopes X).zip _ from hz.2)
      have hm1 : m.1 ∈ X := List.mem_of_mem_drop (List.mem_of_mem_take hz.1)
      have hw1 := h.slopes_w hz2.1
      have hw2 := h.slopes_w (List.mem_of_mem_drop hz2.2)
      simp only [w_int, w_bl, w_non, w_no, w_str, w_nil, w_one, w_var, toVar_some, w_glob, toGl_some, toTup_tup, toBl_true, toBl_false, w_cons, w_tup, w_lst, w_bin, w_cmp, w_chain, w_not, w_and, w_or, w_ife, toInt_int, w_neg, w_idx, w_slice, w_isi, w_call, w_blt, toSeq_tup, w_star, w_rev, onNx_nx, onNx_rt, onNx_ct, x_skip, x_seq, toSl_some, x_set, x_setC, x_par, x_ret, x_expr, x_cont, x_sif, onRt_rt, onRt_nx, onTurn_nx, onTurn_ct, onTurn_rt, lay, layN, List.map_cons, List.map_nil, List.getElem?_cons_zero, List.getElem?_cons_succ, Nat.sub_self, List.replicate_zero, List.replicate_succ, List.append_nil, List.cons_append, List.nil_append, List.set_cons_zero, List.set_cons_succ, Nat.reduceSub, to_ok, wipeP, true_and, glob0, glob1, glob2, glob3, glob4, glob5, glob6, glob7, glob8, glob9, w_neq]
      by_cases hc : m.2.1 = m.2.2
      · simp only [hc, decide_true, Bool.not_true, w_int, w_bl, w_non, w_no, w_str, w_nil, w_one, w_var, toVar_some, w_glob, toGl_some, toTup_tup, toBl_true, toBl_false, w_cons, w_tup, w_lst, w_bin, w_cmp, w_chain, w_not, w_and, w_or, w_ife, toInt_int, w_neg, w_idx, w_slice, w_isi, w_call, w_blt, toSeq_tup, w_star, w_rev, onNx_nx, onNx_rt, onNx_ct, x_skip, x_seq, toSl_some, x_set, x_setC, x_par, x_ret, x_expr, x_cont, x_sif, onRt_rt, onRt_nx, onTurn_nx, onTurn_ct, onTurn_rt, lay, layN, List.map_cons, List.map_nil, List.getElem?_cons_zero, List.getElem?_cons_succ, Nat.sub_self, List.replicate_zero, List.replicate_succ, List.append_nil, List.cons_append, List.nil_append, List.set_cons_zero, List.set_cons_succ, Nat.reduceSub, to_ok, wipeP, true_and, glob0, glob1, glob2, glob3, glob4, glob5, glob6, glob7, glob8, glob9]
        refine ⟨hJ, _, _, _, rfl, ?_⟩
        have : back ((trip X).take (k + 1)) = back ((trip X).take k) := by
          rw [List.take_add_one, hm]
          simp [back, hc]
        rw [this]
        exact hF
      · simp only [hc, decide_false, Bool.not_false, w_int, w_bl, w_non, w_no, w_str, w_nil, w_one, w_var, toVar_some, w_glob, toGl_some, toTup_tup, toBl_true, toBl_false, w_cons, w_tup, w_lst, w_bin, w_cmp, w_chain, w_not, w_and, w_or, w_ife, toInt_int, w_neg, w_idx, w_slice, w_isi, w_call, w_blt, toSeq_tup, w_star, w_rev, onNx_nx, onNx_rt, onNx_ct, x_skip, x_seq, toSl_some, x_set, x_setC, x_par, x_ret, x_expr, x_cont, x_sif, onRt_rt, onRt_nx, onTurn_nx, onTurn_ct, onTurn_rt, lay, layN, List.map_cons, List.map_nil, List.getElem?_cons_zero, List.getElem?_cons_succ, Nat.sub_self, List.replicate_zero, List.replicate_succ, List.append_nil, List.cons_append, List.nil_append, List.set_cons_zero, List.set_cons_succ, Nat.reduceSub, to_ok, wipeP, true_and, glob0, glob1, glob2, glob3, glob4, glob5, glob6, glob7, glob8, glob9]
        refine w_app (i := jf) (by simp [ev]) hF ?_
        simp only [w_int, w_bl, w_non, w_no, w_str, w_nil, w_one, w_var, toVar_some, w_glob, toGl_some, toTup_tup, toBl_true, toBl_false, w_cons, w_tup, w_lst, w_bin, w_cmp, w_chain, w_not, w_and, w_or, w_ife, toInt_int, w_neg, w_idx, w_slice, w_isi, w_call, w_blt, toSeq_tup, w_star, w_rev, onNx_nx, onNx_rt, onNx_ct, x_skip, x_seq, toSl_some, x_set, x_setC, x_par, x_ret, x_expr, x_cont, x_sif, onRt_rt, onRt_nx, onTurn_nx, onTurn_ct, onTurn_rt, lay, layN, List.map_cons, List.map_nil, List.getElem?_cons_zero, List.getElem?_cons_succ, Nat.sub_self, List.replicate_zero, List.replicate_succ, List.append_nil, List.cons_append, List.nil_append, List.set_cons_zero, List.set_cons_succ, Nat.reduceSub, to_ok, wipeP, true_and, glob0, glob1, glob2, glob3, glob4, glob5, glob6, glob7, glob8, glob9, row_0, sub_ok (w20 hw2) (w20 hw1)]
        have hbl : (back ((trip X).take k)).length ≤ 12 := by
          simp only [back, List.length_map]
          refine Nat.le_trans (List.length_filter_le _ _) ?_
          rw [List.length_take]
          omega
        refine ⟨by simp [cap], _, hF, by simp [cap]; omega, ?_⟩
        refine ⟨hJ.put (.inl (by simp)), _, _, _, rfl, ?_⟩
        have : (back ((trip X).take k)).map row ++ [.tup [q m.1.1, q (m.2.2 - m.2.1)]] = (back ((trip X).take (k + 1))).map row := by
          rw [List.take_add_one, hm]
          simp [back, hc, stepOf, row]
        rw [this]
        exact hF.put
    · subst eσ
      rw [List.take_length] at hF
      simp only [w_int, w_bl, w_non, w_no, w_str, w_nil, w_one, w_var, toVar_some, w_glob, toGl_some, toTup_tup, toBl_true, toBl_false, w_cons, w_tup, w_lst, w_bin, w_cmp, w_chain, w_not, w_and, w_or, w_ife, toInt_int, w_neg, w_idx, w_slice, w_isi, w_call, w_blt, toSeq_tup, w_star, w_rev, onNx_nx, onNx_rt, onNx_ct, x_skip, x_seq, toSl_some, x_set, x_setC, x_par, x_ret, x_expr, x_cont, x_sif, onRt_rt, onRt_nx, onTurn_nx, onTurn_ct, onTurn_rt, lay, layN, List.map_cons, List.map_nil, List.getElem?_cons_zero, List.getElem?_cons_succ, Nat.sub_self, List.replicate_zero, List.replicate_succ, List.append_nil, List.cons_append, List.nil_append, List.set_cons_zero, List.set_cons_succ, Nat.reduceSub, to_ok, wipeP, true_and, glob0, glob1, glob2, glob3, glob4, glob5, glob6, glob7, glob8, glob9, tuple_lst hF]
      exact Fr.drop F8 hJ hjn
end
end K69

namespace K69
open PySem FI GI
section
variable {a b w g r lo hi : Rat} {p : Rat × Rat} {L X : List (Rat × Rat)} {k : Nat}
/-- the ladder cut at a number: k offers stand at or below it -/
structure Cut (L : List (Rat × Rat)) (x : Rat) (k : Nat) : Prop where
  le : k ≤ L.length
  lo : ∀ j (h : j < L.length), j < k → L[j].1 ≤ x
  hi : ∀ j (h : j < L.length), k ≤ j → ¬ L[j].1 ≤ x
def NT (L : List (Rat × Rat)) (k : Nat) : Rat := S ((L.take k).map (·.2))
def CT (L : List (Rat × Rat)) (k : Nat) : Rat := S ((L.take k).map fun p => p.2 * p.1)
theorem Cut.filter {x : Rat} (h : Cut L x k) : L.filter (fun p => decide (p.1 ≤ x)) = L.take k := by
  conv => lhs; rw [← List.take_append_drop k L]
  rw [List.filter_append]
  have h1 : (L.take k).filter (fun p => decide (p.1 ≤ x)) = L.take k := by
    refine List.filter_eq_self.mpr fun p hp => ?_
    obtain ⟨j, hj, e⟩ := List.mem_iff_getElem.mp hp
    rw [List.getElem_take] at e
    simp only [List.length_take] at hj
    rw [← e]
    exact decide_eq_true (h.lo j (by omega) (by omega))
  have h2 : (L.drop k).filter (fun p => decide (p.1 ≤ x)) = [] := by
    refine List.filter_eq_nil_iff.mpr fun p hp => ?_
    obtain ⟨j, hj, e⟩ := List.mem_iff_getElem.mp hp
    rw [List.getElem_drop] at e
    simp only [List.length_drop] at hj
    rw [← e]
    simpa using h.hi (k + j) (by omega) (by omega)
  rw [h1, h2, List.append_nil]
theorem Cut.N {x : Rat} (h : Cut L x k) : N L x = NT L k := by unfold K69.N NT; rw [h.filter]
theorem Cut.C {x : Rat} (h : Cut L x k) : C L x = CT L k := by unfold K69.C CT; rw [h.filter]
theorem NT_succ (h : k < L.length) : NT L (k + 1) = NT L k + L[k].2 := by
  unfold NT
  rw [List.take_add_one, List.getElem?_eq_getElem h, Option.toList_some, List.map_append, List.map_singleton, S_snoc]
theorem CT_succ (h : k < L.length) : CT L (k + 1) = CT L k + L[k].2 * L[k].1 := by
  unfold CT
  rw [List.take_add_one, List.getElem?_eq_getElem h, Option.toList_some, List.map_append, List.map_singleton, S_snoc]
theorem xs_len : (xsOf L lo hi).length = L.length + 2 := by simp [xsOf]
theorem xs_0 : (xsOf L lo hi)[0]? = some (lo - 1) := rfl
theorem xs_mark (h : k < L.length) : (xsOf L lo hi)[k + 1]? = some L[k].1 := by
  simp only [xsOf, List.getElem?_cons_succ]
  rw [List.getElem?_append_left (by simpa using h)]
  simp [List.getElem?_eq_getElem h]
theorem xs_last : (xsOf L lo hi)[L.length + 1]? = some (hi + 1) := by
  simp only [xsOf, List.getElem?_cons_succ]
  rw [List.getElem?_append_right (by simp)]
  simp
theorem Lad.le (h : Lad L) {i j : Nat} (hj : j < L.length) (hij : i ≤ j) : (L[i]'(by omega)).1 ≤ L[j].1 := by
  by_cases e : i = j
  · subst e; grind
  · have := h.lt (by omega : i < j) hj
    grind
/-- where the line's points cut the ladder -/
theorem cut_at {x : Rat} (h : Lad L) (e : Ends L r lo hi) (hk : k ≤ L.length) (hx : (xsOf L lo hi)[k]? = some x) : Cut L x k := by
  cases k with
  | zero =>
    rw [xs_0] at hx
    cases hx
    refine ⟨hk, fun j hj z => absurd z (Nat.not_lt_zero _), fun j hj _ => ?_⟩
    have := (e.all _ (List.getElem_mem hj)).1
    grind
  | succ m =>
    rw [xs_mark (by omega)] at hx
    cases hx
    refine ⟨hk, fun j hj z => h.le (by omega) (by omega), fun j hj z => ?_⟩
    have := h.lt (by omega : m < j) hj
    grind
theorem cut_last (h : Lad L) (e : Ends L r lo hi) : Cut L (hi + 1) L.length := by
  refine ⟨Nat.le_refl _, fun j hj _ => ?_, fun j hj z => by omega⟩
  have := (e.all _ (List.getElem_mem hj)).2
  grind
theorem pts_get {x : Rat} (hx : (xsOf L lo hi)[k]? = some x) : (pts L r lo hi)[k]? = some (x, En L r x x) := by
  simp only [pts, List.getElem?_map, hx, Option.map_some]
theorem pts_len : (pts L r lo hi).length = L.length + 2 := by simp [pts, xs_len]
theorem cut_above (h : Lad L) (e : Ends L r lo hi) (ha : Above (pts L r lo hi) w k) : Cut L w k := by
  have hlt := ha.lt
  rw [pts_len] at hlt
  refine ⟨by omega, fun j hj z => ?_, fun j hj z hle => ?_⟩
  · rcases ha.at_ with e0 | ⟨p, hp, hpw⟩
    · omega
    · have hk1 : k - 1 < L.length := by omega
      have e1 := xs_mark (lo := lo) (hi := hi) hk1
      rw [show k - 1 + 1 = k by omega] at e1
      rw [pts_get e1] at hp
      cases hp
      have := h.le hk1 (by omega : j ≤ k - 1)
      grind
  · have := ha.most (j + 1) _ (by rw [pts_len]; omega) (pts_get (xs_mark hj)) hle
    omega
theorem en_at {x : Rat} (h : Cut L x k) : En L r x x = x * (NT L k - N L r) - (CT L k - C L r) := by
  unfold En
  rw [h.N, h.C]
theorem xs_get (hk : k ≤ L.length + 1) : ∃ x, (xsOf L lo hi)[k]? = some x := ⟨_, List.getElem?_eq_getElem (by rw [xs_len]; omega)⟩
theorem en_next {x : Rat} (h : Lad L) (e : Ends L r lo hi) (hk : k ≤ L.length) (hx : (xsOf L lo hi)[k + 1]? = some x) : En L r x x = x * (NT L k - N L r) - (CT L k - C L r) := by
  by_cases hl : k = L.length
  · subst hl
    rw [xs_last] at hx
    cases hx
    exact en_at (cut_last h e)
  · have hk' : k < L.length := by omega
    have hc := cut_at h e (k := k + 1) (by omega) hx
    rw [xs_mark hk'] at hx
    cases hx
    rw [en_at hc, NT_succ hk', CT_succ hk']
    grind
theorem xs_srt (h : Lad L) (e : Ends L r lo hi) : (xsOf L lo hi).Pairwise (· < ·) := by
  have h1 := e.lr
  have h2 := e.rh
  simp only [xsOf]
  refine List.pairwise_cons.mpr ⟨fun x hx => ?_, List.pairwise_append.mpr ⟨?_, by simp, fun x hx y hy => ?_⟩⟩
  · rcases List.mem_append.mp hx with hx | hx
    · obtain ⟨p, hp, rfl⟩ := List.mem_map.mp hx
      have := (e.all p hp).1
      grind
    · rw [List.mem_singleton.mp hx]
      grind
  · exact List.pairwise_map.mpr h.srt
  · obtain ⟨p, hp, rfl⟩ := List.mem_map.mp hx
    rw [List.mem_singleton.mp hy]
    have := (e.all p hp).2
    grind
theorem pts_ok (h : Lad L) (hr : W 20 r) (e : Ends L r lo hi) : Pts (pts L r lo hi) := by
  have hl := h.len
  refine ⟨by rw [pts_len]; omega, by rw [pts_len]; omega, fun p hp => ?_, ?_⟩
  · obtain ⟨x, hx, rfl⟩ := List.mem_map.mp hp
    have := xs_w h e x hx
    exact ⟨this, W_En h this⟩
  · exact List.pairwise_map.mpr (xs_srt h e)
theorem zip_get {α β : Type} {l : List α} {m : List β} {u : α} {v : β} (h1 : l[k]? = some u) (h2 : m[k]? = some v) : (l.zip m)[k]? = some (u, v) := by
  obtain ⟨c1, d1⟩ := List.getElem?_eq_some_iff.mp h1
  obtain ⟨c2, d2⟩ := List.getElem?_eq_some_iff.mp h2
  rw [List.getElem?_eq_getElem (by rw [List.length_zip]; omega), List.getElem_zip, d1, d2]
theorem slope_get (h : Lad L) (e : Ends L r lo hi) (hk : k ≤ L.length) : (slopes (pts L r lo hi))[k]? = some (NT L k - N L r) := by
  obtain ⟨x, hx⟩ := xs_get (L := L) (lo := lo) (hi := hi) (k := k) (by omega)
  obtain ⟨y, hy⟩ := xs_get (L := L) (lo := lo) (hi := hi) (k := k + 1) (by omega)
  have e1 : ((pts L r lo hi).zip ((pts L r lo hi).drop 1))[k]? = some ((x, En L r x x), (y, En L r y y)) := by
    have a1 := pts_get (r := r) hx
    have a2 := pts_get (r := r) hy
    have a3 : ((pts L r lo hi).drop 1)[k]? = some (y, En L r y y) := by rw [List.getElem?_drop, Nat.add_comm]; exact a2
    exact zip_get a1 a3
  have hlt : x < y := by
    have hs := xs_srt h e
    have b1 := List.getElem?_eq_some_iff.mp hx
    have b2 := List.getElem?_eq_some_iff.mp hy
    obtain ⟨c1, d1⟩ := b1
    obtain ⟨c2, d2⟩ := b2
    rw [← d1, ← d2]
    exact List.pairwise_iff_getElem.mp hs k (k + 1) c1 c2 (by omega)
  simp only [slopes, List.getElem?_map, e1, Option.map_some, slope]
  rw [en_at (cut_at h e hk hx), en_next h e hk hy]
  congr 1
  grind
theorem slopes_len' : (slopes (pts L r lo hi)).length = L.length + 1 := by rw [slopes_len, pts_len]; omega
theorem no_fall (h : Lad L) (e : Ends L r lo hi) : ((slopes (pts L r lo hi)).zip ((slopes (pts L r lo hi)).drop 1)).any (fun m => decide (m.2 < m.1)) = false := by
  refine List.any_eq_false.mpr fun m hm => ?_
  obtain ⟨k, hk, e1⟩ := List.mem_iff_getElem.mp hm
  have hk' : k < L.length := by simp [slopes_len'] at hk; omega
  rw [List.getElem_zip] at e1
  have a1 := slope_get h e (k := k) (by omega)
  have a2 := slope_get h e (k := k + 1) (by omega)
  have a3 : ((slopes (pts L r lo hi)).drop 1)[k]? = some (NT L (k + 1) - N L r) := by rw [List.getElem?_drop, Nat.add_comm]; exact a2
  rw [List.getElem?_eq_getElem (by rw [slopes_len']; omega)] at a1
  rw [List.getElem?_eq_getElem (by simp [slopes_len']; omega)] at a3
  have b1 := Option.some.inj a1
  have b3 := Option.some.inj a3
  rw [← e1, b1, b3, NT_succ hk']
  have := h.pos _ (List.getElem_mem hk')
  simp only [decide_eq_true_eq]
  grind
theorem line_eq (h : Lad L) (e : Ends L r lo hi) {v : Rat} (hv : lineAt (pts L r lo hi) w v) : v = En L r w w := by
  obtain ⟨k, x, y, t, ha, hx, ht, rfl⟩ := hv
  have hc := cut_above h e ha
  obtain ⟨x', hx'⟩ := xs_get (L := L) (lo := lo) (hi := hi) (k := k) (by have := hc.le; omega)
  rw [pts_get hx'] at hx
  cases hx
  rw [slope_get h e hc.le] at ht
  cases ht
  rw [en_at hc, en_at (cut_at h e hc.le hx')]
  grind
theorem slope_zero (h : Lad L) (e : Ends L r lo hi) {t : Rat} (ha : Above (pts L r lo hi) r k) (ht : (slopes (pts L r lo hi))[k]? = some t) : t = 0 := by
  have hc := cut_above h e ha
  rw [slope_get h e hc.le] at ht
  cases ht
  rw [hc.N]
  grind
theorem en_self : En L r r r = 0 := by unfold En; grind
theorem trip_get (h : Lad L) (e : Ends L r lo hi) (hk : k < L.length) : (trip (pts L r lo hi))[k]? = some ((L[k].1, En L r L[k].1 L[k].1), (NT L k - N L r, NT L (k + 1) - N L r)) := by
  have a1 : (inner (pts L r lo hi))[k]? = some (L[k].1, En L r L[k].1 L[k].1) := by
    simp only [inner]
    rw [List.getElem?_take, if_pos (by rw [pts_len]; omega), List.getElem?_drop, Nat.add_comm]
    exact pts_get (xs_mark hk)
  have a2 := slope_get h e (k := k) (by omega)
  have a3 : ((slopes (pts L r lo hi)).drop 1)[k]? = some (NT L (k + 1) - N L r) := by rw [List.getElem?_drop, Nat.add_comm]; exact slope_get h e (k := k + 1) (by omega)
  exact zip_get a1 (zip_get a2 a3)
theorem trip_len : (trip (pts L r lo hi)).length = L.length := by
  simp [trip, inner, pts_len, slopes_len']
theorem back_eq (h : Lad L) (e : Ends L r lo hi) : back (trip (pts L r lo hi)) = L := by
  unfold back
  have hf : (trip (pts L r lo hi)).filter (fun t => !decide (t.2.1 = t.2.2)) = trip (pts L r lo hi) := by
    refine List.filter_eq_self.mpr fun t ht => ?_
    obtain ⟨k, hk, e1⟩ := List.mem_iff_getElem.mp ht
    rw [trip_len] at hk
    have a := trip_get h e hk
    rw [List.getElem?_eq_getElem (by rw [trip_len]; omega), e1] at a
    cases a
    have := h.pos _ (List.getElem_mem hk)
    rw [NT_succ hk]
    simp only [Bool.not_eq_true', decide_eq_false_iff_not]
    grind
  rw [hf]
  refine List.ext_getElem? fun k => ?_
  rw [List.getElem?_map]
  by_cases hk : k < L.length
  · rw [trip_get h e hk, List.getElem?_eq_getElem hk]
    simp only [Option.map_some, stepOf]
    rw [NT_succ hk]
    congr 1
    refine Prod.ext rfl ?_
    dsimp only
    grind
  · rw [List.getElem?_eq_none (by rw [trip_len]; omega), List.getElem?_eq_none (by omega)]
    rfl
end
end K69

namespace K69
open PySem FI GI
section
variable {a b w g r lo hi : Rat} {p : Rat × Rat} {L X : List (Rat × Rat)} {k : Nat}
theorem S_rev : ∀ {l : List Rat}, S l.reverse = S l
  | [] => rfl
  | x :: l => by rw [List.reverse_cons, S_snoc, S_rev]; simp only [S]; grind
/-! ### rising -/
theorem ins_top {l : List Rat} {x : Rat} (h : ∀ y ∈ l, y < x) : ins l x = l ++ [x] := by
  have e : l.filter (fun y => decide (y < x)) = l := List.filter_eq_self.mpr fun y hy => decide_eq_true (h y hy)
  unfold ins
  rw [e, if_pos (.inl rfl)]
  simp
theorem ins_low {l : List Rat} {x : Rat} (h : ∀ y ∈ l, x < y) : ins l x = x :: l := by
  have e : l.filter (fun y => decide (y < x)) = [] := List.filter_eq_nil_iff.mpr fun y hy => by
    have := h y hy
    simp only [decide_eq_true_eq]
    grind
  unfold ins
  rw [e, if_pos ?_]
  · simp
  · cases l with
    | nil => left; rfl
    | cons y l =>
      right
      have := h y List.mem_cons_self
      simp
      grind
theorem ins_in {l : List Rat} {x : Rat} (h : l.Pairwise (· < ·)) (hx : x ∈ l) : ins l x = l := by
  obtain ⟨i, hi, e⟩ := List.mem_iff_getElem.mp hx
  have hs := List.pairwise_iff_getElem.mp h
  have ef : l.filter (fun y => decide (y < x)) = l.take i := by
    conv => lhs; rw [← List.take_append_drop i l]
    rw [List.filter_append]
    have h1 : (l.take i).filter (fun y => decide (y < x)) = l.take i := by
      refine List.filter_eq_self.mpr fun y hy => ?_
      obtain ⟨j, hj, ej⟩ := List.mem_iff_getElem.mp hy
      rw [List.getElem_take] at ej
      simp only [List.length_take] at hj
      have := hs j i (by omega) hi (by omega)
      rw [← ej]
      exact decide_eq_true (by grind)
    have h2 : (l.drop i).filter (fun y => decide (y < x)) = [] := by
      refine List.filter_eq_nil_iff.mpr fun y hy => ?_
      obtain ⟨j, hj, ej⟩ := List.mem_iff_getElem.mp hy
      rw [List.getElem_drop] at ej
      simp only [List.length_drop] at hj
      simp only [decide_eq_true_eq]
      by_cases h0 : j = 0
      · subst h0
        simp only [Nat.add_zero] at ej
        grind
      · have := hs i (i + j) hi (by omega) (by omega)
        grind
    rw [h1, h2, List.append_nil]
  have el : (l.filter (fun y => decide (y < x))).length = i := by rw [ef, List.length_take]; omega
  unfold ins
  rw [el, if_neg]
  rw [List.getElem?_eq_getElem hi, e]
  simp
  omega
theorem rise_sorted : ∀ (n : Nat) (l : List Rat), l.length = n → l.Pairwise (· < ·) → rise l = l
  | 0, l, h, _ => by
    have : l = [] := List.length_eq_zero_iff.mp h
    subst this; rfl
  | n + 1, l, h, hp => by
    have hne : l ≠ [] := by rintro rfl; simp at h
    have e := List.dropLast_concat_getLast hne
    rw [← e] at hp ⊢
    obtain ⟨h1, _, h3⟩ := List.pairwise_append.mp hp
    rw [rise_snoc, rise_sorted n l.dropLast (by simp; omega) h1]
    exact ins_top fun y hy => h3 y hy _ (List.mem_singleton.mpr rfl)
theorem rise_rev : ∀ {l : List Rat}, l.Pairwise (· < ·) → rise l.reverse = l
  | [], _ => rfl
  | x :: l, h => by
    obtain ⟨h1, h2⟩ := List.pairwise_cons.mp h
    rw [List.reverse_cons, rise_snoc, rise_rev h2]
    exact ins_low h1
theorem fold_in {l : List Rat} (h : l.Pairwise (· < ·)) : ∀ {m : List Rat}, (∀ x ∈ m, x ∈ l) → m.foldl ins l = l
  | [], _ => rfl
  | x :: m, hm => by
    rw [List.foldl_cons, ins_in h (hm x List.mem_cons_self)]
    exact fold_in h fun y hy => hm y (List.mem_cons_of_mem _ hy)
theorem rise_twice {l : List Rat} (h : l.Pairwise (· < ·)) : rise (l.reverse ++ l) = l := by
  unfold rise
  rw [List.foldl_append]
  have : l.reverse.foldl ins [] = l := rise_rev h
  rw [this]
  exact fold_in h fun x hx => hx
theorem Lad.marks (h : Lad L) : (L.map (·.1)).Pairwise (· < ·) := List.pairwise_map.mpr h.srt
theorem filter_at : ∀ {L : List (Rat × Rat)}, L.Pairwise (fun a b => a.1 < b.1) → p ∈ L → L.filter (fun x => decide (x.1 = p.1)) = [p]
  | [], _, h => by simp at h
  | y :: L, hs, h => by
    obtain ⟨h1, h2⟩ := List.pairwise_cons.mp hs
    rcases List.mem_cons.mp h with rfl | h
    · rw [List.filter_cons, if_pos (decide_eq_true rfl)]
      congr 1
      refine List.filter_eq_nil_iff.mpr fun z hz => ?_
      have := h1 z hz
      simp only [decide_eq_true_eq]
      grind
    · have := h1 p h
      rw [List.filter_cons, if_neg (by simp only [decide_eq_true_eq]; grind)]
      exact filter_at h2 h
theorem sumAt_one (h : Lad L) (hp : p ∈ L) : sumAt L p.1 = p.2 := by
  unfold sumAt
  rw [filter_at h.srt hp]
  simp only [List.map_cons, List.map_nil, S]
  grind
theorem sumAt_two (h : Lad L) (hp : p ∈ L) : sumAt (L.reverse ++ L) p.1 = 2 * p.2 := by
  unfold sumAt
  rw [List.filter_append, List.filter_reverse, filter_at h.srt hp]
  simp only [List.reverse_cons, List.reverse_nil, List.nil_append, List.cons_append, List.map_cons, List.map_nil, S]
  grind
theorem merged_one (h : Lad L) : merged L = L := by
  unfold merged
  rw [rise_sorted _ _ rfl h.marks, List.map_map]
  have e : L.map ((fun m => (m, sumAt L m)) ∘ (·.1)) = L := by
    conv => rhs; rw [← List.map_id L]
    refine List.map_congr_left fun p hp => ?_
    simp only [Function.comp, sumAt_one h hp]
    rfl
  rw [e]
  refine List.filter_eq_self.mpr fun p hp => ?_
  have := h.pos p hp
  simp only [Bool.not_eq_true', decide_eq_false_iff_not]
  grind
/-- the ladder of twice the units -/
def dbl (L : List (Rat × Rat)) : List (Rat × Rat) := L.map fun p => (p.1, 2 * p.2)
theorem merged_two (h : Lad L) : merged (L.reverse ++ L) = dbl L := by
  unfold merged
  have e0 : (L.reverse ++ L).map (·.1) = (L.map (·.1)).reverse ++ L.map (·.1) := by simp
  rw [e0, rise_twice h.marks, List.map_map]
  have e : L.map ((fun m => (m, sumAt (L.reverse ++ L) m)) ∘ (·.1)) = dbl L := by
    refine List.map_congr_left fun p hp => ?_
    simp only [Function.comp, sumAt_two h hp]
  rw [e]
  refine List.filter_eq_self.mpr fun p hp => ?_
  obtain ⟨x, hx, rfl⟩ := List.mem_map.mp hp
  have := h.pos x hx
  simp only [Bool.not_eq_true', decide_eq_false_iff_not]
  grind
/-- a drawn ladder -/
structure Dr (L : List (Rat × Rat)) : Prop where
  lad : Lad L
  len : L.length ≤ 4
  w : ∀ p ∈ L, W 10 p.1 ∧ W 10 p.2
theorem W_two : W 2 2 := ⟨by decide, by decide⟩
theorem Dr.dbl (h : Dr L) : Lad (dbl L) := by
  refine ⟨by simp [K69.dbl]; have := h.len; omega, fun p hp => ?_, fun p hp => ?_, ?_⟩
  · obtain ⟨x, hx, rfl⟩ := List.mem_map.mp hp
    have := h.w x hx
    exact ⟨this.1.mono (by decide), (W_two.mul this.2).mono (by decide)⟩
  · obtain ⟨x, hx, rfl⟩ := List.mem_map.mp hp
    have := h.lad.pos x hx
    dsimp only
    grind
  · exact List.pairwise_map.mpr h.lad.srt
/-- the scores -/
def sco (L : List (Rat × Rat)) : List Pc := L.map Pc.mk
def two (L : List (Rat × Rat)) : List Pc := (L.map Pc.mk).reverse ++ (.st :: L.map Pc.mk)
theorem sco_pv : (sco L).map pv = L.map mk := by simp [sco, pv]
theorem two_pv : (two L).map pv = (L.map mk).reverse ++ (pv .st :: L.map mk) := by
  have e : (pv ∘ Pc.mk) = mk := rfl
  simp [two, e]
theorem Lad.sco (h : Lad L) : Sco (sco L) := by
  refine ⟨by simpa [K69.sco] using h.len, fun p hp => ?_⟩
  obtain ⟨x, hx, e⟩ := List.mem_map.mp hp
  cases e
  have h1 := h.w p hx
  have h2 := h.pos p hx
  exact ⟨h1.1, h1.2, by grind⟩
theorem Dr.two (h : Dr L) : Sco (two L) := by
  refine ⟨by have := h.len; simp [K69.two]; omega, fun p hp => ?_⟩
  have hx : p ∈ L := by simpa [K69.two] using hp
  have h1 := h.lad.w p hx
  have h2 := h.lad.pos p hx
  exact ⟨h1.1, h1.2, by grind⟩
theorem ms_sco : ms (sco L) = L := by
  unfold ms sco
  rw [List.filterMap_map]
  have : (mkOf ∘ Pc.mk) = some := rfl
  rw [this, List.filterMap_some]
theorem ms_two : ms (two L) = L.reverse ++ L := by
  have h1 : (L.map Pc.mk).filterMap mkOf = L := ms_sco
  unfold ms two
  rw [List.filterMap_append, List.filterMap_reverse, h1, List.filterMap_cons]
  simp only [mkOf, h1]
theorem merged_sco (h : Lad L) : merged (ms (sco L)) = L := by rw [ms_sco, merged_one h]
theorem merged_tw (h : Lad L) : merged (ms (two L)) = dbl L := by rw [ms_two, merged_two h]
/-! ### what is passed -/
theorem Pd_sco : Pd (sco L) a b = b * N L a - C L a := by
  unfold Pd sco N C
  induction L with
  | nil => simp only [List.map_nil, List.filter_nil, S]; grind
  | cons p L ih =>
    simp only [List.map_cons, S, pb, List.filter_cons]
    rw [ih]
    by_cases h : p.1 ≤ a
    · simp only [h, if_true, decide_true, List.map_cons, S]
      grind
    · simp only [h, if_false, decide_false, Bool.false_eq_true]
      grind
theorem Pd_two : Pd (two L) a b = 2 * Pd (sco L) a b := by
  unfold Pd two sco
  rw [List.map_append, S_app, List.map_reverse, S_rev, List.map_cons]
  simp only [S, pb]
  grind
theorem Ls_sco : Ls (sco L) g w = En L g w w := by
  unfold Ls En
  rw [Pd_sco, Pd_sco]
  grind
theorem due_eq : Ls (sco L) a w - Ls (sco L) b w = En L a b w := by
  unfold Ls En
  rw [Pd_sco, Pd_sco, Pd_sco]
  grind
theorem Pd_top (h : ∀ p ∈ L, 0 < p.2) : Pd (sco L) b w ≤ Pd (sco L) w w := by
  unfold Pd sco
  induction L with
  | nil => simp only [List.map_nil, S]; grind
  | cons p L ih =>
    simp only [List.map_cons, S, pb]
    have ih' := ih fun x hx => h x (List.mem_cons_of_mem _ hx)
    have hp := h p List.mem_cons_self
    have hp' : 0 ≤ p.2 := by grind
    by_cases h1 : p.1 ≤ b <;> by_cases h2 : p.1 ≤ w
    · simp only [h1, h2, if_true]; grind
    · simp only [h1, h2, if_true, if_false]
      have h3 : 0 ≤ p.2 * (p.1 - w) := Rat.mul_nonneg hp' (by grind)
      grind
    · simp only [h1, h2, if_true, if_false]
      have h3 : 0 ≤ p.2 * (w - p.1) := Rat.mul_nonneg hp' (by grind)
      grind
    · simp only [h1, h2, if_false]; grind
theorem En_top (h : ∀ p ∈ L, 0 < p.2) : En L r b w ≤ En L r w w := by
  have := Pd_top (b := b) (w := w) h
  rw [Pd_sco, Pd_sco] at this
  unfold En
  grind
theorem En_nonneg (h : ∀ p ∈ L, 0 < p.2) : 0 ≤ En L r w w := by
  have := En_top (r := r) (b := r) (w := w) h
  have e : En L r r w = 0 := by unfold En; grind
  rw [e] at this
  exact this
end
end K69

namespace K69
open PySem FI GI
section
variable {n : Nat} {a b w g r : Rat} {s : Sto} {p : Rat × Rat} {L X : List (Rat × Rat)} {Q : PV → Sto → Prop} {sc : List Pc}
theorem capk0 : ([] : List PV).length ≤ cap := by simp [cap]
theorem capk1 {a : PV} : [a].length ≤ cap := by simp [cap]
theorem capk2 {a b : PV} : [a, b].length ≤ cap := by simp [cap]
theorem capk3 {a b c : PV} : [a, b, c].length ≤ cap := by simp [cap]
theorem capk4 {a b c d : PV} : [a, b, c, d].length ≤ cap := by simp [cap]
theorem capk5 {a b c d e : PV} : [a, b, c, d, e].length ≤ cap := by simp [cap]
theorem asscore' (h : Lad L) : Gives (runF T (n + 6) 31 [lad L] s) s (.tup ((sco L).map pv)) := by rw [sco_pv]; exact asscore_ok h
theorem neL {i j : Nat} {l : List Rat} (hi : At s i (l.map q)) (hj : At s j (l.map q)) : (evCmp .ne (.lst i) (.lst j) s).to Q = Q (.bl false) s := by
  have e1 : toD s 60 (.lst i) = some (.list (l.map dq)) := toD_lst hi fun a _ => toD_q
  have e2 : toD s 60 (.lst j) = some (.list (l.map dq)) := toD_lst hj fun a _ => toD_q
  have e := eq_same e1 e2 (canAll fun a _ => can_q) (dep_lst (m := 10) (fun a _ => by simp [dq, PyData.depth, PyData.depthAll]) (by decide))
  simp only [evCmp, e, to_ok]
  rfl
theorem w_eqq' {x y : Rat} (h : x = y) : (evCmp .eq (q x) (q y) s).to Q = Q (.bl true) s := by rw [w_eqq, decide_eq_true h]
theorem w_neq' {x y : Rat} (h : x = y) : (evCmp .ne (q x) (q y) s).to Q = Q (.bl false) s := by rw [w_neq, decide_eq_true h]; rfl
theorem move_ok (h : Lad L) (ha : W 20 a) (hb : W 20 b) (hw : W 20 w) : Gives (runF T (n + 10) 66 [lad L, q a, q b, q w] s) s (.bl true) := by
  refine run_to d__law_move_right rfl ?_
  have hl := h.len
  have hS := h.sco
  have ha3 := ha.mono (by decide : 20 ≤ 30)
  have hb3 := hb.mono (by decide : 20 ≤ 30)
  have hw3 := hw.mono (by decide : 20 ≤ 30)
  simp only [c__law_move_right, w_int, w_bl, w_non, w_no, w_str, w_nil, w_one, w_var, toVar_some, w_glob, toGl_some, toTup_tup, toBl_true, toBl_false, w_cons, w_tup, w_lst, w_bin, w_cmp, w_chain, w_not, w_and, w_or, w_ife, toInt_int, w_neg, w_idx, w_slice, w_isi, w_call, w_blt, toSeq_tup, w_star, w_rev, onNx_nx, onNx_rt, onNx_ct, x_skip, x_seq, toSl_some, x_set, x_setC, x_par, x_ret, x_expr, x_cont, x_sif, onRt_rt, onRt_nx, onTurn_nx, onTurn_ct, onTurn_rt, lay, layN, List.map_cons, List.map_nil, List.getElem?_cons_zero, List.getElem?_cons_succ, Nat.sub_self, List.replicate_zero, List.replicate_succ, List.append_nil, List.cons_append, List.nil_append, List.set_cons_zero, List.set_cons_succ, Nat.reduceSub, to_ok, wipeP, true_and, glob0, glob1, glob2, glob3, glob4, glob5, glob6, glob7, glob8, glob9, capk0, capk1, capk2, capk3, capk4, capk5]
  refine (asscore' h).to fun s1 h1 => ?_
  try simp only [w_int, w_bl, w_non, w_no, w_str, w_nil, w_one, w_var, toVar_some, w_glob, toGl_some, toTup_tup, toBl_true, toBl_false, w_cons, w_tup, w_lst, w_bin, w_cmp, w_chain, w_not, w_and, w_or, w_ife, toInt_int, w_neg, w_idx, w_slice, w_isi, w_call, w_blt, toSeq_tup, w_star, w_rev, onNx_nx, onNx_rt, onNx_ct, x_skip, x_seq, toSl_some, x_set, x_setC, x_par, x_ret, x_expr, x_cont, x_sif, onRt_rt, onRt_nx, onTurn_nx, onTurn_ct, onTurn_rt, lay, layN, List.map_cons, List.map_nil, List.getElem?_cons_zero, List.getElem?_cons_succ, Nat.sub_self, List.replicate_zero, List.replicate_succ, List.append_nil, List.cons_append, List.nil_append, List.set_cons_zero, List.set_cons_succ, Nat.reduceSub, to_ok, wipeP, true_and, glob0, glob1, glob2, glob3, glob4, glob5, glob6, glob7, glob8, glob9, capk0, capk1, capk2, capk3, capk4, capk5]
  refine (loss_ok (w := w) (g := a) hS hw ha).to fun s2 h2 => ?_
  try simp only [w_int, w_bl, w_non, w_no, w_str, w_nil, w_one, w_var, toVar_some, w_glob, toGl_some, toTup_tup, toBl_true, toBl_false, w_cons, w_tup, w_lst, w_bin, w_cmp, w_chain, w_not, w_and, w_or, w_ife, toInt_int, w_neg, w_idx, w_slice, w_isi, w_call, w_blt, toSeq_tup, w_star, w_rev, onNx_nx, onNx_rt, onNx_ct, x_skip, x_seq, toSl_some, x_set, x_setC, x_par, x_ret, x_expr, x_cont, x_sif, onRt_rt, onRt_nx, onTurn_nx, onTurn_ct, onTurn_rt, lay, layN, List.map_cons, List.map_nil, List.getElem?_cons_zero, List.getElem?_cons_succ, Nat.sub_self, List.replicate_zero, List.replicate_succ, List.append_nil, List.cons_append, List.nil_append, List.set_cons_zero, List.set_cons_succ, Nat.reduceSub, to_ok, wipeP, true_and, glob0, glob1, glob2, glob3, glob4, glob5, glob6, glob7, glob8, glob9, capk0, capk1, capk2, capk3, capk4, capk5]
  refine (loss_ok (w := w) (g := b) hS hw hb).to fun s3 h3 => ?_
  try simp only [w_int, w_bl, w_non, w_no, w_str, w_nil, w_one, w_var, toVar_some, w_glob, toGl_some, toTup_tup, toBl_true, toBl_false, w_cons, w_tup, w_lst, w_bin, w_cmp, w_chain, w_not, w_and, w_or, w_ife, toInt_int, w_neg, w_idx, w_slice, w_isi, w_call, w_blt, toSeq_tup, w_star, w_rev, onNx_nx, onNx_rt, onNx_ct, x_skip, x_seq, toSl_some, x_set, x_setC, x_par, x_ret, x_expr, x_cont, x_sif, onRt_rt, onRt_nx, onTurn_nx, onTurn_ct, onTurn_rt, lay, layN, List.map_cons, List.map_nil, List.getElem?_cons_zero, List.getElem?_cons_succ, Nat.sub_self, List.replicate_zero, List.replicate_succ, List.append_nil, List.cons_append, List.nil_append, List.set_cons_zero, List.set_cons_succ, Nat.reduceSub, to_ok, wipeP, true_and, glob0, glob1, glob2, glob3, glob4, glob5, glob6, glob7, glob8, glob9, capk0, capk1, capk2, capk3, capk4, capk5]
  rw [less_ok (w20 (W_Ls hS hw)) (w20 (W_Ls hS hw)), due_eq]
  try simp only [w_int, w_bl, w_non, w_no, w_str, w_nil, w_one, w_var, toVar_some, w_glob, toGl_some, toTup_tup, toBl_true, toBl_false, w_cons, w_tup, w_lst, w_bin, w_cmp, w_chain, w_not, w_and, w_or, w_ife, toInt_int, w_neg, w_idx, w_slice, w_isi, w_call, w_blt, toSeq_tup, w_star, w_rev, onNx_nx, onNx_rt, onNx_ct, x_skip, x_seq, toSl_some, x_set, x_setC, x_par, x_ret, x_expr, x_cont, x_sif, onRt_rt, onRt_nx, onTurn_nx, onTurn_ct, onTurn_rt, lay, layN, List.map_cons, List.map_nil, List.getElem?_cons_zero, List.getElem?_cons_succ, Nat.sub_self, List.replicate_zero, List.replicate_succ, List.append_nil, List.cons_append, List.nil_append, List.set_cons_zero, List.set_cons_succ, Nat.reduceSub, to_ok, wipeP, true_and, glob0, glob1, glob2, glob3, glob4, glob5, glob6, glob7, glob8, glob9, capk0, capk1, capk2, capk3, capk4, capk5]
  refine (position_ok h ha3 hb3).to fun s4 h4 => ?_
  try simp only [w_int, w_bl, w_non, w_no, w_str, w_nil, w_one, w_var, toVar_some, w_glob, toGl_some, toTup_tup, toBl_true, toBl_false, w_cons, w_tup, w_lst, w_bin, w_cmp, w_chain, w_not, w_and, w_or, w_ife, toInt_int, w_neg, w_idx, w_slice, w_isi, w_call, w_blt, toSeq_tup, w_star, w_rev, onNx_nx, onNx_rt, onNx_ct, x_skip, x_seq, toSl_some, x_set, x_setC, x_par, x_ret, x_expr, x_cont, x_sif, onRt_rt, onRt_nx, onTurn_nx, onTurn_ct, onTurn_rt, lay, layN, List.map_cons, List.map_nil, List.getElem?_cons_zero, List.getElem?_cons_succ, Nat.sub_self, List.replicate_zero, List.replicate_succ, List.append_nil, List.cons_append, List.nil_append, List.set_cons_zero, List.set_cons_succ, Nat.reduceSub, to_ok, wipeP, true_and, glob0, glob1, glob2, glob3, glob4, glob5, glob6, glob7, glob8, glob9, capk0, capk1, capk2, capk3, capk4, capk5]
  refine (paid_ok h ha3 hb3).to fun s5 h5 => ?_
  try simp only [w_int, w_bl, w_non, w_no, w_str, w_nil, w_one, w_var, toVar_some, w_glob, toGl_some, toTup_tup, toBl_true, toBl_false, w_cons, w_tup, w_lst, w_bin, w_cmp, w_chain, w_not, w_and, w_or, w_ife, toInt_int, w_neg, w_idx, w_slice, w_isi, w_call, w_blt, toSeq_tup, w_star, w_rev, onNx_nx, onNx_rt, onNx_ct, x_skip, x_seq, toSl_some, x_set, x_setC, x_par, x_ret, x_expr, x_cont, x_sif, onRt_rt, onRt_nx, onTurn_nx, onTurn_ct, onTurn_rt, lay, layN, List.map_cons, List.map_nil, List.getElem?_cons_zero, List.getElem?_cons_succ, Nat.sub_self, List.replicate_zero, List.replicate_succ, List.append_nil, List.cons_append, List.nil_append, List.set_cons_zero, List.set_cons_succ, Nat.reduceSub, to_ok, wipeP, true_and, glob0, glob1, glob2, glob3, glob4, glob5, glob6, glob7, glob8, glob9, capk0, capk1, capk2, capk3, capk4, capk5]
  refine (earned_ok h ha3 hb3 hw3).to fun s6 h6 => ?_
  simp only [w_int, w_bl, w_non, w_no, w_str, w_nil, w_one, w_var, toVar_some, w_glob, toGl_some, toTup_tup, toBl_true, toBl_false, w_cons, w_tup, w_lst, w_bin, w_cmp, w_chain, w_not, w_and, w_or, w_ife, toInt_int, w_neg, w_idx, w_slice, w_isi, w_call, w_blt, toSeq_tup, w_star, w_rev, onNx_nx, onNx_rt, onNx_ct, x_skip, x_seq, toSl_some, x_set, x_setC, x_par, x_ret, x_expr, x_cont, x_sif, onRt_rt, onRt_nx, onTurn_nx, onTurn_ct, onTurn_rt, lay, layN, List.map_cons, List.map_nil, List.getElem?_cons_zero, List.getElem?_cons_succ, Nat.sub_self, List.replicate_zero, List.replicate_succ, List.append_nil, List.cons_append, List.nil_append, List.set_cons_zero, List.set_cons_succ, Nat.reduceSub, to_ok, wipeP, true_and, glob0, glob1, glob2, glob3, glob4, glob5, glob6, glob7, glob8, glob9, capk0, capk1, capk2, capk3, capk4, capk5, w_neq' (rfl : En L a b w = En L a b w)]
  rw [times_ok (w20 hw) (w20 (W_dN h))]
  try simp only [w_int, w_bl, w_non, w_no, w_str, w_nil, w_one, w_var, toVar_some, w_glob, toGl_some, toTup_tup, toBl_true, toBl_false, w_cons, w_tup, w_lst, w_bin, w_cmp, w_chain, w_not, w_and, w_or, w_ife, toInt_int, w_neg, w_idx, w_slice, w_isi, w_call, w_blt, toSeq_tup, w_star, w_rev, onNx_nx, onNx_rt, onNx_ct, x_skip, x_seq, toSl_some, x_set, x_setC, x_par, x_ret, x_expr, x_cont, x_sif, onRt_rt, onRt_nx, onTurn_nx, onTurn_ct, onTurn_rt, lay, layN, List.map_cons, List.map_nil, List.getElem?_cons_zero, List.getElem?_cons_succ, Nat.sub_self, List.replicate_zero, List.replicate_succ, List.append_nil, List.cons_append, List.nil_append, List.set_cons_zero, List.set_cons_succ, Nat.reduceSub, to_ok, wipeP, true_and, glob0, glob1, glob2, glob3, glob4, glob5, glob6, glob7, glob8, glob9, capk0, capk1, capk2, capk3, capk4, capk5]
  rw [less_ok (w20 (hw.mul (W_dN h))) (w20 (W_dC h))]
  try simp only [w_int, w_bl, w_non, w_no, w_str, w_nil, w_one, w_var, toVar_some, w_glob, toGl_some, toTup_tup, toBl_true, toBl_false, w_cons, w_tup, w_lst, w_bin, w_cmp, w_chain, w_not, w_and, w_or, w_ife, toInt_int, w_neg, w_idx, w_slice, w_isi, w_call, w_blt, toSeq_tup, w_star, w_rev, onNx_nx, onNx_rt, onNx_ct, x_skip, x_seq, toSl_some, x_set, x_setC, x_par, x_ret, x_expr, x_cont, x_sif, onRt_rt, onRt_nx, onTurn_nx, onTurn_ct, onTurn_rt, lay, layN, List.map_cons, List.map_nil, List.getElem?_cons_zero, List.getElem?_cons_succ, Nat.sub_self, List.replicate_zero, List.replicate_succ, List.append_nil, List.cons_append, List.nil_append, List.set_cons_zero, List.set_cons_succ, Nat.reduceSub, to_ok, wipeP, true_and, glob0, glob1, glob2, glob3, glob4, glob5, glob6, glob7, glob8, glob9, capk0, capk1, capk2, capk3, capk4, capk5]
  rw [w_neq' (show w * (N L b - N L a) - (C L b - C L a) = En L a b w from rfl)]
  try simp only [w_int, w_bl, w_non, w_no, w_str, w_nil, w_one, w_var, toVar_some, w_glob, toGl_some, toTup_tup, toBl_true, toBl_false, w_cons, w_tup, w_lst, w_bin, w_cmp, w_chain, w_not, w_and, w_or, w_ife, toInt_int, w_neg, w_idx, w_slice, w_isi, w_call, w_blt, toSeq_tup, w_star, w_rev, onNx_nx, onNx_rt, onNx_ct, x_skip, x_seq, toSl_some, x_set, x_setC, x_par, x_ret, x_expr, x_cont, x_sif, onRt_rt, onRt_nx, onTurn_nx, onTurn_ct, onTurn_rt, lay, layN, List.map_cons, List.map_nil, List.getElem?_cons_zero, List.getElem?_cons_succ, Nat.sub_self, List.replicate_zero, List.replicate_succ, List.append_nil, List.cons_append, List.nil_append, List.set_cons_zero, List.set_cons_succ, Nat.reduceSub, to_ok, wipeP, true_and, glob0, glob1, glob2, glob3, glob4, glob5, glob6, glob7, glob8, glob9, capk0, capk1, capk2, capk3, capk4, capk5]
  refine (position_ok h hb3 ha3).to fun s7 h7 => ?_
  try simp only [w_int, w_bl, w_non, w_no, w_str, w_nil, w_one, w_var, toVar_some, w_glob, toGl_some, toTup_tup, toBl_true, toBl_false, w_cons, w_tup, w_lst, w_bin, w_cmp, w_chain, w_not, w_and, w_or, w_ife, toInt_int, w_neg, w_idx, w_slice, w_isi, w_call, w_blt, toSeq_tup, w_star, w_rev, onNx_nx, onNx_rt, onNx_ct, x_skip, x_seq, toSl_some, x_set, x_setC, x_par, x_ret, x_expr, x_cont, x_sif, onRt_rt, onRt_nx, onTurn_nx, onTurn_ct, onTurn_rt, lay, layN, List.map_cons, List.map_nil, List.getElem?_cons_zero, List.getElem?_cons_succ, Nat.sub_self, List.replicate_zero, List.replicate_succ, List.append_nil, List.cons_append, List.nil_append, List.set_cons_zero, List.set_cons_succ, Nat.reduceSub, to_ok, wipeP, true_and, glob0, glob1, glob2, glob3, glob4, glob5, glob6, glob7, glob8, glob9, capk0, capk1, capk2, capk3, capk4, capk5]
  refine (paid_ok h hb3 ha3).to fun s8 h8 => ?_
  try simp only [w_int, w_bl, w_non, w_no, w_str, w_nil, w_one, w_var, toVar_some, w_glob, toGl_some, toTup_tup, toBl_true, toBl_false, w_cons, w_tup, w_lst, w_bin, w_cmp, w_chain, w_not, w_and, w_or, w_ife, toInt_int, w_neg, w_idx, w_slice, w_isi, w_call, w_blt, toSeq_tup, w_star, w_rev, onNx_nx, onNx_rt, onNx_ct, x_skip, x_seq, toSl_some, x_set, x_setC, x_par, x_ret, x_expr, x_cont, x_sif, onRt_rt, onRt_nx, onTurn_nx, onTurn_ct, onTurn_rt, lay, layN, List.map_cons, List.map_nil, List.getElem?_cons_zero, List.getElem?_cons_succ, Nat.sub_self, List.replicate_zero, List.replicate_succ, List.append_nil, List.cons_append, List.nil_append, List.set_cons_zero, List.set_cons_succ, Nat.reduceSub, to_ok, wipeP, true_and, glob0, glob1, glob2, glob3, glob4, glob5, glob6, glob7, glob8, glob9, capk0, capk1, capk2, capk3, capk4, capk5]
  have z0 : (PV.tup [.int 0, .int 1]) = q 0 := rfl
  rw [z0, less_ok W0 (w20 (W_dN h))]
  try simp only [w_int, w_bl, w_non, w_no, w_str, w_nil, w_one, w_var, toVar_some, w_glob, toGl_some, toTup_tup, toBl_true, toBl_false, w_cons, w_tup, w_lst, w_bin, w_cmp, w_chain, w_not, w_and, w_or, w_ife, toInt_int, w_neg, w_idx, w_slice, w_isi, w_call, w_blt, toSeq_tup, w_star, w_rev, onNx_nx, onNx_rt, onNx_ct, x_skip, x_seq, toSl_some, x_set, x_setC, x_par, x_ret, x_expr, x_cont, x_sif, onRt_rt, onRt_nx, onTurn_nx, onTurn_ct, onTurn_rt, lay, layN, List.map_cons, List.map_nil, List.getElem?_cons_zero, List.getElem?_cons_succ, Nat.sub_self, List.replicate_zero, List.replicate_succ, List.append_nil, List.cons_append, List.nil_append, List.set_cons_zero, List.set_cons_succ, Nat.reduceSub, to_ok, wipeP, true_and, glob0, glob1, glob2, glob3, glob4, glob5, glob6, glob7, glob8, glob9, capk0, capk1, capk2, capk3, capk4, capk5]
  rw [less_ok W0 (w20 (W_dC h))]
  try simp only [w_int, w_bl, w_non, w_no, w_str, w_nil, w_one, w_var, toVar_some, w_glob, toGl_some, toTup_tup, toBl_true, toBl_false, w_cons, w_tup, w_lst, w_bin, w_cmp, w_chain, w_not, w_and, w_or, w_ife, toInt_int, w_neg, w_idx, w_slice, w_isi, w_call, w_blt, toSeq_tup, w_star, w_rev, onNx_nx, onNx_rt, onNx_ct, x_skip, x_seq, toSl_some, x_set, x_setC, x_par, x_ret, x_expr, x_cont, x_sif, onRt_rt, onRt_nx, onTurn_nx, onTurn_ct, onTurn_rt, lay, layN, List.map_cons, List.map_nil, List.getElem?_cons_zero, List.getElem?_cons_succ, Nat.sub_self, List.replicate_zero, List.replicate_succ, List.append_nil, List.cons_append, List.nil_append, List.set_cons_zero, List.set_cons_succ, Nat.reduceSub, to_ok, wipeP, true_and, glob0, glob1, glob2, glob3, glob4, glob5, glob6, glob7, glob8, glob9, capk0, capk1, capk2, capk3, capk4, capk5]
  have e1 : (0 : Rat) - (N L b - N L a) = N L a - N L b := by grind
  have e2 : (0 : Rat) - (C L b - C L a) = C L a - C L b := by grind
  rw [e1, e2]
  have hA : At (s8.new (.lst [q (N L a - N L b), q (C L a - C L b)])) s8.n ([N L a - N L b, C L a - C L b].map q) := At.new
  have hB : At ((s8.new (.lst [q (N L a - N L b), q (C L a - C L b)])).new (.lst [q (N L a - N L b), q (C L a - C L b)])) (s8.new (.lst [q (N L a - N L b), q (C L a - C L b)])).n ([N L a - N L b, C L a - C L b].map q) := At.new
  have hf9 : Fr [] s ((s8.new (.lst [q (N L a - N L b), q (C L a - C L b)])).new (.lst [q (N L a - N L b), q (C L a - C L b)])) := ((((((((h1.trans h2).trans h3).trans h4).trans h5).trans h6).trans h7).trans h8).trans .new).trans .new
  rw [neL (hA.fr0 .new) hB]
  generalize (s8.new (.lst [q (N L a - N L b), q (C L a - C L b)])).new (.lst [q (N L a - N L b), q (C L a - C L b)]) = s9 at hf9 ⊢
  try simp only [w_int, w_bl, w_non, w_no, w_str, w_nil, w_one, w_var, toVar_some, w_glob, toGl_some, toTup_tup, toBl_true, toBl_false, w_cons, w_tup, w_lst, w_bin, w_cmp, w_chain, w_not, w_and, w_or, w_ife, toInt_int, w_neg, w_idx, w_slice, w_isi, w_call, w_blt, toSeq_tup, w_star, w_rev, onNx_nx, onNx_rt, onNx_ct, x_skip, x_seq, toSl_some, x_set, x_setC, x_par, x_ret, x_expr, x_cont, x_sif, onRt_rt, onRt_nx, onTurn_nx, onTurn_ct, onTurn_rt, lay, layN, List.map_cons, List.map_nil, List.getElem?_cons_zero, List.getElem?_cons_succ, Nat.sub_self, List.replicate_zero, List.replicate_succ, List.append_nil, List.cons_append, List.nil_append, List.set_cons_zero, List.set_cons_succ, Nat.reduceSub, to_ok, wipeP, true_and, glob0, glob1, glob2, glob3, glob4, glob5, glob6, glob7, glob8, glob9, capk0, capk1, capk2, capk3, capk4, capk5]
  refine comp_pure L row (fun p => if (decide (a < p.1) && !decide (b < p.1)) = true then some (row p) else none) ?_ (by simp [cap]; omega) (fun p hp s' hs => ?_) fun i s10 hf10 hA10 hi => ?_
  · simp only [j_seq, w_int, w_bl, w_non, w_no, w_str, w_nil, w_one, w_var, toVar_some, w_glob, toGl_some, toTup_tup, toBl_true, toBl_false, w_cons, w_tup, w_lst, w_bin, w_cmp, w_chain, w_not, w_and, w_or, w_ife, toInt_int, w_neg, w_idx, w_slice, w_isi, w_call, w_blt, toSeq_tup, w_star, w_rev, onNx_nx, onNx_rt, onNx_ct, x_skip, x_seq, toSl_some, x_set, x_setC, x_par, x_ret, x_expr, x_cont, x_sif, onRt_rt, onRt_nx, onTurn_nx, onTurn_ct, onTurn_rt, lay, layN, List.map_cons, List.map_nil, List.getElem?_cons_zero, List.getElem?_cons_succ, Nat.sub_self, List.replicate_zero, List.replicate_succ, List.append_nil, List.cons_append, List.nil_append, List.set_cons_zero, List.set_cons_succ, Nat.reduceSub, to_ok, wipeP, true_and, glob0, glob1, glob2, glob3, glob4, glob5, glob6, glob7, glob8, glob9, capk0, capk1, capk2, capk3, capk4, capk5, lad]
    exact ⟨by simp [It.most], sees_t, .refl⟩
  · have hwp := (h.w p hp).1
    simp only [Turn, w_int, w_bl, w_non, w_no, w_str, w_nil, w_one, w_var, toVar_some, w_glob, toGl_some, toTup_tup, toBl_true, toBl_false, w_cons, w_tup, w_lst, w_bin, w_cmp, w_chain, w_not, w_and, w_or, w_ife, toInt_int, w_neg, w_idx, w_slice, w_isi, w_call, w_blt, toSeq_tup, w_star, w_rev, onNx_nx, onNx_rt, onNx_ct, x_skip, x_seq, toSl_some, x_set, x_setC, x_par, x_ret, x_expr, x_cont, x_sif, onRt_rt, onRt_nx, onTurn_nx, onTurn_ct, onTurn_rt, lay, layN, List.map_cons, List.map_nil, List.getElem?_cons_zero, List.getElem?_cons_succ, Nat.sub_self, List.replicate_zero, List.replicate_succ, List.append_nil, List.cons_append, List.nil_append, List.set_cons_zero, List.set_cons_succ, Nat.reduceSub, to_ok, wipeP, true_and, glob0, glob1, glob2, glob3, glob4, glob5, glob6, glob7, glob8, glob9, capk0, capk1, capk2, capk3, capk4, capk5, row_0, lunder_ok (w20 ha) (w20 hwp)]
    by_cases c1 : a < p.1
    · simp only [c1, decide_true, w_int, w_bl, w_non, w_no, w_str, w_nil, w_one, w_var, toVar_some, w_glob, toGl_some, toTup_tup, toBl_true, toBl_false, w_cons, w_tup, w_lst, w_bin, w_cmp, w_chain, w_not, w_and, w_or, w_ife, toInt_int, w_neg, w_idx, w_slice, w_isi, w_call, w_blt, toSeq_tup, w_star, w_rev, onNx_nx, onNx_rt, onNx_ct, x_skip, x_seq, toSl_some, x_set, x_setC, x_par, x_ret, x_expr, x_cont, x_sif, onRt_rt, onRt_nx, onTurn_nx, onTurn_ct, onTurn_rt, lay, layN, List.map_cons, List.map_nil, List.getElem?_cons_zero, List.getElem?_cons_succ, Nat.sub_self, List.replicate_zero, List.replicate_succ, List.append_nil, List.cons_append, List.nil_append, List.set_cons_zero, List.set_cons_succ, Nat.reduceSub, to_ok, wipeP, true_and, glob0, glob1, glob2, glob3, glob4, glob5, glob6, glob7, glob8, glob9, capk0, capk1, capk2, capk3, capk4, capk5, row_0, lunder_ok (w20 hb) (w20 hwp), Bool.true_and]
      by_cases c2 : b < p.1
      · simp only [c2, decide_true, w_int, w_bl, w_non, w_no, w_str, w_nil, w_one, w_var, toVar_some, w_glob, toGl_some, toTup_tup, toBl_true, toBl_false, w_cons, w_tup, w_lst, w_bin, w_cmp, w_chain, w_not, w_and, w_or, w_ife, toInt_int, w_neg, w_idx, w_slice, w_isi, w_call, w_blt, toSeq_tup, w_star, w_rev, onNx_nx, onNx_rt, onNx_ct, x_skip, x_seq, toSl_some, x_set, x_setC, x_par, x_ret, x_expr, x_cont, x_sif, onRt_rt, onRt_nx, onTurn_nx, onTurn_ct, onTurn_rt, lay, layN, List.map_cons, List.map_nil, List.getElem?_cons_zero, List.getElem?_cons_succ, Nat.sub_self, List.replicate_zero, List.replicate_succ, List.append_nil, List.cons_append, List.nil_append, List.set_cons_zero, List.set_cons_succ, Nat.reduceSub, to_ok, wipeP, true_and, glob0, glob1, glob2, glob3, glob4, glob5, glob6, glob7, glob8, glob9, capk0, capk1, capk2, capk3, capk4, capk5]
        exact ⟨rfl, .refl⟩
      · simp only [c2, decide_false, w_int, w_bl, w_non, w_no, w_str, w_nil, w_one, w_var, toVar_some, w_glob, toGl_some, toTup_tup, toBl_true, toBl_false, w_cons, w_tup, w_lst, w_bin, w_cmp, w_chain, w_not, w_and, w_or, w_ife, toInt_int, w_neg, w_idx, w_slice, w_isi, w_call, w_blt, toSeq_tup, w_star, w_rev, onNx_nx, onNx_rt, onNx_ct, x_skip, x_seq, toSl_some, x_set, x_setC, x_par, x_ret, x_expr, x_cont, x_sif, onRt_rt, onRt_nx, onTurn_nx, onTurn_ct, onTurn_rt, lay, layN, List.map_cons, List.map_nil, List.getElem?_cons_zero, List.getElem?_cons_succ, Nat.sub_self, List.replicate_zero, List.replicate_succ, List.append_nil, List.cons_append, List.nil_append, List.set_cons_zero, List.set_cons_succ, Nat.reduceSub, to_ok, wipeP, true_and, glob0, glob1, glob2, glob3, glob4, glob5, glob6, glob7, glob8, glob9, capk0, capk1, capk2, capk3, capk4, capk5]
        exact ⟨rfl, .refl⟩
    · simp only [c1, decide_false, w_int, w_bl, w_non, w_no, w_str, w_nil, w_one, w_var, toVar_some, w_glob, toGl_some, toTup_tup, toBl_true, toBl_false, w_cons, w_tup, w_lst, w_bin, w_cmp, w_chain, w_not, w_and, w_or, w_ife, toInt_int, w_neg, w_idx, w_slice, w_isi, w_call, w_blt, toSeq_tup, w_star, w_rev, onNx_nx, onNx_rt, onNx_ct, x_skip, x_seq, toSl_some, x_set, x_setC, x_par, x_ret, x_expr, x_cont, x_sif, onRt_rt, onRt_nx, onTurn_nx, onTurn_ct, onTurn_rt, lay, layN, List.map_cons, List.map_nil, List.getElem?_cons_zero, List.getElem?_cons_succ, Nat.sub_self, List.replicate_zero, List.replicate_succ, List.append_nil, List.cons_append, List.nil_append, List.set_cons_zero, List.set_cons_succ, Nat.reduceSub, to_ok, wipeP, true_and, glob0, glob1, glob2, glob3, glob4, glob5, glob6, glob7, glob8, glob9, capk0, capk1, capk2, capk3, capk4, capk5]
      exact ⟨rfl, .refl⟩
  · rw [fm_if] at hA10
    have hA10' : At s10 i ((btw L a b).map row) := hA10
    have f10 : Fr [] s s10 := hf9.trans hf10
    have hbl : (btw L a b).length ≤ 10 := Nat.le_trans btw_len hl
    simp only [w_int, w_bl, w_non, w_no, w_str, w_nil, w_one, w_var, toVar_some, w_glob, toGl_some, toTup_tup, toBl_true, toBl_false, w_cons, w_tup, w_lst, w_bin, w_cmp, w_chain, w_not, w_and, w_or, w_ife, toInt_int, w_neg, w_idx, w_slice, w_isi, w_call, w_blt, toSeq_tup, w_star, w_rev, onNx_nx, onNx_rt, onNx_ct, x_skip, x_seq, toSl_some, x_set, x_setC, x_par, x_ret, x_expr, x_cont, x_sif, onRt_rt, onRt_nx, onTurn_nx, onTurn_ct, onTurn_rt, lay, layN, List.map_cons, List.map_nil, List.getElem?_cons_zero, List.getElem?_cons_succ, Nat.sub_self, List.replicate_zero, List.replicate_succ, List.append_nil, List.cons_append, List.nil_append, List.set_cons_zero, List.set_cons_succ, Nat.reduceSub, to_ok, wipeP, true_and, glob0, glob1, glob2, glob3, glob4, glob5, glob6, glob7, glob8, glob9, capk0, capk1, capk2, capk3, capk4, capk5, lunder_ok (w20 hb) (w20 ha)]
    by_cases c : b < a
    · simp only [c, decide_true, w_int, w_bl, w_non, w_no, w_str, w_nil, w_one, w_var, toVar_some, w_glob, toGl_some, toTup_tup, toBl_true, toBl_false, w_cons, w_tup, w_lst, w_bin, w_cmp, w_chain, w_not, w_and, w_or, w_ife, toInt_int, w_neg, w_idx, w_slice, w_isi, w_call, w_blt, toSeq_tup, w_star, w_rev, onNx_nx, onNx_rt, onNx_ct, x_skip, x_seq, toSl_some, x_set, x_setC, x_par, x_ret, x_expr, x_cont, x_sif, onRt_rt, onRt_nx, onTurn_nx, onTurn_ct, onTurn_rt, lay, layN, List.map_cons, List.map_nil, List.getElem?_cons_zero, List.getElem?_cons_succ, Nat.sub_self, List.replicate_zero, List.replicate_succ, List.append_nil, List.cons_append, List.nil_append, List.set_cons_zero, List.set_cons_succ, Nat.reduceSub, to_ok, wipeP, true_and, glob0, glob1, glob2, glob3, glob4, glob5, glob6, glob7, glob8, glob9, capk0, capk1, capk2, capk3, capk4, capk5]
      exact f10
    · have hab : a ≤ b := by grind
      simp only [c, decide_false, w_int, w_bl, w_non, w_no, w_str, w_nil, w_one, w_var, toVar_some, w_glob, toGl_some, toTup_tup, toBl_true, toBl_false, w_cons, w_tup, w_lst, w_bin, w_cmp, w_chain, w_not, w_and, w_or, w_ife, toInt_int, w_neg, w_idx, w_slice, w_isi, w_call, w_blt, toSeq_tup, w_star, w_rev, onNx_nx, onNx_rt, onNx_ct, x_skip, x_seq, toSl_some, x_set, x_setC, x_par, x_ret, x_expr, x_cont, x_sif, onRt_rt, onRt_nx, onTurn_nx, onTurn_ct, onTurn_rt, lay, layN, List.map_cons, List.map_nil, List.getElem?_cons_zero, List.getElem?_cons_succ, Nat.sub_self, List.replicate_zero, List.replicate_succ, List.append_nil, List.cons_append, List.nil_append, List.set_cons_zero, List.set_cons_succ, Nat.reduceSub, to_ok, wipeP, true_and, glob0, glob1, glob2, glob3, glob4, glob5, glob6, glob7, glob8, glob9, capk0, capk1, capk2, capk3, capk4, capk5]
      refine comp_pure (btw L a b) row (fun p => some (q p.2)) ?_ (by simp [cap]; omega) (fun p hp s' hs => ?_) fun i1 s11 hf11 hA11 hi1 => ?_
      · simp only [j_seq, w_int, w_bl, w_non, w_no, w_str, w_nil, w_one, w_var, toVar_some, w_glob, toGl_some, toTup_tup, toBl_true, toBl_false, w_cons, w_tup, w_lst, w_bin, w_cmp, w_chain, w_not, w_and, w_or, w_ife, toInt_int, w_neg, w_idx, w_slice, w_isi, w_call, w_blt, toSeq_tup, w_star, w_rev, onNx_nx, onNx_rt, onNx_ct, x_skip, x_seq, toSl_some, x_set, x_setC, x_par, x_ret, x_expr, x_cont, x_sif, onRt_rt, onRt_nx, onTurn_nx, onTurn_ct, onTurn_rt, lay, layN, List.map_cons, List.map_nil, List.getElem?_cons_zero, List.getElem?_cons_succ, Nat.sub_self, List.replicate_zero, List.replicate_succ, List.append_nil, List.cons_append, List.nil_append, List.set_cons_zero, List.set_cons_succ, Nat.reduceSub, to_ok, wipeP, true_and, glob0, glob1, glob2, glob3, glob4, glob5, glob6, glob7, glob8, glob9, capk0, capk1, capk2, capk3, capk4, capk5]
        exact ⟨_, hA10'.getL, by simp [It.most, hA10'.getL], sees_l fun s'' hs'' => hA10'.fr0 hs'', .refl⟩
      · simp only [Turn, w_int, w_bl, w_non, w_no, w_str, w_nil, w_one, w_var, toVar_some, w_glob, toGl_some, toTup_tup, toBl_true, toBl_false, w_cons, w_tup, w_lst, w_bin, w_cmp, w_chain, w_not, w_and, w_or, w_ife, toInt_int, w_neg, w_idx, w_slice, w_isi, w_call, w_blt, toSeq_tup, w_star, w_rev, onNx_nx, onNx_rt, onNx_ct, x_skip, x_seq, toSl_some, x_set, x_setC, x_par, x_ret, x_expr, x_cont, x_sif, onRt_rt, onRt_nx, onTurn_nx, onTurn_ct, onTurn_rt, lay, layN, List.map_cons, List.map_nil, List.getElem?_cons_zero, List.getElem?_cons_succ, Nat.sub_self, List.replicate_zero, List.replicate_succ, List.append_nil, List.cons_append, List.nil_append, List.set_cons_zero, List.set_cons_succ, Nat.reduceSub, to_ok, wipeP, true_and, glob0, glob1, glob2, glob3, glob4, glob5, glob6, glob7, glob8, glob9, capk0, capk1, capk2, capk3, capk4, capk5, row_1]
        exact .refl
      · rw [fm_some, show (btw L a b).map (fun p => q p.2) = ((btw L a b).map (·.2)).map q by simp] at hA11
        try simp only [w_int, w_bl, w_non, w_no, w_str, w_nil, w_one, w_var, toVar_some, w_glob, toGl_some, toTup_tup, toBl_true, toBl_false, w_cons, w_tup, w_lst, w_bin, w_cmp, w_chain, w_not, w_and, w_or, w_ife, toInt_int, w_neg, w_idx, w_slice, w_isi, w_call, w_blt, toSeq_tup, w_star, w_rev, onNx_nx, onNx_rt, onNx_ct, x_skip, x_seq, toSl_some, x_set, x_setC, x_par, x_ret, x_expr, x_cont, x_sif, onRt_rt, onRt_nx, onTurn_nx, onTurn_ct, onTurn_rt, lay, layN, List.map_cons, List.map_nil, List.getElem?_cons_zero, List.getElem?_cons_succ, Nat.sub_self, List.replicate_zero, List.replicate_succ, List.append_nil, List.cons_append, List.nil_append, List.set_cons_zero, List.set_cons_succ, Nat.reduceSub, to_ok, wipeP, true_and, glob0, glob1, glob2, glob3, glob4, glob5, glob6, glob7, glob8, glob9, capk0, capk1, capk2, capk3, capk4, capk5]
        rw [lsum_ok (k := 20) hA11 (fun x hx => by
          obtain ⟨p, hp, rfl⟩ := List.mem_map.mp hx
          exact (h.w p (btw_mem hp)).2) (by decide) (by rw [List.length_map]; omega)]
        try simp only [w_int, w_bl, w_non, w_no, w_str, w_nil, w_one, w_var, toVar_some, w_glob, toGl_some, toTup_tup, toBl_true, toBl_false, w_cons, w_tup, w_lst, w_bin, w_cmp, w_chain, w_not, w_and, w_or, w_ife, toInt_int, w_neg, w_idx, w_slice, w_isi, w_call, w_blt, toSeq_tup, w_star, w_rev, onNx_nx, onNx_rt, onNx_ct, x_skip, x_seq, toSl_some, x_set, x_setC, x_par, x_ret, x_expr, x_cont, x_sif, onRt_rt, onRt_nx, onTurn_nx, onTurn_ct, onTurn_rt, lay, layN, List.map_cons, List.map_nil, List.getElem?_cons_zero, List.getElem?_cons_succ, Nat.sub_self, List.replicate_zero, List.replicate_succ, List.append_nil, List.cons_append, List.nil_append, List.set_cons_zero, List.set_cons_succ, Nat.reduceSub, to_ok, wipeP, true_and, glob0, glob1, glob2, glob3, glob4, glob5, glob6, glob7, glob8, glob9, capk0, capk1, capk2, capk3, capk4, capk5]
        rw [w_neq' (show N L b - N L a = S ((btw L a b).map (·.2)) from (S_filter _ hab).symm)]
        try simp only [w_int, w_bl, w_non, w_no, w_str, w_nil, w_one, w_var, toVar_some, w_glob, toGl_some, toTup_tup, toBl_true, toBl_false, w_cons, w_tup, w_lst, w_bin, w_cmp, w_chain, w_not, w_and, w_or, w_ife, toInt_int, w_neg, w_idx, w_slice, w_isi, w_call, w_blt, toSeq_tup, w_star, w_rev, onNx_nx, onNx_rt, onNx_ct, x_skip, x_seq, toSl_some, x_set, x_setC, x_par, x_ret, x_expr, x_cont, x_sif, onRt_rt, onRt_nx, onTurn_nx, onTurn_ct, onTurn_rt, lay, layN, List.map_cons, List.map_nil, List.getElem?_cons_zero, List.getElem?_cons_succ, Nat.sub_self, List.replicate_zero, List.replicate_succ, List.append_nil, List.cons_append, List.nil_append, List.set_cons_zero, List.set_cons_succ, Nat.reduceSub, to_ok, wipeP, true_and, glob0, glob1, glob2, glob3, glob4, glob5, glob6, glob7, glob8, glob9, capk0, capk1, capk2, capk3, capk4, capk5]
        have hA12 := hA10'.fr0 hf11
        refine comp_pure (btw L a b) row (fun p => some (q (p.1 * p.2))) ?_ (by simp [cap]; omega) (fun p hp s' hs => ?_) fun i2 s12 hf12 hA13 hi2 => ?_
        · simp only [j_seq, w_int, w_bl, w_non, w_no, w_str, w_nil, w_one, w_var, toVar_some, w_glob, toGl_some, toTup_tup, toBl_true, toBl_false, w_cons, w_tup, w_lst, w_bin, w_cmp, w_chain, w_not, w_and, w_or, w_ife, toInt_int, w_neg, w_idx, w_slice, w_isi, w_call, w_blt, toSeq_tup, w_star, w_rev, onNx_nx, onNx_rt, onNx_ct, x_skip, x_seq, toSl_some, x_set, x_setC, x_par, x_ret, x_expr, x_cont, x_sif, onRt_rt, onRt_nx, onTurn_nx, onTurn_ct, onTurn_rt, lay, layN, List.map_cons, List.map_nil, List.getElem?_cons_zero, List.getElem?_cons_succ, Nat.sub_self, List.replicate_zero, List.replicate_succ, List.append_nil, List.cons_append, List.nil_append, List.set_cons_zero, List.set_cons_succ, Nat.reduceSub, to_ok, wipeP, true_and, glob0, glob1, glob2, glob3, glob4, glob5, glob6, glob7, glob8, glob9, capk0, capk1, capk2, capk3, capk4, capk5]
          exact ⟨_, hA12.getL, by simp [It.most, hA12.getL], sees_l fun s'' hs'' => hA12.fr0 hs'', .refl⟩
        · have hwp := h.w p (btw_mem hp)
          simp only [Turn, w_int, w_bl, w_non, w_no, w_str, w_nil, w_one, w_var, toVar_some, w_glob, toGl_some, toTup_tup, toBl_true, toBl_false, w_cons, w_tup, w_lst, w_bin, w_cmp, w_chain, w_not, w_and, w_or, w_ife, toInt_int, w_neg, w_idx, w_slice, w_isi, w_call, w_blt, toSeq_tup, w_star, w_rev, onNx_nx, onNx_rt, onNx_ct, x_skip, x_seq, toSl_some, x_set, x_setC, x_par, x_ret, x_expr, x_cont, x_sif, onRt_rt, onRt_nx, onTurn_nx, onTurn_ct, onTurn_rt, lay, layN, List.map_cons, List.map_nil, List.getElem?_cons_zero, List.getElem?_cons_succ, Nat.sub_self, List.replicate_zero, List.replicate_succ, List.append_nil, List.cons_append, List.nil_append, List.set_cons_zero, List.set_cons_succ, Nat.reduceSub, to_ok, wipeP, true_and, glob0, glob1, glob2, glob3, glob4, glob5, glob6, glob7, glob8, glob9, capk0, capk1, capk2, capk3, capk4, capk5, row_0, row_1, times_ok (w20 hwp.1) (w20 hwp.2)]
          exact .refl
        · rw [fm_some, show (btw L a b).map (fun p => q (p.1 * p.2)) = ((btw L a b).map (fun p => p.1 * p.2)).map q by simp] at hA13
          try simp only [w_int, w_bl, w_non, w_no, w_str, w_nil, w_one, w_var, toVar_some, w_glob, toGl_some, toTup_tup, toBl_true, toBl_false, w_cons, w_tup, w_lst, w_bin, w_cmp, w_chain, w_not, w_and, w_or, w_ife, toInt_int, w_neg, w_idx, w_slice, w_isi, w_call, w_blt, toSeq_tup, w_star, w_rev, onNx_nx, onNx_rt, onNx_ct, x_skip, x_seq, toSl_some, x_set, x_setC, x_par, x_ret, x_expr, x_cont, x_sif, onRt_rt, onRt_nx, onTurn_nx, onTurn_ct, onTurn_rt, lay, layN, List.map_cons, List.map_nil, List.getElem?_cons_zero, List.getElem?_cons_succ, Nat.sub_self, List.replicate_zero, List.replicate_succ, List.append_nil, List.cons_append, List.nil_append, List.set_cons_zero, List.set_cons_succ, Nat.reduceSub, to_ok, wipeP, true_and, glob0, glob1, glob2, glob3, glob4, glob5, glob6, glob7, glob8, glob9, capk0, capk1, capk2, capk3, capk4, capk5]
          rw [lsum_ok (k := 40) hA13 (fun x hx => by
            obtain ⟨p, hp, rfl⟩ := List.mem_map.mp hx
            have := h.w p (btw_mem hp)
            exact this.1.mul this.2) (by decide) (by rw [List.length_map]; omega)]
          try simp only [w_int, w_bl, w_non, w_no, w_str, w_nil, w_one, w_var, toVar_some, w_glob, toGl_some, toTup_tup, toBl_true, toBl_false, w_cons, w_tup, w_lst, w_bin, w_cmp, w_chain, w_not, w_and, w_or, w_ife, toInt_int, w_neg, w_idx, w_slice, w_isi, w_call, w_blt, toSeq_tup, w_star, w_rev, onNx_nx, onNx_rt, onNx_ct, x_skip, x_seq, toSl_some, x_set, x_setC, x_par, x_ret, x_expr, x_cont, x_sif, onRt_rt, onRt_nx, onTurn_nx, onTurn_ct, onTurn_rt, lay, layN, List.map_cons, List.map_nil, List.getElem?_cons_zero, List.getElem?_cons_succ, Nat.sub_self, List.replicate_zero, List.replicate_succ, List.append_nil, List.cons_append, List.nil_append, List.set_cons_zero, List.set_cons_succ, Nat.reduceSub, to_ok, wipeP, true_and, glob0, glob1, glob2, glob3, glob4, glob5, glob6, glob7, glob8, glob9, capk0, capk1, capk2, capk3, capk4, capk5]
          have e3 : C L b - C L a = S ((btw L a b).map fun p => p.1 * p.2) := by
            have e4 : (btw L a b).map (fun p => p.1 * p.2) = (btw L a b).map (fun p => p.2 * p.1) := List.map_congr_left fun p _ => Rat.mul_comm _ _
            rw [e4]
            exact (S_filter _ hab).symm
          rw [w_eqq' e3]
          exact ⟨rfl, (f10.trans hf11).trans hf12⟩
theorem line_right_ok {i : Nat} {x0 x1 : Rat} {xs : List Rat} (h : Lad L) (hr : W 20 r) (hx : ∀ x ∈ x0 :: x1 :: xs, W 20 x) (hi : At s i ((x0 :: x1 :: xs).map q)) : Gives (runF T (n + 10) 67 [lad L, q r, .lst i] s) s (.bl true) := by
  refine run_to d__law_line_right rfl ?_
  have hS := h.sco
  have hr3 := hr.mono (by decide : 20 ≤ 30)
  have w0 := hx x0 List.mem_cons_self
  have w1 := hx x1 (List.mem_cons_of_mem _ List.mem_cons_self)
  simp only [c__law_line_right, w_int, w_bl, w_non, w_no, w_str, w_nil, w_one, w_var, toVar_some, w_glob, toGl_some, toTup_tup, toBl_true, toBl_false, w_cons, w_tup, w_lst, w_bin, w_cmp, w_chain, w_not, w_and, w_or, w_ife, toInt_int, w_neg, w_idx, w_slice, w_isi, w_call, w_blt, toSeq_tup, w_star, w_rev, onNx_nx, onNx_rt, onNx_ct, x_skip, x_seq, toSl_some, x_set, x_setC, x_par, x_ret, x_expr, x_cont, x_sif, onRt_rt, onRt_nx, onTurn_nx, onTurn_ct, onTurn_rt, lay, layN, List.map_cons, List.map_nil, List.getElem?_cons_zero, List.getElem?_cons_succ, Nat.sub_self, List.replicate_zero, List.replicate_succ, List.append_nil, List.cons_append, List.nil_append, List.set_cons_zero, List.set_cons_succ, Nat.reduceSub, to_ok, wipeP, true_and, glob0, glob1, glob2, glob3, glob4, glob5, glob6, glob7, glob8, glob9, capk0, capk1, capk2, capk3, capk4, capk5]
  refine to_mono (points_of_ok h hr) fun v s1 ⟨h1, lo, hi', he, ev⟩ => ?_
  subst ev
  have hP := pts_ok h hr he
  try simp only [w_int, w_bl, w_non, w_no, w_str, w_nil, w_one, w_var, toVar_some, w_glob, toGl_some, toTup_tup, toBl_true, toBl_false, w_cons, w_tup, w_lst, w_bin, w_cmp, w_chain, w_not, w_and, w_or, w_ife, toInt_int, w_neg, w_idx, w_slice, w_isi, w_call, w_blt, toSeq_tup, w_star, w_rev, onNx_nx, onNx_rt, onNx_ct, x_skip, x_seq, toSl_some, x_set, x_setC, x_par, x_ret, x_expr, x_cont, x_sif, onRt_rt, onRt_nx, onTurn_nx, onTurn_ct, onTurn_rt, lay, layN, List.map_cons, List.map_nil, List.getElem?_cons_zero, List.getElem?_cons_succ, Nat.sub_self, List.replicate_zero, List.replicate_succ, List.append_nil, List.cons_append, List.nil_append, List.set_cons_zero, List.set_cons_succ, Nat.reduceSub, to_ok, wipeP, true_and, glob0, glob1, glob2, glob3, glob4, glob5, glob6, glob7, glob8, glob9, capk0, capk1, capk2, capk3, capk4, capk5]
  refine (asscore' h).to fun s2 h2 => ?_
  try simp only [w_int, w_bl, w_non, w_no, w_str, w_nil, w_one, w_var, toVar_some, w_glob, toGl_some, toTup_tup, toBl_true, toBl_false, w_cons, w_tup, w_lst, w_bin, w_cmp, w_chain, w_not, w_and, w_or, w_ife, toInt_int, w_neg, w_idx, w_slice, w_isi, w_call, w_blt, toSeq_tup, w_star, w_rev, onNx_nx, onNx_rt, onNx_ct, x_skip, x_seq, toSl_some, x_set, x_setC, x_par, x_ret, x_expr, x_cont, x_sif, onRt_rt, onRt_nx, onTurn_nx, onTurn_ct, onTurn_rt, lay, layN, List.map_cons, List.map_nil, List.getElem?_cons_zero, List.getElem?_cons_succ, Nat.sub_self, List.replicate_zero, List.replicate_succ, List.append_nil, List.cons_append, List.nil_append, List.set_cons_zero, List.set_cons_succ, Nat.reduceSub, to_ok, wipeP, true_and, glob0, glob1, glob2, glob3, glob4, glob5, glob6, glob7, glob8, glob9, capk0, capk1, capk2, capk3, capk4, capk5]
  refine (back_ok hP hr3 (no_fall h he) (fun v hv => by rw [line_eq h he hv]; exact en_self) (fun k t ha ht => slope_zero h he ha ht)).to fun s3 h3 => ?_
  rw [back_eq h he]
  simp only [evCmp, eqP_lad, to_ok, w_int, w_bl, w_non, w_no, w_str, w_nil, w_one, w_var, toVar_some, w_glob, toGl_some, toTup_tup, toBl_true, toBl_false, w_cons, w_tup, w_lst, w_bin, w_cmp, w_chain, w_not, w_and, w_or, w_ife, toInt_int, w_neg, w_idx, w_slice, w_isi, w_call, w_blt, toSeq_tup, w_star, w_rev, onNx_nx, onNx_rt, onNx_ct, x_skip, x_seq, toSl_some, x_set, x_setC, x_par, x_ret, x_expr, x_cont, x_sif, onRt_rt, onRt_nx, onTurn_nx, onTurn_ct, onTurn_rt, lay, layN, List.map_cons, List.map_nil, List.getElem?_cons_zero, List.getElem?_cons_succ, Nat.sub_self, List.replicate_zero, List.replicate_succ, List.append_nil, List.cons_append, List.nil_append, List.set_cons_zero, List.set_cons_succ, Nat.reduceSub, to_ok, wipeP, true_and, glob0, glob1, glob2, glob3, glob4, glob5, glob6, glob7, glob8, glob9, capk0, capk1, capk2, capk3, capk4, capk5, Bool.not_true]
  have f3 := (h1.trans h2).trans h3
  have hi3 := hi.fr0 f3
  refine x_for (x0 :: x1 :: xs) q (Fr [] s3) (fun k σ s' => Fr [] s3 s' ∧ ∃ o o', σ = [some (lad L), some (q r), some (.lst i), some (lad (pts L r lo hi')), some (.tup ((sco L).map pv)), o, none, none, none, none, o']) ?_ (fun k σ s' h => h.1) (fun k x σ s' hk ⟨hJ, o, o', eσ⟩ => ?_) (fun σ s' ⟨hJ, o, o', eσ⟩ => ?_)
  · simp only [j_seq, w_int, w_bl, w_non, w_no, w_str, w_nil, w_one, w_var, toVar_some, w_glob, toGl_some, toTup_tup, toBl_true, toBl_false, w_cons, w_tup, w_lst, w_bin, w_cmp, w_chain, w_not, w_and, w_or, w_ife, toInt_int, w_neg, w_idx, w_slice, w_isi, w_call, w_blt, toSeq_tup, w_star, w_rev, onNx_nx, onNx_rt, onNx_ct, x_skip, x_seq, toSl_some, x_set, x_setC, x_par, x_ret, x_expr, x_cont, x_sif, onRt_rt, onRt_nx, onTurn_nx, onTurn_ct, onTurn_rt, lay, layN, List.map_cons, List.map_nil, List.getElem?_cons_zero, List.getElem?_cons_succ, Nat.sub_self, List.replicate_zero, List.replicate_succ, List.append_nil, List.cons_append, List.nil_append, List.set_cons_zero, List.set_cons_succ, Nat.reduceSub, to_ok, wipeP, true_and, glob0, glob1, glob2, glob3, glob4, glob5, glob6, glob7, glob8, glob9, capk0, capk1, capk2, capk3, capk4, capk5]
    exact ⟨_, hi3.getL, by simp [It.most, hi3.getL], sees_l fun s'' hs'' => hi3.fr0 hs'', .refl, none, none, rfl⟩
  · subst eσ
    have hxm := List.mem_of_getElem? hk
    have wx := hx x hxm
    have wx3 := wx.mono (by decide : 20 ≤ 30)
    simp only [w_int, w_bl, w_non, w_no, w_str, w_nil, w_one, w_var, toVar_some, w_glob, toGl_some, toTup_tup, toBl_true, toBl_false, w_cons, w_tup, w_lst, w_bin, w_cmp, w_chain, w_not, w_and, w_or, w_ife, toInt_int, w_neg, w_idx, w_slice, w_isi, w_call, w_blt, toSeq_tup, w_star, w_rev, onNx_nx, onNx_rt, onNx_ct, x_skip, x_seq, toSl_some, x_set, x_setC, x_par, x_ret, x_expr, x_cont, x_sif, onRt_rt, onRt_nx, onTurn_nx, onTurn_ct, onTurn_rt, lay, layN, List.map_cons, List.map_nil, List.getElem?_cons_zero, List.getElem?_cons_succ, Nat.sub_self, List.replicate_zero, List.replicate_succ, List.append_nil, List.cons_append, List.nil_append, List.set_cons_zero, List.set_cons_succ, Nat.reduceSub, to_ok, wipeP, true_and, glob0, glob1, glob2, glob3, glob4, glob5, glob6, glob7, glob8, glob9, capk0, capk1, capk2, capk3, capk4, capk5]
    refine (loss_ok (w := x) (g := r) hS wx hr).to fun s4 h4 => ?_
    rw [Ls_sco]
    try simp only [w_int, w_bl, w_non, w_no, w_str, w_nil, w_one, w_var, toVar_some, w_glob, toGl_some, toTup_tup, toBl_true, toBl_false, w_cons, w_tup, w_lst, w_bin, w_cmp, w_chain, w_not, w_and, w_or, w_ife, toInt_int, w_neg, w_idx, w_slice, w_isi, w_call, w_blt, toSeq_tup, w_star, w_rev, onNx_nx, onNx_rt, onNx_ct, x_skip, x_seq, toSl_some, x_set, x_setC, x_par, x_ret, x_expr, x_cont, x_sif, onRt_rt, onRt_nx, onTurn_nx, onTurn_ct, onTurn_rt, lay, layN, List.map_cons, List.map_nil, List.getElem?_cons_zero, List.getElem?_cons_succ, Nat.sub_self, List.replicate_zero, List.replicate_succ, List.append_nil, List.cons_append, List.nil_append, List.set_cons_zero, List.set_cons_succ, Nat.reduceSub, to_ok, wipeP, true_and, glob0, glob1, glob2, glob3, glob4, glob5, glob6, glob7, glob8, glob9, capk0, capk1, capk2, capk3, capk4, capk5]
    refine (loss_at_ok h hr3 wx3).to fun s5 h5 => ?_
    try simp only [w_int, w_bl, w_non, w_no, w_str, w_nil, w_one, w_var, toVar_some, w_glob, toGl_some, toTup_tup, toBl_true, toBl_false, w_cons, w_tup, w_lst, w_bin, w_cmp, w_chain, w_not, w_and, w_or, w_ife, toInt_int, w_neg, w_idx, w_slice, w_isi, w_call, w_blt, toSeq_tup, w_star, w_rev, onNx_nx, onNx_rt, onNx_ct, x_skip, x_seq, toSl_some, x_set, x_setC, x_par, x_ret, x_expr, x_cont, x_sif, onRt_rt, onRt_nx, onTurn_nx, onTurn_ct, onTurn_rt, lay, layN, List.map_cons, List.map_nil, List.getElem?_cons_zero, List.getElem?_cons_succ, Nat.sub_self, List.replicate_zero, List.replicate_succ, List.append_nil, List.cons_append, List.nil_append, List.set_cons_zero, List.set_cons_succ, Nat.reduceSub, to_ok, wipeP, true_and, glob0, glob1, glob2, glob3, glob4, glob5, glob6, glob7, glob8, glob9, capk0, capk1, capk2, capk3, capk4, capk5]
    refine to_mono (line_at_ok hP wx3) fun v s6 ⟨h6, v', ev, hv⟩ => ?_
    rw [line_eq h he hv] at ev
    subst ev
    try simp only [w_int, w_bl, w_non, w_no, w_str, w_nil, w_one, w_var, toVar_some, w_glob, toGl_some, toTup_tup, toBl_true, toBl_false, w_cons, w_tup, w_lst, w_bin, w_cmp, w_chain, w_not, w_and, w_or, w_ife, toInt_int, w_neg, w_idx, w_slice, w_isi, w_call, w_blt, toSeq_tup, w_star, w_rev, onNx_nx, onNx_rt, onNx_ct, x_skip, x_seq, toSl_some, x_set, x_setC, x_par, x_ret, x_expr, x_cont, x_sif, onRt_rt, onRt_nx, onTurn_nx, onTurn_ct, onTurn_rt, lay, layN, List.map_cons, List.map_nil, List.getElem?_cons_zero, List.getElem?_cons_succ, Nat.sub_self, List.replicate_zero, List.replicate_succ, List.append_nil, List.cons_append, List.nil_append, List.set_cons_zero, List.set_cons_succ, Nat.reduceSub, to_ok, wipeP, true_and, glob0, glob1, glob2, glob3, glob4, glob5, glob6, glob7, glob8, glob9, capk0, capk1, capk2, capk3, capk4, capk5]
    have hA : At (s6.new (.lst [q (En L r x x), q (En L r x x)])) s6.n ([En L r x x, En L r x x].map q) := At.new
    have hB : At ((s6.new (.lst [q (En L r x x), q (En L r x x)])).new (.lst [q (En L r x x), q (En L r x x)])) (s6.new (.lst [q (En L r x x), q (En L r x x)])).n ([En L r x x, En L r x x].map q) := At.new
    have hf7 : Fr [] s3 ((s6.new (.lst [q (En L r x x), q (En L r x x)])).new (.lst [q (En L r x x), q (En L r x x)])) := ((((hJ.trans h4).trans h5).trans h6).trans .new).trans .new
    rw [neL (hA.fr0 .new) hB]
    generalize (s6.new (.lst [q (En L r x x), q (En L r x x)])).new (.lst [q (En L r x x), q (En L r x x)]) = s7 at hf7 ⊢
    try simp only [w_int, w_bl, w_non, w_no, w_str, w_nil, w_one, w_var, toVar_some, w_glob, toGl_some, toTup_tup, toBl_true, toBl_false, w_cons, w_tup, w_lst, w_bin, w_cmp, w_chain, w_not, w_and, w_or, w_ife, toInt_int, w_neg, w_idx, w_slice, w_isi, w_call, w_blt, toSeq_tup, w_star, w_rev, onNx_nx, onNx_rt, onNx_ct, x_skip, x_seq, toSl_some, x_set, x_setC, x_par, x_ret, x_expr, x_cont, x_sif, onRt_rt, onRt_nx, onTurn_nx, onTurn_ct, onTurn_rt, lay, layN, List.map_cons, List.map_nil, List.getElem?_cons_zero, List.getElem?_cons_succ, Nat.sub_self, List.replicate_zero, List.replicate_succ, List.append_nil, List.cons_append, List.nil_append, List.set_cons_zero, List.set_cons_succ, Nat.reduceSub, to_ok, wipeP, true_and, glob0, glob1, glob2, glob3, glob4, glob5, glob6, glob7, glob8, glob9, capk0, capk1, capk2, capk3, capk4, capk5]
    have z0 : (PV.tup [.int 0, .int 1]) = q 0 := rfl
    have wE := W_En (L := L) (a := r) (b := x) h wx3
    have hnn := En_nonneg (L := L) (r := r) (w := x) h.pos
    have n1 : ¬ En L r x x < 0 := by grind
    rw [z0, lunder_ok (w20 wE) W0]
    simp only [n1, decide_false, w_int, w_bl, w_non, w_no, w_str, w_nil, w_one, w_var, toVar_some, w_glob, toGl_some, toTup_tup, toBl_true, toBl_false, w_cons, w_tup, w_lst, w_bin, w_cmp, w_chain, w_not, w_and, w_or, w_ife, toInt_int, w_neg, w_idx, w_slice, w_isi, w_call, w_blt, toSeq_tup, w_star, w_rev, onNx_nx, onNx_rt, onNx_ct, x_skip, x_seq, toSl_some, x_set, x_setC, x_par, x_ret, x_expr, x_cont, x_sif, onRt_rt, onRt_nx, onTurn_nx, onTurn_ct, onTurn_rt, lay, layN, List.map_cons, List.map_nil, List.getElem?_cons_zero, List.getElem?_cons_succ, Nat.sub_self, List.replicate_zero, List.replicate_succ, List.append_nil, List.cons_append, List.nil_append, List.set_cons_zero, List.set_cons_succ, Nat.reduceSub, to_ok, wipeP, true_and, glob0, glob1, glob2, glob3, glob4, glob5, glob6, glob7, glob8, glob9, capk0, capk1, capk2, capk3, capk4, capk5]
    have hi7 := hi3.fr0 hf7
    have e1 : ((x0 :: x1 :: xs).map q)[1]? = some (q x1) := rfl
    have e2 : ∀ {Q : PV → Sto → Prop}, (evIdx (.lst i) (.int 1) s7).to Q = Q (q x1) s7 := idx_lst hi7 e1
    simp only [e2]
    refine (earned_ok h hr3 (w1.mono (by decide)) wx3).to fun s8 h8 => ?_
    try simp only [w_int, w_bl, w_non, w_no, w_str, w_nil, w_one, w_var, toVar_some, w_glob, toGl_some, toTup_tup, toBl_true, toBl_false, w_cons, w_tup, w_lst, w_bin, w_cmp, w_chain, w_not, w_and, w_or, w_ife, toInt_int, w_neg, w_idx, w_slice, w_isi, w_call, w_blt, toSeq_tup, w_star, w_rev, onNx_nx, onNx_rt, onNx_ct, x_skip, x_seq, toSl_some, x_set, x_setC, x_par, x_ret, x_expr, x_cont, x_sif, onRt_rt, onRt_nx, onTurn_nx, onTurn_ct, onTurn_rt, lay, layN, List.map_cons, List.map_nil, List.getElem?_cons_zero, List.getElem?_cons_succ, Nat.sub_self, List.replicate_zero, List.replicate_succ, List.append_nil, List.cons_append, List.nil_append, List.set_cons_zero, List.set_cons_succ, Nat.reduceSub, to_ok, wipeP, true_and, glob0, glob1, glob2, glob3, glob4, glob5, glob6, glob7, glob8, glob9, capk0, capk1, capk2, capk3, capk4, capk5]
    have htop := En_top (L := L) (r := r) (b := x1) (w := x) h.pos
    have n2 : ¬ En L r x x < En L r x1 x := by grind
    rw [lunder_ok (w20 wE) (w20 (W_En h wx3))]
    simp only [n2, decide_false, w_int, w_bl, w_non, w_no, w_str, w_nil, w_one, w_var, toVar_some, w_glob, toGl_some, toTup_tup, toBl_true, toBl_false, w_cons, w_tup, w_lst, w_bin, w_cmp, w_chain, w_not, w_and, w_or, w_ife, toInt_int, w_neg, w_idx, w_slice, w_isi, w_call, w_blt, toSeq_tup, w_star, w_rev, onNx_nx, onNx_rt, onNx_ct, x_skip, x_seq, toSl_some, x_set, x_setC, x_par, x_ret, x_expr, x_cont, x_sif, onRt_rt, onRt_nx, onTurn_nx, onTurn_ct, onTurn_rt, lay, layN, List.map_cons, List.map_nil, List.getElem?_cons_zero, List.getElem?_cons_succ, Nat.sub_self, List.replicate_zero, List.replicate_succ, List.append_nil, List.cons_append, List.nil_append, List.set_cons_zero, List.set_cons_succ, Nat.reduceSub, to_ok, wipeP, true_and, glob0, glob1, glob2, glob3, glob4, glob5, glob6, glob7, glob8, glob9, capk0, capk1, capk2, capk3, capk4, capk5]
    exact ⟨hf7.trans h8, _, _, rfl⟩
  · subst eσ
    have hi9 := hi3.fr0 hJ
    have f9 := f3.trans hJ
    have e0 : ∀ {Q : PV → Sto → Prop}, (evIdx (.lst i) (.int 0) s').to Q = Q (q x0) s' := idx_lst hi9 (rfl : ((x0 :: x1 :: xs).map q)[0]? = some (q x0))
    have e1 : ∀ {Q : PV → Sto → Prop}, (evIdx (.lst i) (.int 1) s').to Q = Q (q x1) s' := idx_lst hi9 (rfl : ((x0 :: x1 :: xs).map q)[1]? = some (q x1))
    simp only [w_int, w_bl, w_non, w_no, w_str, w_nil, w_one, w_var, toVar_some, w_glob, toGl_some, toTup_tup, toBl_true, toBl_false, w_cons, w_tup, w_lst, w_bin, w_cmp, w_chain, w_not, w_and, w_or, w_ife, toInt_int, w_neg, w_idx, w_slice, w_isi, w_call, w_blt, toSeq_tup, w_star, w_rev, onNx_nx, onNx_rt, onNx_ct, x_skip, x_seq, toSl_some, x_set, x_setC, x_par, x_ret, x_expr, x_cont, x_sif, onRt_rt, onRt_nx, onTurn_nx, onTurn_ct, onTurn_rt, lay, layN, List.map_cons, List.map_nil, List.getElem?_cons_zero, List.getElem?_cons_succ, Nat.sub_self, List.replicate_zero, List.replicate_succ, List.append_nil, List.cons_append, List.nil_append, List.set_cons_zero, List.set_cons_succ, Nat.reduceSub, to_ok, wipeP, true_and, glob0, glob1, glob2, glob3, glob4, glob5, glob6, glob7, glob8, glob9, capk0, capk1, capk2, capk3, capk4, capk5, e0, e1, lunder_ok (w20 w1) (w20 w0)]
    have tail : ∀ (u v : Rat), W 20 u → W 20 v → u ≤ v → ∀ (s' : Sto), Fr [] s s' → ∀ o5 o10, (ex T (runF T (n + 9)) (.seq (.set (.tn 8) (.lst (.cons (.call 41 (.cons (.var 0) (.cons (.var 1) (.cons (.var 6) .nil)))) (.cons (.call 41 (.cons (.var 0) (.cons (.var 1) (.cons (.var 7) .nil)))) .nil)))) (.seq (.set (.tn 9) (.ife (.call 61 (.cons (.idx (.var 8) (.int 0)) (.cons (.idx (.var 8) (.int 1)) .nil))) (.idx (.var 8) (.int 1)) (.idx (.var 8) (.int 0)))) (.seq (.ret (.cmp .eq (.call 42 (.cons (.var 0) (.cons (.var 1) (.cons (.var 6) (.cons (.var 7) .nil))))) (.var 9))) .skip))) [some (lad L), some (q r), some (.lst i), some (lad (pts L r lo hi')), some (.tup ((sco L).map pv)), o5, some (q u), some (q v), none, none, o10] s').to (onRt fun v s'' => v = .bl true ∧ Fr [] s s'') := fun u v wu wv huv s' hf o5 o10 => by
      have wu3 := wu.mono (by decide : 20 ≤ 30)
      have wv3 := wv.mono (by decide : 20 ≤ 30)
      simp only [w_int, w_bl, w_non, w_no, w_str, w_nil, w_one, w_var, toVar_some, w_glob, toGl_some, toTup_tup, toBl_true, toBl_false, w_cons, w_tup, w_lst, w_bin, w_cmp, w_chain, w_not, w_and, w_or, w_ife, toInt_int, w_neg, w_idx, w_slice, w_isi, w_call, w_blt, toSeq_tup, w_star, w_rev, onNx_nx, onNx_rt, onNx_ct, x_skip, x_seq, toSl_some, x_set, x_setC, x_par, x_ret, x_expr, x_cont, x_sif, onRt_rt, onRt_nx, onTurn_nx, onTurn_ct, onTurn_rt, lay, layN, List.map_cons, List.map_nil, List.getElem?_cons_zero, List.getElem?_cons_succ, Nat.sub_self, List.replicate_zero, List.replicate_succ, List.append_nil, List.cons_append, List.nil_append, List.set_cons_zero, List.set_cons_succ, Nat.reduceSub, to_ok, wipeP, true_and, glob0, glob1, glob2, glob3, glob4, glob5, glob6, glob7, glob8, glob9, capk0, capk1, capk2, capk3, capk4, capk5]
      refine (loss_at_ok h hr3 wu3).to fun s1 h1 => ?_
      try simp only [w_int, w_bl, w_non, w_no, w_str, w_nil, w_one, w_var, toVar_some, w_glob, toGl_some, toTup_tup, toBl_true, toBl_false, w_cons, w_tup, w_lst, w_bin, w_cmp, w_chain, w_not, w_and, w_or, w_ife, toInt_int, w_neg, w_idx, w_slice, w_isi, w_call, w_blt, toSeq_tup, w_star, w_rev, onNx_nx, onNx_rt, onNx_ct, x_skip, x_seq, toSl_some, x_set, x_setC, x_par, x_ret, x_expr, x_cont, x_sif, onRt_rt, onRt_nx, onTurn_nx, onTurn_ct, onTurn_rt, lay, layN, List.map_cons, List.map_nil, List.getElem?_cons_zero, List.getElem?_cons_succ, Nat.sub_self, List.replicate_zero, List.replicate_succ, List.append_nil, List.cons_append, List.nil_append, List.set_cons_zero, List.set_cons_succ, Nat.reduceSub, to_ok, wipeP, true_and, glob0, glob1, glob2, glob3, glob4, glob5, glob6, glob7, glob8, glob9, capk0, capk1, capk2, capk3, capk4, capk5]
      refine (loss_at_ok h hr3 wv3).to fun s2 h2 => ?_
      try simp only [w_int, w_bl, w_non, w_no, w_str, w_nil, w_one, w_var, toVar_some, w_glob, toGl_some, toTup_tup, toBl_true, toBl_false, w_cons, w_tup, w_lst, w_bin, w_cmp, w_chain, w_not, w_and, w_or, w_ife, toInt_int, w_neg, w_idx, w_slice, w_isi, w_call, w_blt, toSeq_tup, w_star, w_rev, onNx_nx, onNx_rt, onNx_ct, x_skip, x_seq, toSl_some, x_set, x_setC, x_par, x_ret, x_expr, x_cont, x_sif, onRt_rt, onRt_nx, onTurn_nx, onTurn_ct, onTurn_rt, lay, layN, List.map_cons, List.map_nil, List.getElem?_cons_zero, List.getElem?_cons_succ, Nat.sub_self, List.replicate_zero, List.replicate_succ, List.append_nil, List.cons_append, List.nil_append, List.set_cons_zero, List.set_cons_succ, Nat.reduceSub, to_ok, wipeP, true_and, glob0, glob1, glob2, glob3, glob4, glob5, glob6, glob7, glob8, glob9, capk0, capk1, capk2, capk3, capk4, capk5]
      have hA : At (s2.new (.lst [q (En L r u u), q (En L r v v)])) s2.n [q (En L r u u), q (En L r v v)] := At.new
      have f2 : Fr [] s (s2.new (.lst [q (En L r u u), q (En L r v v)])) := ((hf.trans h1).trans h2).trans .new
      generalize s2.new (.lst [q (En L r u u), q (En L r v v)]) = s4 at hA f2 ⊢
      have e0 : ∀ {Q : PV → Sto → Prop}, (evIdx (.lst s2.n) (.int 0) s4).to Q = Q (q (En L r u u)) s4 := idx_lst hA (k := 0) rfl
      have e1 : ∀ {Q : PV → Sto → Prop}, (evIdx (.lst s2.n) (.int 1) s4).to Q = Q (q (En L r v v)) s4 := idx_lst hA (k := 1) rfl
      simp only [e0, e1, lunder_ok (w20 (W_En (L := L) (a := r) (b := u) h wu3)) (w20 (W_En (L := L) (a := r) (b := v) h wv3))]
      by_cases c : En L r u u < En L r v v
      · simp only [c, decide_true, w_int, w_bl, w_non, w_no, w_str, w_nil, w_one, w_var, toVar_some, w_glob, toGl_some, toTup_tup, toBl_true, toBl_false, w_cons, w_tup, w_lst, w_bin, w_cmp, w_chain, w_not, w_and, w_or, w_ife, toInt_int, w_neg, w_idx, w_slice, w_isi, w_call, w_blt, toSeq_tup, w_star, w_rev, onNx_nx, onNx_rt, onNx_ct, x_skip, x_seq, toSl_some, x_set, x_setC, x_par, x_ret, x_expr, x_cont, x_sif, onRt_rt, onRt_nx, onTurn_nx, onTurn_ct, onTurn_rt, lay, layN, List.map_cons, List.map_nil, List.getElem?_cons_zero, List.getElem?_cons_succ, Nat.sub_self, List.replicate_zero, List.replicate_succ, List.append_nil, List.cons_append, List.nil_append, List.set_cons_zero, List.set_cons_succ, Nat.reduceSub, to_ok, wipeP, true_and, glob0, glob1, glob2, glob3, glob4, glob5, glob6, glob7, glob8, glob9, capk0, capk1, capk2, capk3, capk4, capk5, e0, e1]
        refine (greatest_ok h hr3 wu3 wv3 huv).to fun s5 h5 => ?_
        rw [if_pos c]
        simp only [w_int, w_bl, w_non, w_no, w_str, w_nil, w_one, w_var, toVar_some, w_glob, toGl_some, toTup_tup, toBl_true, toBl_false, w_cons, w_tup, w_lst, w_bin, w_cmp, w_chain, w_not, w_and, w_or, w_ife, toInt_int, w_neg, w_idx, w_slice, w_isi, w_call, w_blt, toSeq_tup, w_star, w_rev, onNx_nx, onNx_rt, onNx_ct, x_skip, x_seq, toSl_some, x_set, x_setC, x_par, x_ret, x_expr, x_cont, x_sif, onRt_rt, onRt_nx, onTurn_nx, onTurn_ct, onTurn_rt, lay, layN, List.map_cons, List.map_nil, List.getElem?_cons_zero, List.getElem?_cons_succ, Nat.sub_self, List.replicate_zero, List.replicate_succ, List.append_nil, List.cons_append, List.nil_append, List.set_cons_zero, List.set_cons_succ, Nat.reduceSub, to_ok, wipeP, true_and, glob0, glob1, glob2, glob3, glob4, glob5, glob6, glob7, glob8, glob9, capk0, capk1, capk2, capk3, capk4, capk5, w_eqq' rfl]
        exact f2.trans h5
      · simp only [c, decide_false, w_int, w_bl, w_non, w_no, w_str, w_nil, w_one, w_var, toVar_some, w_glob, toGl_some, toTup_tup, toBl_true, toBl_false, w_cons, w_tup, w_lst, w_bin, w_cmp, w_chain, w_not, w_and, w_or, w_ife, toInt_int, w_neg, w_idx, w_slice, w_isi, w_call, w_blt, toSeq_tup, w_star, w_rev, onNx_nx, onNx_rt, onNx_ct, x_skip, x_seq, toSl_some, x_set, x_setC, x_par, x_ret, x_expr, x_cont, x_sif, onRt_rt, onRt_nx, onTurn_nx, onTurn_ct, onTurn_rt, lay, layN, List.map_cons, List.map_nil, List.getElem?_cons_zero, List.getElem?_cons_succ, Nat.sub_self, List.replicate_zero, List.replicate_succ, List.append_nil, List.cons_append, List.nil_append, List.set_cons_zero, List.set_cons_succ, Nat.reduceSub, to_ok, wipeP, true_and, glob0, glob1, glob2, glob3, glob4, glob5, glob6, glob7, glob8, glob9, capk0, capk1, capk2, capk3, capk4, capk5, e0, e1]
        refine (greatest_ok h hr3 wu3 wv3 huv).to fun s5 h5 => ?_
        rw [if_neg c]
        simp only [w_int, w_bl, w_non, w_no, w_str, w_nil, w_one, w_var, toVar_some, w_glob, toGl_some, toTup_tup, toBl_true, toBl_false, w_cons, w_tup, w_lst, w_bin, w_cmp, w_chain, w_not, w_and, w_or, w_ife, toInt_int, w_neg, w_idx, w_slice, w_isi, w_call, w_blt, toSeq_tup, w_star, w_rev, onNx_nx, onNx_rt, onNx_ct, x_skip, x_seq, toSl_some, x_set, x_setC, x_par, x_ret, x_expr, x_cont, x_sif, onRt_rt, onRt_nx, onTurn_nx, onTurn_ct, onTurn_rt, lay, layN, List.map_cons, List.map_nil, List.getElem?_cons_zero, List.getElem?_cons_succ, Nat.sub_self, List.replicate_zero, List.replicate_succ, List.append_nil, List.cons_append, List.nil_append, List.set_cons_zero, List.set_cons_succ, Nat.reduceSub, to_ok, wipeP, true_and, glob0, glob1, glob2, glob3, glob4, glob5, glob6, glob7, glob8, glob9, capk0, capk1, capk2, capk3, capk4, capk5, w_eqq' rfl]
        exact f2.trans h5
    by_cases c : x1 < x0
    · simp only [c, decide_true, w_int, w_bl, w_non, w_no, w_str, w_nil, w_one, w_var, toVar_some, w_glob, toGl_some, toTup_tup, toBl_true, toBl_false, w_cons, w_tup, w_lst, w_bin, w_cmp, w_chain, w_not, w_and, w_or, w_ife, toInt_int, w_neg, w_idx, w_slice, w_isi, w_call, w_blt, toSeq_tup, w_star, w_rev, onNx_nx, onNx_rt, onNx_ct, x_skip, x_seq, toSl_some, x_set, x_setC, x_par, x_ret, x_expr, x_cont, x_sif, onRt_rt, onRt_nx, onTurn_nx, onTurn_ct, onTurn_rt, lay, layN, List.map_cons, List.map_nil, List.getElem?_cons_zero, List.getElem?_cons_succ, Nat.sub_self, List.replicate_zero, List.replicate_succ, List.append_nil, List.cons_append, List.nil_append, List.set_cons_zero, List.set_cons_succ, Nat.reduceSub, to_ok, wipeP, true_and, glob0, glob1, glob2, glob3, glob4, glob5, glob6, glob7, glob8, glob9, capk0, capk1, capk2, capk3, capk4, capk5]
      have t := tail x1 x0 w1 w0 (by grind) s' f9 o o'
      simp only [w_int, w_bl, w_non, w_no, w_str, w_nil, w_one, w_var, toVar_some, w_glob, toGl_some, toTup_tup, toBl_true, toBl_false, w_cons, w_tup, w_lst, w_bin, w_cmp, w_chain, w_not, w_and, w_or, w_ife, toInt_int, w_neg, w_idx, w_slice, w_isi, w_call, w_blt, toSeq_tup, w_star, w_rev, onNx_nx, onNx_rt, onNx_ct, x_skip, x_seq, toSl_some, x_set, x_setC, x_par, x_ret, x_expr, x_cont, x_sif, onRt_rt, onRt_nx, onTurn_nx, onTurn_ct, onTurn_rt, lay, layN, List.map_cons, List.map_nil, List.getElem?_cons_zero, List.getElem?_cons_succ, Nat.sub_self, List.replicate_zero, List.replicate_succ, List.append_nil, List.cons_append, List.nil_append, List.set_cons_zero, List.set_cons_succ, Nat.reduceSub, to_ok, wipeP, true_and, glob0, glob1, glob2, glob3, glob4, glob5, glob6, glob7, glob8, glob9, capk0, capk1, capk2, capk3, capk4, capk5] at t
      exact t
    · simp only [c, decide_false, w_int, w_bl, w_non, w_no, w_str, w_nil, w_one, w_var, toVar_some, w_glob, toGl_some, toTup_tup, toBl_true, toBl_false, w_cons, w_tup, w_lst, w_bin, w_cmp, w_chain, w_not, w_and, w_or, w_ife, toInt_int, w_neg, w_idx, w_slice, w_isi, w_call, w_blt, toSeq_tup, w_star, w_rev, onNx_nx, onNx_rt, onNx_ct, x_skip, x_seq, toSl_some, x_set, x_setC, x_par, x_ret, x_expr, x_cont, x_sif, onRt_rt, onRt_nx, onTurn_nx, onTurn_ct, onTurn_rt, lay, layN, List.map_cons, List.map_nil, List.getElem?_cons_zero, List.getElem?_cons_succ, Nat.sub_self, List.replicate_zero, List.replicate_succ, List.append_nil, List.cons_append, List.nil_append, List.set_cons_zero, List.set_cons_succ, Nat.reduceSub, to_ok, wipeP, true_and, glob0, glob1, glob2, glob3, glob4, glob5, glob6, glob7, glob8, glob9, capk0, capk1, capk2, capk3, capk4, capk5]
      have t := tail x0 x1 w0 w1 (by grind) s' f9 o o'
      simp only [w_int, w_bl, w_non, w_no, w_str, w_nil, w_one, w_var, toVar_some, w_glob, toGl_some, toTup_tup, toBl_true, toBl_false, w_cons, w_tup, w_lst, w_bin, w_cmp, w_chain, w_not, w_and, w_or, w_ife, toInt_int, w_neg, w_idx, w_slice, w_isi, w_call, w_blt, toSeq_tup, w_star, w_rev, onNx_nx, onNx_rt, onNx_ct, x_skip, x_seq, toSl_some, x_set, x_setC, x_par, x_ret, x_expr, x_cont, x_sif, onRt_rt, onRt_nx, onTurn_nx, onTurn_ct, onTurn_rt, lay, layN, List.map_cons, List.map_nil, List.getElem?_cons_zero, List.getElem?_cons_succ, Nat.sub_self, List.replicate_zero, List.replicate_succ, List.append_nil, List.cons_append, List.nil_append, List.set_cons_zero, List.set_cons_succ, Nat.reduceSub, to_ok, wipeP, true_and, glob0, glob1, glob2, glob3, glob4, glob5, glob6, glob7, glob8, glob9, capk0, capk1, capk2, capk3, capk4, capk5] at t
      exact t
end
end K69

namespace K69
open PySem FI GI
section
variable {T' : Tab} {call : Nat → List PV → Sto → Res PV} {σ : Sl} {s : Sto} {Q : PV → Sto → Prop} {P : Fl → Sto → Prop}
theorem w_dix {a b : E} (h : (ev T' call a σ s).to fun x s1 => (ev T' call b σ s1).to fun y s2 => ∃ i kvs k v, x = .dct i ∧ FI.getD s2 i = some kvs ∧ keyOf y = some k ∧ valP k kvs = some v ∧ Q v s2) : (ev T' call (.dix a b) σ s).to Q := by
  simp only [ev, to_bind]
  refine to_mono h fun x s1 h => to_mono h fun y s2 ⟨i, kvs, k, v, e1, e2, e3, e4, hq⟩ => ?_
  subst e1
  simp only [e2, e3, e4, to_ok]
  exact hq
theorem w_ddisp {a : E} (h : (ev T' call a σ s).to fun x s1 => ∃ vs kvs, x = .tup vs ∧ pairsP vs = some kvs ∧ noTwice kvs = true ∧ kvs.length ≤ 15 ∧ Q (.dct s1.n) (s1.new (.dct kvs))) : (ev T' call (.ddisp a) σ s).to Q := by
  simp only [ev, to_bind]
  refine to_mono h fun x s1 ⟨vs, kvs, e1, e2, e3, e4, hq⟩ => ?_
  subst e1
  simp only [e2, e3, Bool.true_and, decide_eq_true_eq, if_pos e4, to_ok]
  exact hq
theorem x_std {o i e : E} (h : (ev T' call e σ s).to fun v s1 => (ev T' call o σ s1).to fun x s2 => (ev T' call i σ s2).to fun y s3 => ∃ n kvs k, x = .dct n ∧ FI.getD s3 n = some kvs ∧ keyOf y = some k ∧ kvs.length < cap ∧ P (.nx σ) ⟨s3.n, put n (.dct (putP k v kvs)) s3.os⟩) : (ex T' call (.std o i e) σ s).to P := by
  simp only [ex, to_bind]
  refine to_mono h fun v s1 h => to_mono h fun x s2 h => to_mono h fun y s3 ⟨n, kvs, k, e1, e2, e3, e4, hq⟩ => ?_
  subst e1
  simp only [e2, e3, e4, if_true, to_ok]
  exact hq
theorem x_stl {o i e : E} (h : (ev T' call e σ s).to fun v s1 => (ev T' call o σ s1).to fun x s2 => (ev T' call i σ s2).to fun y s3 => ∃ n k xs ys, x = .lst n ∧ y = .int k ∧ At s3 n xs ∧ setAt xs k v = some ys ∧ P (.nx σ) ⟨s3.n, put n (.lst ys) s3.os⟩) : (ex T' call (.stl o i e) σ s).to P := by
  simp only [ex, to_bind]
  refine to_mono h fun v s1 h => to_mono h fun x s2 h => to_mono h fun y s3 ⟨n, k, xs, ys, e1, e2, e3, e4, hq⟩ => ?_
  subst e1; subst e2
  simp only [e3.getW, e4, to_ok]
  exact hq
end
section
variable {n : Nat} {a b w g r : Rat} {s : Sto} {Q : PV → Sto → Prop}
/-! ### draws -/
def kvsOf (c l : Nat) (t : Int) : List (L2.Key × PV) := [(.inr "cells", .lst c), (.inr "lefts", .lst l), (.inr "at", .int t), (.inr "room", .int 0)]
structure St (s : Sto) (d l A : Nat) : Prop where
  ex : ∃ (c : Nat) (cells lefts : List Int) (t : Nat), look d s.os = some (.dct (kvsOf c l t)) ∧ d < s.n ∧ At s c (cells.map .int) ∧ At s l (lefts.map .int) ∧ cells.length = lefts.length ∧ 0 < cells.length ∧ t ≤ A ∧ c ≠ l
theorem St.fr {s s' : Sto} {d l A : Nat} (h : St s d l A) (f : Fr [] s s') : St s' d l A := by
  obtain ⟨c, cells, lefts, t, h1, h2, h3, h4, h5⟩ := h.ex
  exact ⟨c, cells, lefts, t, (f.keep d h2 List.not_mem_nil).trans h1, Nat.lt_of_lt_of_le h2 f.le, h3.fr0 f, h4.fr0 f, h5⟩
theorem St.mono {s : Sto} {d l A B : Nat} (h : St s d l A) (hb : A ≤ B) : St s d l B := by
  obtain ⟨c, cells, lefts, t, h1, h2, h3, h4, h5, h6, h7, h8⟩ := h.ex
  exact ⟨c, cells, lefts, t, h1, h2, h3, h4, h5, h6, Nat.le_trans h7 hb, h8⟩
theorem small_lt {x : Int} (h0 : 0 ≤ x) (h : x < 18446744073709551616) : x.natAbs < 2 ^ 9000 := Nat.lt_of_lt_of_le (by omega : x.natAbs < 2 ^ 64) (pow_le (by decide))
theorem mixed_ok {x : Int} {k : Int} (h0 : 0 ≤ k) (hk : k ≤ 2000) : ∃ y : Int, runF T (n + 1) 54 [.int x, .int k] s = .ok (.int y) s ∧ 0 ≤ y ∧ y < 2147483629 := by
  refine ⟨(x % 2147483647 * (48271 + 2 * k * k) + 69621 * k + 11) % 2147483647 * 69621 % 2147483629, eq_of_to fun Q hQ => run_to d__law_mixed rfl ?_, Int.emod_nonneg _ (by decide), Int.emod_lt_of_pos _ (by decide)⟩
  have hx0 : 0 ≤ x % 2147483647 := Int.emod_nonneg _ (by decide)
  have hx1 : x % 2147483647 < 2147483647 := Int.emod_lt_of_pos _ (by decide)
  have h2k : 0 ≤ 2 * k * k := Int.mul_nonneg (by omega) h0
  have h2k' : 2 * k * k ≤ 8000000 := by
    have := Int.mul_le_mul (by omega : 2 * k ≤ 4000) hk h0 (by decide)
    omega
  simp only [c__law_mixed, w_int, w_bl, w_non, w_no, w_str, w_nil, w_one, w_var, toVar_some, w_glob, toGl_some, toTup_tup, toBl_true, toBl_false, w_cons, w_tup, w_lst, w_bin, w_cmp, w_chain, w_not, w_and, w_or, w_ife, toInt_int, w_neg, w_idx, w_slice, w_isi, w_call, w_blt, toSeq_tup, w_star, w_rev, onNx_nx, onNx_rt, onNx_ct, x_skip, x_seq, toSl_some, x_set, x_setC, x_par, x_ret, x_expr, x_cont, x_sif, onRt_rt, onRt_nx, onTurn_nx, onTurn_ct, onTurn_rt, lay, layN, List.map_cons, List.map_nil, List.getElem?_cons_zero, List.getElem?_cons_succ, Nat.sub_self, List.replicate_zero, List.replicate_succ, List.append_nil, List.cons_append, List.nil_append, List.set_cons_zero, List.set_cons_succ, Nat.reduceSub, to_ok, wipeP, true_and, glob0, glob1, glob2, glob3, glob4, glob5, glob6, glob7, glob8, glob9, capk0, capk1, capk2, capk3, capk4, capk5, w_toint, w_mod (by decide : (0 : Int) < 2147483647), w_mul (small_lt (by decide : (0 : Int) ≤ 2) (by decide)) (small_lt h0 (by omega)), w_mul (small_lt (by omega : 0 ≤ 2 * k) (by omega)) (small_lt h0 (by omega)), w_add, w_mul (small_lt hx0 (by omega)) (small_lt (by omega : 0 ≤ 48271 + 2 * k * k) (by omega)), w_mul (small_lt (by decide : (0 : Int) ≤ 69621) (by decide)) (small_lt h0 (by omega)), w_mod (by decide : (0 : Int) < 2147483629)]
  rw [w_mul (small_lt (Int.emod_nonneg _ (by decide)) (Int.lt_trans (Int.emod_lt_of_pos _ (by decide)) (by decide))) (small_lt (by decide) (by decide))]
  simp only [w_mod (by decide : (0 : Int) < 2147483629), w_int, w_bl, w_non, w_no, w_str, w_nil, w_one, w_var, toVar_some, w_glob, toGl_some, toTup_tup, toBl_true, toBl_false, w_cons, w_tup, w_lst, w_bin, w_cmp, w_chain, w_not, w_and, w_or, w_ife, toInt_int, w_neg, w_idx, w_slice, w_isi, w_call, w_blt, toSeq_tup, w_star, w_rev, onNx_nx, onNx_rt, onNx_ct, x_skip, x_seq, toSl_some, x_set, x_setC, x_par, x_ret, x_expr, x_cont, x_sif, onRt_rt, onRt_nx, onTurn_nx, onTurn_ct, onTurn_rt, lay, layN, List.map_cons, List.map_nil, List.getElem?_cons_zero, List.getElem?_cons_succ, Nat.sub_self, List.replicate_zero, List.replicate_succ, List.append_nil, List.cons_append, List.nil_append, List.set_cons_zero, List.set_cons_succ, Nat.reduceSub, to_ok, wipeP, true_and, glob0, glob1, glob2, glob3, glob4, glob5, glob6, glob7, glob8, glob9, capk0, capk1, capk2, capk3, capk4, capk5]
  exact hQ
theorem val_cells {c l : Nat} {t : Int} : valP (.inr "cells") (kvsOf c l t) = some (.lst c) := rfl
theorem val_lefts {c l : Nat} {t : Int} : valP (.inr "lefts") (kvsOf c l t) = some (.lst l) := rfl
theorem val_at {c l : Nat} {t : Int} : valP (.inr "at") (kvsOf c l t) = some (.int t) := rfl
theorem put_at {c l : Nat} {t u : Int} : putP (.inr "at") (.int u) (kvsOf c l t) = kvsOf c l u := rfl
theorem setAt_nat {xs : List PV} {j : Nat} {v : PV} (h : j < xs.length) : setAt xs (j : Int) v = some (xs.set j v) := by
  simp only [setAt, L2.ixN]
  rw [if_pos (by omega), if_pos (by omega)]
  simp
theorem draw_ok {d l A : Nat} {m : Int} (h : St s d l A) (hA : A ≤ 1000) (h0 : 0 < m) (hm : m < 1000) : (runF T (n + 2) 56 [.dct d, .int m] s).to fun v s' => (∃ k : Nat, v = .int (k : Int) ∧ (k : Int) < m) ∧ St s' d l (A + 1) ∧ Fr [d, l] s s' := by
  obtain ⟨c, cells, lefts, t, hd, hdn, hc, hl, hlen, hpos, ht, hcl⟩ := h.ex
  have gd : FI.getD s d = some (kvsOf c l t) := by unfold FI.getD; rw [hd]
  have hcd : c ≠ d := by rintro rfl; have := hc.1; rw [hd] at this; cases this
  have hld : l ≠ d := by rintro rfl; have := hl.1; rw [hd] at this; cases this
  refine run_to d__law_draw rfl ?_
  simp only [c__law_draw, x_seq, x_set]
  refine w_dix ?_
  simp only [w_int, w_bl, w_non, w_no, w_str, w_nil, w_one, w_var, toVar_some, w_glob, toGl_some, toTup_tup, toBl_true, toBl_false, w_cons, w_tup, w_lst, w_bin, w_cmp, w_chain, w_not, w_and, w_or, w_ife, toInt_int, w_neg, w_idx, w_slice, w_isi, w_call, w_blt, toSeq_tup, w_star, w_rev, onNx_nx, onNx_rt, onNx_ct, x_skip, x_seq, toSl_some, x_set, x_setC, x_par, x_ret, x_expr, x_cont, x_sif, onRt_rt, onRt_nx, onTurn_nx, onTurn_ct, onTurn_rt, lay, layN, List.map_cons, List.map_nil, List.getElem?_cons_zero, List.getElem?_cons_succ, Nat.sub_self, List.replicate_zero, List.replicate_succ, List.append_nil, List.cons_append, List.nil_append, List.set_cons_zero, List.set_cons_succ, Nat.reduceSub, to_ok, wipeP, true_and, glob0, glob1, glob2, glob3, glob4, glob5, glob6, glob7, glob8, glob9, capk0, capk1, capk2, capk3, capk4, capk5]
  refine ⟨d, _, _, _, rfl, gd, rfl, val_at, ?_⟩
  try simp only [w_int, w_bl, w_non, w_no, w_str, w_nil, w_one, w_var, toVar_some, w_glob, toGl_some, toTup_tup, toBl_true, toBl_false, w_cons, w_tup, w_lst, w_bin, w_cmp, w_chain, w_not, w_and, w_or, w_ife, toInt_int, w_neg, w_idx, w_slice, w_isi, w_call, w_blt, toSeq_tup, w_star, w_rev, onNx_nx, onNx_rt, onNx_ct, x_skip, x_seq, toSl_some, x_set, x_setC, x_par, x_ret, x_expr, x_cont, x_sif, onRt_rt, onRt_nx, onTurn_nx, onTurn_ct, onTurn_rt, lay, layN, List.map_cons, List.map_nil, List.getElem?_cons_zero, List.getElem?_cons_succ, Nat.sub_self, List.replicate_zero, List.replicate_succ, List.append_nil, List.cons_append, List.nil_append, List.set_cons_zero, List.set_cons_succ, Nat.reduceSub, to_ok, wipeP, true_and, glob0, glob1, glob2, glob3, glob4, glob5, glob6, glob7, glob8, glob9, capk0, capk1, capk2, capk3, capk4, capk5]
  refine x_std ?_
  simp only [w_int, w_bl, w_non, w_no, w_str, w_nil, w_one, w_var, toVar_some, w_glob, toGl_some, toTup_tup, toBl_true, toBl_false, w_cons, w_tup, w_lst, w_bin, w_cmp, w_chain, w_not, w_and, w_or, w_ife, toInt_int, w_neg, w_idx, w_slice, w_isi, w_call, w_blt, toSeq_tup, w_star, w_rev, onNx_nx, onNx_rt, onNx_ct, x_skip, x_seq, toSl_some, x_set, x_setC, x_par, x_ret, x_expr, x_cont, x_sif, onRt_rt, onRt_nx, onTurn_nx, onTurn_ct, onTurn_rt, lay, layN, List.map_cons, List.map_nil, List.getElem?_cons_zero, List.getElem?_cons_succ, Nat.sub_self, List.replicate_zero, List.replicate_succ, List.append_nil, List.cons_append, List.nil_append, List.set_cons_zero, List.set_cons_succ, Nat.reduceSub, to_ok, wipeP, true_and, glob0, glob1, glob2, glob3, glob4, glob5, glob6, glob7, glob8, glob9, capk0, capk1, capk2, capk3, capk4, capk5, w_add]
  refine ⟨d, _, _, rfl, gd, rfl, by simp [kvsOf, cap], ?_⟩
  rw [put_at]
  have hd2 : look d (put d (.dct (kvsOf c l (t + 1))) s.os) = some (.dct (kvsOf c l ((t + 1 : Nat) : Int))) := by
    rw [look_put (by rw [hd]; rfl)]
    simp
  have hc2 : At ⟨s.n, put d (.dct (kvsOf c l (t + 1))) s.os⟩ c (cells.map .int) := hc.put_ne hcd
  have hl2 : At ⟨s.n, put d (.dct (kvsOf c l (t + 1))) s.os⟩ l (lefts.map .int) := hl.put_ne hld
  have f2 : Fr [d, l] s ⟨s.n, put d (.dct (kvsOf c l (t + 1))) s.os⟩ := Fr.put .refl (.inl (by simp))
  have hd3 : look d (⟨s.n, put d (.dct (kvsOf c l (t + 1))) s.os⟩ : Sto).os = some (.dct (kvsOf c l ((t + 1 : Nat) : Int))) := hd2
  have hdn2 : d < (⟨s.n, put d (.dct (kvsOf c l (t + 1))) s.os⟩ : Sto).n := hdn
  generalize (⟨s.n, put d (.dct (kvsOf c l (t + 1))) s.os⟩ : Sto) = s2 at hc2 hl2 f2 hdn2 hd3 ⊢
  clear hd2
  have gd2 : FI.getD s2 d = some (kvsOf c l ((t + 1 : Nat) : Int)) := by unfold FI.getD; rw [hd3]
  try simp only [w_int, w_bl, w_non, w_no, w_str, w_nil, w_one, w_var, toVar_some, w_glob, toGl_some, toTup_tup, toBl_true, toBl_false, w_cons, w_tup, w_lst, w_bin, w_cmp, w_chain, w_not, w_and, w_or, w_ife, toInt_int, w_neg, w_idx, w_slice, w_isi, w_call, w_blt, toSeq_tup, w_star, w_rev, onNx_nx, onNx_rt, onNx_ct, x_skip, x_seq, toSl_some, x_set, x_setC, x_par, x_ret, x_expr, x_cont, x_sif, onRt_rt, onRt_nx, onTurn_nx, onTurn_ct, onTurn_rt, lay, layN, List.map_cons, List.map_nil, List.getElem?_cons_zero, List.getElem?_cons_succ, Nat.sub_self, List.replicate_zero, List.replicate_succ, List.append_nil, List.cons_append, List.nil_append, List.set_cons_zero, List.set_cons_succ, Nat.reduceSub, to_ok, wipeP, true_and, glob0, glob1, glob2, glob3, glob4, glob5, glob6, glob7, glob8, glob9, capk0, capk1, capk2, capk3, capk4, capk5, w_toint]
  refine w_dix ?_
  simp only [w_int, w_bl, w_non, w_no, w_str, w_nil, w_one, w_var, toVar_some, w_glob, toGl_some, toTup_tup, toBl_true, toBl_false, w_cons, w_tup, w_lst, w_bin, w_cmp, w_chain, w_not, w_and, w_or, w_ife, toInt_int, w_neg, w_idx, w_slice, w_isi, w_call, w_blt, toSeq_tup, w_star, w_rev, onNx_nx, onNx_rt, onNx_ct, x_skip, x_seq, toSl_some, x_set, x_setC, x_par, x_ret, x_expr, x_cont, x_sif, onRt_rt, onRt_nx, onTurn_nx, onTurn_ct, onTurn_rt, lay, layN, List.map_cons, List.map_nil, List.getElem?_cons_zero, List.getElem?_cons_succ, Nat.sub_self, List.replicate_zero, List.replicate_succ, List.append_nil, List.cons_append, List.nil_append, List.set_cons_zero, List.set_cons_succ, Nat.reduceSub, to_ok, wipeP, true_and, glob0, glob1, glob2, glob3, glob4, glob5, glob6, glob7, glob8, glob9, capk0, capk1, capk2, capk3, capk4, capk5]
  refine ⟨d, _, _, _, rfl, gd2, rfl, val_cells, ?_⟩
  have hlc : (0 : Int) < (cells.map PV.int).length := by simp; omega
  simp only [w_int, w_bl, w_non, w_no, w_str, w_nil, w_one, w_var, toVar_some, w_glob, toGl_some, toTup_tup, toBl_true, toBl_false, w_cons, w_tup, w_lst, w_bin, w_cmp, w_chain, w_not, w_and, w_or, w_ife, toInt_int, w_neg, w_idx, w_slice, w_isi, w_call, w_blt, toSeq_tup, w_star, w_rev, onNx_nx, onNx_rt, onNx_ct, x_skip, x_seq, toSl_some, x_set, x_setC, x_par, x_ret, x_expr, x_cont, x_sif, onRt_rt, onRt_nx, onTurn_nx, onTurn_ct, onTurn_rt, lay, layN, List.map_cons, List.map_nil, List.getElem?_cons_zero, List.getElem?_cons_succ, Nat.sub_self, List.replicate_zero, List.replicate_succ, List.append_nil, List.cons_append, List.nil_append, List.set_cons_zero, List.set_cons_succ, Nat.reduceSub, to_ok, wipeP, true_and, glob0, glob1, glob2, glob3, glob4, glob5, glob6, glob7, glob8, glob9, capk0, capk1, capk2, capk3, capk4, capk5, len_lst hc2, w_mod hlc]
  refine w_dix ?_
  simp only [w_int, w_bl, w_non, w_no, w_str, w_nil, w_one, w_var, toVar_some, w_glob, toGl_some, toTup_tup, toBl_true, toBl_false, w_cons, w_tup, w_lst, w_bin, w_cmp, w_chain, w_not, w_and, w_or, w_ife, toInt_int, w_neg, w_idx, w_slice, w_isi, w_call, w_blt, toSeq_tup, w_star, w_rev, onNx_nx, onNx_rt, onNx_ct, x_skip, x_seq, toSl_some, x_set, x_setC, x_par, x_ret, x_expr, x_cont, x_sif, onRt_rt, onRt_nx, onTurn_nx, onTurn_ct, onTurn_rt, lay, layN, List.map_cons, List.map_nil, List.getElem?_cons_zero, List.getElem?_cons_succ, Nat.sub_self, List.replicate_zero, List.replicate_succ, List.append_nil, List.cons_append, List.nil_append, List.set_cons_zero, List.set_cons_succ, Nat.reduceSub, to_ok, wipeP, true_and, glob0, glob1, glob2, glob3, glob4, glob5, glob6, glob7, glob8, glob9, capk0, capk1, capk2, capk3, capk4, capk5]
  refine ⟨d, _, _, _, rfl, gd2, rfl, val_lefts, ?_⟩
  try simp only [w_int, w_bl, w_non, w_no, w_str, w_nil, w_one, w_var, toVar_some, w_glob, toGl_some, toTup_tup, toBl_true, toBl_false, w_cons, w_tup, w_lst, w_bin, w_cmp, w_chain, w_not, w_and, w_or, w_ife, toInt_int, w_neg, w_idx, w_slice, w_isi, w_call, w_blt, toSeq_tup, w_star, w_rev, onNx_nx, onNx_rt, onNx_ct, x_skip, x_seq, toSl_some, x_set, x_setC, x_par, x_ret, x_expr, x_cont, x_sif, onRt_rt, onRt_nx, onTurn_nx, onTurn_ct, onTurn_rt, lay, layN, List.map_cons, List.map_nil, List.getElem?_cons_zero, List.getElem?_cons_succ, Nat.sub_self, List.replicate_zero, List.replicate_succ, List.append_nil, List.cons_append, List.nil_append, List.set_cons_zero, List.set_cons_succ, Nat.reduceSub, to_ok, wipeP, true_and, glob0, glob1, glob2, glob3, glob4, glob5, glob6, glob7, glob8, glob9, capk0, capk1, capk2, capk3, capk4, capk5]
  have hj : ((t : Int) % ((cells.map PV.int).length : Int)) = ((t % cells.length : Nat) : Int) := by simp
  have hjl : t % cells.length < cells.length := Nat.mod_lt _ hpos
  rw [hj]
  generalize t % cells.length = j at hjl
  have hv : (lefts.map PV.int)[j]? = some (.int (lefts[j]'(by omega))) := by simp [List.getElem?_eq_getElem (by omega : j < lefts.length)]
  have hv2 : (cells.map PV.int)[j]? = some (.int (cells[j]'(by omega))) := by simp [List.getElem?_eq_getElem hjl]
  simp only [idx_lst hl2 hv, w_int, w_bl, w_non, w_no, w_str, w_nil, w_one, w_var, toVar_some, w_glob, toGl_some, toTup_tup, toBl_true, toBl_false, w_cons, w_tup, w_lst, w_bin, w_cmp, w_chain, w_not, w_and, w_or, w_ife, toInt_int, w_neg, w_idx, w_slice, w_isi, w_call, w_blt, toSeq_tup, w_star, w_rev, onNx_nx, onNx_rt, onNx_ct, x_skip, x_seq, toSl_some, x_set, x_setC, x_par, x_ret, x_expr, x_cont, x_sif, onRt_rt, onRt_nx, onTurn_nx, onTurn_ct, onTurn_rt, lay, layN, List.map_cons, List.map_nil, List.getElem?_cons_zero, List.getElem?_cons_succ, Nat.sub_self, List.replicate_zero, List.replicate_succ, List.append_nil, List.cons_append, List.nil_append, List.set_cons_zero, List.set_cons_succ, Nat.reduceSub, to_ok, wipeP, true_and, glob0, glob1, glob2, glob3, glob4, glob5, glob6, glob7, glob8, glob9, capk0, capk1, capk2, capk3, capk4, capk5, w_gt]
  have done : St s2 d l (A + 1) := ⟨c, cells, lefts, t + 1, hd3, hdn2, hc2, hl2, hlen, hpos, by omega, hcl⟩
  by_cases hgt : 0 < lefts[j]'(by omega)
  · simp only [hgt, decide_true, w_int, w_bl, w_non, w_no, w_str, w_nil, w_one, w_var, toVar_some, w_glob, toGl_some, toTup_tup, toBl_true, toBl_false, w_cons, w_tup, w_lst, w_bin, w_cmp, w_chain, w_not, w_and, w_or, w_ife, toInt_int, w_neg, w_idx, w_slice, w_isi, w_call, w_blt, toSeq_tup, w_star, w_rev, onNx_nx, onNx_rt, onNx_ct, x_skip, x_seq, toSl_some, x_set, x_setC, x_par, x_ret, x_expr, x_cont, x_sif, onRt_rt, onRt_nx, onTurn_nx, onTurn_ct, onTurn_rt, lay, layN, List.map_cons, List.map_nil, List.getElem?_cons_zero, List.getElem?_cons_succ, Nat.sub_self, List.replicate_zero, List.replicate_succ, List.append_nil, List.cons_append, List.nil_append, List.set_cons_zero, List.set_cons_succ, Nat.reduceSub, to_ok, wipeP, true_and, glob0, glob1, glob2, glob3, glob4, glob5, glob6, glob7, glob8, glob9, capk0, capk1, capk2, capk3, capk4, capk5]
    refine x_stl ?_
    simp only [w_int, w_bl, w_non, w_no, w_str, w_nil, w_one, w_var, toVar_some, w_glob, toGl_some, toTup_tup, toBl_true, toBl_false, w_cons, w_tup, w_lst, w_bin, w_cmp, w_chain, w_not, w_and, w_or, w_ife, toInt_int, w_neg, w_idx, w_slice, w_isi, w_call, w_blt, toSeq_tup, w_star, w_rev, onNx_nx, onNx_rt, onNx_ct, x_skip, x_seq, toSl_some, x_set, x_setC, x_par, x_ret, x_expr, x_cont, x_sif, onRt_rt, onRt_nx, onTurn_nx, onTurn_ct, onTurn_rt, lay, layN, List.map_cons, List.map_nil, List.getElem?_cons_zero, List.getElem?_cons_succ, Nat.sub_self, List.replicate_zero, List.replicate_succ, List.append_nil, List.cons_append, List.nil_append, List.set_cons_zero, List.set_cons_succ, Nat.reduceSub, to_ok, wipeP, true_and, glob0, glob1, glob2, glob3, glob4, glob5, glob6, glob7, glob8, glob9, capk0, capk1, capk2, capk3, capk4, capk5, w_fdiv h0 (small_lt (by omega) (by omega))]
    refine w_dix ?_
    simp only [w_int, w_bl, w_non, w_no, w_str, w_nil, w_one, w_var, toVar_some, w_glob, toGl_some, toTup_tup, toBl_true, toBl_false, w_cons, w_tup, w_lst, w_bin, w_cmp, w_chain, w_not, w_and, w_or, w_ife, toInt_int, w_neg, w_idx, w_slice, w_isi, w_call, w_blt, toSeq_tup, w_star, w_rev, onNx_nx, onNx_rt, onNx_ct, x_skip, x_seq, toSl_some, x_set, x_setC, x_par, x_ret, x_expr, x_cont, x_sif, onRt_rt, onRt_nx, onTurn_nx, onTurn_ct, onTurn_rt, lay, layN, List.map_cons, List.map_nil, List.getElem?_cons_zero, List.getElem?_cons_succ, Nat.sub_self, List.replicate_zero, List.replicate_succ, List.append_nil, List.cons_append, List.nil_append, List.set_cons_zero, List.set_cons_succ, Nat.reduceSub, to_ok, wipeP, true_and, glob0, glob1, glob2, glob3, glob4, glob5, glob6, glob7, glob8, glob9, capk0, capk1, capk2, capk3, capk4, capk5]
    refine ⟨d, _, _, _, rfl, gd2, rfl, val_lefts, ?_⟩
    try simp only [w_int, w_bl, w_non, w_no, w_str, w_nil, w_one, w_var, toVar_some, w_glob, toGl_some, toTup_tup, toBl_true, toBl_false, w_cons, w_tup, w_lst, w_bin, w_cmp, w_chain, w_not, w_and, w_or, w_ife, toInt_int, w_neg, w_idx, w_slice, w_isi, w_call, w_blt, toSeq_tup, w_star, w_rev, onNx_nx, onNx_rt, onNx_ct, x_skip, x_seq, toSl_some, x_set, x_setC, x_par, x_ret, x_expr, x_cont, x_sif, onRt_rt, onRt_nx, onTurn_nx, onTurn_ct, onTurn_rt, lay, layN, List.map_cons, List.map_nil, List.getElem?_cons_zero, List.getElem?_cons_succ, Nat.sub_self, List.replicate_zero, List.replicate_succ, List.append_nil, List.cons_append, List.nil_append, List.set_cons_zero, List.set_cons_succ, Nat.reduceSub, to_ok, wipeP, true_and, glob0, glob1, glob2, glob3, glob4, glob5, glob6, glob7, glob8, glob9, capk0, capk1, capk2, capk3, capk4, capk5]
    refine ⟨l, (j : Int), _, _, rfl, rfl, hl2, setAt_nat (by simp; omega), ?_⟩
    simp only [w_int, w_bl, w_non, w_no, w_str, w_nil, w_one, w_var, toVar_some, w_glob, toGl_some, toTup_tup, toBl_true, toBl_false, w_cons, w_tup, w_lst, w_bin, w_cmp, w_chain, w_not, w_and, w_or, w_ife, toInt_int, w_neg, w_idx, w_slice, w_isi, w_call, w_blt, toSeq_tup, w_star, w_rev, onNx_nx, onNx_rt, onNx_ct, x_skip, x_seq, toSl_some, x_set, x_setC, x_par, x_ret, x_expr, x_cont, x_sif, onRt_rt, onRt_nx, onTurn_nx, onTurn_ct, onTurn_rt, lay, layN, List.map_cons, List.map_nil, List.getElem?_cons_zero, List.getElem?_cons_succ, Nat.sub_self, List.replicate_zero, List.replicate_succ, List.append_nil, List.cons_append, List.nil_append, List.set_cons_zero, List.set_cons_succ, Nat.reduceSub, to_ok, wipeP, true_and, glob0, glob1, glob2, glob3, glob4, glob5, glob6, glob7, glob8, glob9, capk0, capk1, capk2, capk3, capk4, capk5, w_toint, w_mod h0]
    refine ⟨⟨((lefts[j]'(by omega)) % m).toNat, ?_, ?_⟩, ?_, ?_⟩
    · rw [Int.toNat_of_nonneg (Int.emod_nonneg _ (by omega))]
    · rw [Int.toNat_of_nonneg (Int.emod_nonneg _ (by omega))]
      exact Int.emod_lt_of_pos _ h0
    · refine ⟨c, cells, lefts.set j ((lefts[j]'(by omega)) / m), t + 1, ?_, hdn2, hc2.put_ne hcl, ?_, by simpa using hlen, hpos, by omega, hcl⟩
      · dsimp only
        rw [look_put_ne (fun e => hld e.symm)]
        exact hd3
      · have e : (lefts.map PV.int).set j (.int ((lefts[j]'(by omega)) / m)) = (lefts.set j ((lefts[j]'(by omega)) / m)).map PV.int := by rw [List.map_set]
        rw [e]
        exact hl2.put
    · exact f2.put (.inl (by simp))
  · simp only [hgt, decide_false, w_int, w_bl, w_non, w_no, w_str, w_nil, w_one, w_var, toVar_some, w_glob, toGl_some, toTup_tup, toBl_true, toBl_false, w_cons, w_tup, w_lst, w_bin, w_cmp, w_chain, w_not, w_and, w_or, w_ife, toInt_int, w_neg, w_idx, w_slice, w_isi, w_call, w_blt, toSeq_tup, w_star, w_rev, onNx_nx, onNx_rt, onNx_ct, x_skip, x_seq, toSl_some, x_set, x_setC, x_par, x_ret, x_expr, x_cont, x_sif, onRt_rt, onRt_nx, onTurn_nx, onTurn_ct, onTurn_rt, lay, layN, List.map_cons, List.map_nil, List.getElem?_cons_zero, List.getElem?_cons_succ, Nat.sub_self, List.replicate_zero, List.replicate_succ, List.append_nil, List.cons_append, List.nil_append, List.set_cons_zero, List.set_cons_succ, Nat.reduceSub, to_ok, wipeP, true_and, glob0, glob1, glob2, glob3, glob4, glob5, glob6, glob7, glob8, glob9, capk0, capk1, capk2, capk3, capk4, capk5]
    refine w_dix ?_
    simp only [w_int, w_bl, w_non, w_no, w_str, w_nil, w_one, w_var, toVar_some, w_glob, toGl_some, toTup_tup, toBl_true, toBl_false, w_cons, w_tup, w_lst, w_bin, w_cmp, w_chain, w_not, w_and, w_or, w_ife, toInt_int, w_neg, w_idx, w_slice, w_isi, w_call, w_blt, toSeq_tup, w_star, w_rev, onNx_nx, onNx_rt, onNx_ct, x_skip, x_seq, toSl_some, x_set, x_setC, x_par, x_ret, x_expr, x_cont, x_sif, onRt_rt, onRt_nx, onTurn_nx, onTurn_ct, onTurn_rt, lay, layN, List.map_cons, List.map_nil, List.getElem?_cons_zero, List.getElem?_cons_succ, Nat.sub_self, List.replicate_zero, List.replicate_succ, List.append_nil, List.cons_append, List.nil_append, List.set_cons_zero, List.set_cons_succ, Nat.reduceSub, to_ok, wipeP, true_and, glob0, glob1, glob2, glob3, glob4, glob5, glob6, glob7, glob8, glob9, capk0, capk1, capk2, capk3, capk4, capk5]
    refine ⟨d, _, _, _, rfl, gd2, rfl, val_cells, ?_⟩
    simp only [idx_lst hc2 hv2, w_int, w_bl, w_non, w_no, w_str, w_nil, w_one, w_var, toVar_some, w_glob, toGl_some, toTup_tup, toBl_true, toBl_false, w_cons, w_tup, w_lst, w_bin, w_cmp, w_chain, w_not, w_and, w_or, w_ife, toInt_int, w_neg, w_idx, w_slice, w_isi, w_call, w_blt, toSeq_tup, w_star, w_rev, onNx_nx, onNx_rt, onNx_ct, x_skip, x_seq, toSl_some, x_set, x_setC, x_par, x_ret, x_expr, x_cont, x_sif, onRt_rt, onRt_nx, onTurn_nx, onTurn_ct, onTurn_rt, lay, layN, List.map_cons, List.map_nil, List.getElem?_cons_zero, List.getElem?_cons_succ, Nat.sub_self, List.replicate_zero, List.replicate_succ, List.append_nil, List.cons_append, List.nil_append, List.set_cons_zero, List.set_cons_succ, Nat.reduceSub, to_ok, wipeP, true_and, glob0, glob1, glob2, glob3, glob4, glob5, glob6, glob7, glob8, glob9, capk0, capk1, capk2, capk3, capk4, capk5, w_add]
    obtain ⟨y1, e1, y10, y11⟩ := mixed_ok (n := n) (s := s2) (x := cells[j]) (k := (t : Int)) (by omega) (by omega)
    rw [e1]
    obtain ⟨y2, e2, y20, y21⟩ := mixed_ok (n := n) (s := s2) (x := y1) (k := 40 + (t : Int)) (by omega) (by omega)
    simp only [w_int, w_bl, w_non, w_no, w_str, w_nil, w_one, w_var, toVar_some, w_glob, toGl_some, toTup_tup, toBl_true, toBl_false, w_cons, w_tup, w_lst, w_bin, w_cmp, w_chain, w_not, w_and, w_or, w_ife, toInt_int, w_neg, w_idx, w_slice, w_isi, w_call, w_blt, toSeq_tup, w_star, w_rev, onNx_nx, onNx_rt, onNx_ct, x_skip, x_seq, toSl_some, x_set, x_setC, x_par, x_ret, x_expr, x_cont, x_sif, onRt_rt, onRt_nx, onTurn_nx, onTurn_ct, onTurn_rt, lay, layN, List.map_cons, List.map_nil, List.getElem?_cons_zero, List.getElem?_cons_succ, Nat.sub_self, List.replicate_zero, List.replicate_succ, List.append_nil, List.cons_append, List.nil_append, List.set_cons_zero, List.set_cons_succ, Nat.reduceSub, to_ok, wipeP, true_and, glob0, glob1, glob2, glob3, glob4, glob5, glob6, glob7, glob8, glob9, capk0, capk1, capk2, capk3, capk4, capk5, e2]
    obtain ⟨y3, e3, y30, y31⟩ := mixed_ok (n := n) (s := s2) (x := y2) (k := 7 + (t : Int)) (by omega) (by omega)
    simp only [w_int, w_bl, w_non, w_no, w_str, w_nil, w_one, w_var, toVar_some, w_glob, toGl_some, toTup_tup, toBl_true, toBl_false, w_cons, w_tup, w_lst, w_bin, w_cmp, w_chain, w_not, w_and, w_or, w_ife, toInt_int, w_neg, w_idx, w_slice, w_isi, w_call, w_blt, toSeq_tup, w_star, w_rev, onNx_nx, onNx_rt, onNx_ct, x_skip, x_seq, toSl_some, x_set, x_setC, x_par, x_ret, x_expr, x_cont, x_sif, onRt_rt, onRt_nx, onTurn_nx, onTurn_ct, onTurn_rt, lay, layN, List.map_cons, List.map_nil, List.getElem?_cons_zero, List.getElem?_cons_succ, Nat.sub_self, List.replicate_zero, List.replicate_succ, List.append_nil, List.cons_append, List.nil_append, List.set_cons_zero, List.set_cons_succ, Nat.reduceSub, to_ok, wipeP, true_and, glob0, glob1, glob2, glob3, glob4, glob5, glob6, glob7, glob8, glob9, capk0, capk1, capk2, capk3, capk4, capk5, w_mul (small_lt y20 (by omega)) (small_lt (by decide : (0 : Int) ≤ 2147483647) (by decide)), w_add, e3, w_toint, w_fdiv (by decide : (0 : Int) < 64) (small_lt (by decide) (by decide)), w_mod h0]
    refine ⟨⟨((y2 * 2147483647 + y3) / 64 % m).toNat, ?_, ?_⟩, done, f2⟩
    · rw [Int.toNat_of_nonneg (Int.emod_nonneg _ (by omega))]
    · rw [Int.toNat_of_nonneg (Int.emod_nonneg _ (by omega))]
      exact Int.emod_lt_of_pos _ h0
end
end K69

namespace K69
open PySem FI GI
section
variable {n : Nat} {a b w g r : Rat} {s : Sto} {Q : PV → Sto → Prop}
/-! ### the start -/
theorem toD_script {i : Nat} {ns : List Int} (h : s.getL i = some (ns.map .int)) {m : Nat} : toD s (m + 2) (.lst i) = some (.list (ns.map .int)) := by
  have e : mapO (toD s (m + 1)) (ns.map PV.int) = some (ns.map .int) := mapO_map fun a _ => rfl
  show (match s.getL i with | some xs => (match mapO (toD s (m + 1)) xs with | some ds => some (PyData.list ds) | none => none) | none => none) = _
  rw [h]
  dsimp only
  rw [e]
theorem begin_ok {i : Nat} {ns : List Int} (hs : look i s.os = some (.rol (ns.map .int))) (hin : i < s.n) (hl : ns.length ≤ 63) : (runF T (n + 1) 55 [.lst i] s).to fun v s' => Fr [] s s' ∧ ∃ d l, v = .dct d ∧ St s' d l 0 ∧ s.n ≤ d ∧ s.n ≤ l := by
  refine run_to d__law_begin rfl ?_
  simp only [c__law_begin, w_int, w_bl, w_non, w_no, w_str, w_nil, w_one, w_var, toVar_some, w_glob, toGl_some, toTup_tup, toBl_true, toBl_false, w_cons, w_tup, w_lst, w_bin, w_cmp, w_chain, w_not, w_and, w_or, w_ife, toInt_int, w_neg, w_idx, w_slice, w_isi, w_call, w_blt, toSeq_tup, w_star, w_rev, onNx_nx, onNx_rt, onNx_ct, x_skip, x_seq, toSl_some, x_set, x_setC, x_par, x_ret, x_expr, x_cont, x_sif, onRt_rt, onRt_nx, onTurn_nx, onTurn_ct, onTurn_rt, lay, layN, List.map_cons, List.map_nil, List.getElem?_cons_zero, List.getElem?_cons_succ, Nat.sub_self, List.replicate_zero, List.replicate_succ, List.append_nil, List.cons_append, List.nil_append, List.set_cons_zero, List.set_cons_succ, Nat.reduceSub, to_ok, wipeP, true_and, glob0, glob1, glob2, glob3, glob4, glob5, glob6, glob7, glob8, glob9, capk0, capk1, capk2, capk3, capk4, capk5]
  have hs2 : look i (s.new (.lst [])).os = some (.rol (ns.map .int)) := (look_old hin).trans hs
  have f2 : Fr [] s (s.new (.lst [])) := .new
  have hE : At (s.new (.lst [])) s.n [] := .new
  generalize s.new (.lst []) = s2 at hs2 f2 hE ⊢
  have hg : s2.getL i = some (ns.map .int) := by unfold Sto.getL; rw [hs2]
  have hg2 : s2.getL s.n = some (([] : List Int).map .int) := hE.getL
  have rest : ∀ (c : Nat) (cells : List Int) (s3 : Sto), Fr [] s s3 → At s3 c (cells.map .int) → s.n ≤ c → 0 < cells.length → cells.length ≤ 63 →
      (ev T (runF T n) (.ddisp (.cons (.str "cells") (.cons (.var 1) (.cons (.str "lefts") (.cons (.comp [("_law_cell", 2)] (.tn 2) (.iseq (.var 1)) (.bl true) (.ife (.cmp .ge (.var 2) (.bin .pow (.int 10) (.int 18))) (.var 2) (.int 0))) (.cons (.str "at") (.cons (.int 0) (.cons (.str "room") (.cons (.int 0) .nil))))))))) [some (.lst i), some (.lst c), none] s3).to fun v s' => Fr [] s s' ∧ ∃ d l, v = .dct d ∧ St s' d l 0 ∧ s.n ≤ d ∧ s.n ≤ l := fun c cells s3 f3 hc hcn h0 h63 => by
    refine w_ddisp ?_
    simp only [w_int, w_bl, w_non, w_no, w_str, w_nil, w_one, w_var, toVar_some, w_glob, toGl_some, toTup_tup, toBl_true, toBl_false, w_cons, w_tup, w_lst, w_bin, w_cmp, w_chain, w_not, w_and, w_or, w_ife, toInt_int, w_neg, w_idx, w_slice, w_isi, w_call, w_blt, toSeq_tup, w_star, w_rev, onNx_nx, onNx_rt, onNx_ct, x_skip, x_seq, toSl_some, x_set, x_setC, x_par, x_ret, x_expr, x_cont, x_sif, onRt_rt, onRt_nx, onTurn_nx, onTurn_ct, onTurn_rt, lay, layN, List.map_cons, List.map_nil, List.getElem?_cons_zero, List.getElem?_cons_succ, Nat.sub_self, List.replicate_zero, List.replicate_succ, List.append_nil, List.cons_append, List.nil_append, List.set_cons_zero, List.set_cons_succ, Nat.reduceSub, to_ok, wipeP, true_and, glob0, glob1, glob2, glob3, glob4, glob5, glob6, glob7, glob8, glob9, capk0, capk1, capk2, capk3, capk4, capk5]
    refine comp_pure cells PV.int (fun x => some (.int (if 10 ^ 18 ≤ x then x else 0))) ?_ (by simp [cap]; omega) (fun x hx s' hs => ?_) fun il s4 hf4 hA4 hi4 => ?_
    · simp only [j_seq, w_int, w_bl, w_non, w_no, w_str, w_nil, w_one, w_var, toVar_some, w_glob, toGl_some, toTup_tup, toBl_true, toBl_false, w_cons, w_tup, w_lst, w_bin, w_cmp, w_chain, w_not, w_and, w_or, w_ife, toInt_int, w_neg, w_idx, w_slice, w_isi, w_call, w_blt, toSeq_tup, w_star, w_rev, onNx_nx, onNx_rt, onNx_ct, x_skip, x_seq, toSl_some, x_set, x_setC, x_par, x_ret, x_expr, x_cont, x_sif, onRt_rt, onRt_nx, onTurn_nx, onTurn_ct, onTurn_rt, lay, layN, List.map_cons, List.map_nil, List.getElem?_cons_zero, List.getElem?_cons_succ, Nat.sub_self, List.replicate_zero, List.replicate_succ, List.append_nil, List.cons_append, List.nil_append, List.set_cons_zero, List.set_cons_succ, Nat.reduceSub, to_ok, wipeP, true_and, glob0, glob1, glob2, glob3, glob4, glob5, glob6, glob7, glob8, glob9, capk0, capk1, capk2, capk3, capk4, capk5]
      exact ⟨_, hc.getL, by simp [It.most, hc.getL], sees_l fun s'' hs'' => hc.fr0 hs'', .refl⟩
    · have hp : ∀ {Q : PV → Sto → Prop}, (evBin .pow (.int 10) (.int 18) s').to Q = Q (.int (10 ^ 18)) s' := rfl
      simp only [Turn, w_int, w_bl, w_non, w_no, w_str, w_nil, w_one, w_var, toVar_some, w_glob, toGl_some, toTup_tup, toBl_true, toBl_false, w_cons, w_tup, w_lst, w_bin, w_cmp, w_chain, w_not, w_and, w_or, w_ife, toInt_int, w_neg, w_idx, w_slice, w_isi, w_call, w_blt, toSeq_tup, w_star, w_rev, onNx_nx, onNx_rt, onNx_ct, x_skip, x_seq, toSl_some, x_set, x_setC, x_par, x_ret, x_expr, x_cont, x_sif, onRt_rt, onRt_nx, onTurn_nx, onTurn_ct, onTurn_rt, lay, layN, List.map_cons, List.map_nil, List.getElem?_cons_zero, List.getElem?_cons_succ, Nat.sub_self, List.replicate_zero, List.replicate_succ, List.append_nil, List.cons_append, List.nil_append, List.set_cons_zero, List.set_cons_succ, Nat.reduceSub, to_ok, wipeP, true_and, glob0, glob1, glob2, glob3, glob4, glob5, glob6, glob7, glob8, glob9, capk0, capk1, capk2, capk3, capk4, capk5, hp, w_ge]
      by_cases hc : (10 : Int) ^ 18 ≤ x
      · simp only [hc, decide_true, w_int, w_bl, w_non, w_no, w_str, w_nil, w_one, w_var, toVar_some, w_glob, toGl_some, toTup_tup, toBl_true, toBl_false, w_cons, w_tup, w_lst, w_bin, w_cmp, w_chain, w_not, w_and, w_or, w_ife, toInt_int, w_neg, w_idx, w_slice, w_isi, w_call, w_blt, toSeq_tup, w_star, w_rev, onNx_nx, onNx_rt, onNx_ct, x_skip, x_seq, toSl_some, x_set, x_setC, x_par, x_ret, x_expr, x_cont, x_sif, onRt_rt, onRt_nx, onTurn_nx, onTurn_ct, onTurn_rt, lay, layN, List.map_cons, List.map_nil, List.getElem?_cons_zero, List.getElem?_cons_succ, Nat.sub_self, List.replicate_zero, List.replicate_succ, List.append_nil, List.cons_append, List.nil_append, List.set_cons_zero, List.set_cons_succ, Nat.reduceSub, to_ok, wipeP, true_and, glob0, glob1, glob2, glob3, glob4, glob5, glob6, glob7, glob8, glob9, capk0, capk1, capk2, capk3, capk4, capk5, if_true]
        exact .refl
      · simp only [hc, decide_false, w_int, w_bl, w_non, w_no, w_str, w_nil, w_one, w_var, toVar_some, w_glob, toGl_some, toTup_tup, toBl_true, toBl_false, w_cons, w_tup, w_lst, w_bin, w_cmp, w_chain, w_not, w_and, w_or, w_ife, toInt_int, w_neg, w_idx, w_slice, w_isi, w_call, w_blt, toSeq_tup, w_star, w_rev, onNx_nx, onNx_rt, onNx_ct, x_skip, x_seq, toSl_some, x_set, x_setC, x_par, x_ret, x_expr, x_cont, x_sif, onRt_rt, onRt_nx, onTurn_nx, onTurn_ct, onTurn_rt, lay, layN, List.map_cons, List.map_nil, List.getElem?_cons_zero, List.getElem?_cons_succ, Nat.sub_self, List.replicate_zero, List.replicate_succ, List.append_nil, List.cons_append, List.nil_append, List.set_cons_zero, List.set_cons_succ, Nat.reduceSub, to_ok, wipeP, true_and, glob0, glob1, glob2, glob3, glob4, glob5, glob6, glob7, glob8, glob9, capk0, capk1, capk2, capk3, capk4, capk5, if_false]
        exact .refl
    · rw [fm_some, show cells.map (fun x => PV.int (if 10 ^ 18 ≤ x then x else 0)) = (cells.map fun x => if (10 : Int) ^ 18 ≤ x then x else 0).map PV.int by simp] at hA4
      try simp only [w_int, w_bl, w_non, w_no, w_str, w_nil, w_one, w_var, toVar_some, w_glob, toGl_some, toTup_tup, toBl_true, toBl_false, w_cons, w_tup, w_lst, w_bin, w_cmp, w_chain, w_not, w_and, w_or, w_ife, toInt_int, w_neg, w_idx, w_slice, w_isi, w_call, w_blt, toSeq_tup, w_star, w_rev, onNx_nx, onNx_rt, onNx_ct, x_skip, x_seq, toSl_some, x_set, x_setC, x_par, x_ret, x_expr, x_cont, x_sif, onRt_rt, onRt_nx, onTurn_nx, onTurn_ct, onTurn_rt, lay, layN, List.map_cons, List.map_nil, List.getElem?_cons_zero, List.getElem?_cons_succ, Nat.sub_self, List.replicate_zero, List.replicate_succ, List.append_nil, List.cons_append, List.nil_append, List.set_cons_zero, List.set_cons_succ, Nat.reduceSub, to_ok, wipeP, true_and, glob0, glob1, glob2, glob3, glob4, glob5, glob6, glob7, glob8, glob9, capk0, capk1, capk2, capk3, capk4, capk5]
      refine ⟨_, kvsOf c il 0, rfl, rfl, rfl, by simp [kvsOf], ?_⟩
      refine ⟨(f3.trans hf4).trans .new, _, il, rfl, ⟨c, cells, cells.map fun x => if (10 : Int) ^ 18 ≤ x then x else 0, 0, look_new, Nat.lt_succ_self _, (hc.fr0 hf4).fr0 .new, hA4.fr0 .new, by simp, h0, Nat.le_refl _, ?_⟩, (f3.trans hf4).le, Nat.le_trans f3.le hi4⟩
      have := hc.2
      omega
  cases hns : ns with
  | nil =>
    subst hns
    have e : eqP s2 (.lst i) (.lst s.n) = some true := eq_same (toD_script hg) (toD_script hg2) rfl (by simp [PyData.depth, PyData.depthAll])
    have e2 : ∀ {Q : PV → Sto → Prop}, (evCmp .ne (.lst i) (.lst s.n) s2).to Q = Q (.bl false) s2 := fun {Q} => by simp only [evCmp, e, to_ok, Bool.not_true]
    simp only [e2, w_int, w_bl, w_non, w_no, w_str, w_nil, w_one, w_var, toVar_some, w_glob, toGl_some, toTup_tup, toBl_true, toBl_false, w_cons, w_tup, w_lst, w_bin, w_cmp, w_chain, w_not, w_and, w_or, w_ife, toInt_int, w_neg, w_idx, w_slice, w_isi, w_call, w_blt, toSeq_tup, w_star, w_rev, onNx_nx, onNx_rt, onNx_ct, x_skip, x_seq, toSl_some, x_set, x_setC, x_par, x_ret, x_expr, x_cont, x_sif, onRt_rt, onRt_nx, onTurn_nx, onTurn_ct, onTurn_rt, lay, layN, List.map_cons, List.map_nil, List.getElem?_cons_zero, List.getElem?_cons_succ, Nat.sub_self, List.replicate_zero, List.replicate_succ, List.append_nil, List.cons_append, List.nil_append, List.set_cons_zero, List.set_cons_succ, Nat.reduceSub, to_ok, wipeP, true_and, glob0, glob1, glob2, glob3, glob4, glob5, glob6, glob7, glob8, glob9, capk0, capk1, capk2, capk3, capk4, capk5]
    have t := rest s2.n [0] (s2.new (.lst [.int 0])) (f2.trans .new) .new f2.le (by decide) (by decide)
    exact t
  | cons x xs =>
    subst hns
    have e : eqP s2 (.lst i) (.lst s.n) = some false := by
      simp only [eqP, toD_script hg, toD_script hg2]
      have h1 : SeqAt.shaped (.list ((x :: xs).map PyData.int)) = true := by
        have c1 : (PyData.list ((x :: xs).map PyData.int)).canLay0 = true := canAll fun a _ => rfl
        have c2 : (PyData.list ((x :: xs).map PyData.int)).depth ≤ 64 := dep_lst (m := 10) (fun a _ => by simp [PyData.depth]) (by decide)
        simp only [SeqAt.shaped, c1, c2, decide_true, Bool.and_self]
      have h2 : SeqAt.shaped (.list (([] : List Int).map PyData.int)) = true := rfl
      rw [h1, h2]
      rfl
    have e2 : ∀ {Q : PV → Sto → Prop}, (evCmp .ne (.lst i) (.lst s.n) s2).to Q = Q (.bl true) s2 := fun {Q} => by simp only [evCmp, e, to_ok, Bool.not_false]
    have e3 : ∀ {Q : PV → Sto → Prop}, (evBlt .list [.lst i] s2).to Q = Q (.lst s2.n) (s2.new (.lst ((x :: xs).map .int))) := fun {Q} => by simp only [evBlt, seqOf, hg, to_ok]
    simp only [e2, w_int, w_bl, w_non, w_no, w_str, w_nil, w_one, w_var, toVar_some, w_glob, toGl_some, toTup_tup, toBl_true, toBl_false, w_cons, w_tup, w_lst, w_bin, w_cmp, w_chain, w_not, w_and, w_or, w_ife, toInt_int, w_neg, w_idx, w_slice, w_isi, w_call, w_blt, toSeq_tup, w_star, w_rev, onNx_nx, onNx_rt, onNx_ct, x_skip, x_seq, toSl_some, x_set, x_setC, x_par, x_ret, x_expr, x_cont, x_sif, onRt_rt, onRt_nx, onTurn_nx, onTurn_ct, onTurn_rt, lay, layN, List.map_cons, List.map_nil, List.getElem?_cons_zero, List.getElem?_cons_succ, Nat.sub_self, List.replicate_zero, List.replicate_succ, List.append_nil, List.cons_append, List.nil_append, List.set_cons_zero, List.set_cons_succ, Nat.reduceSub, to_ok, wipeP, true_and, glob0, glob1, glob2, glob3, glob4, glob5, glob6, glob7, glob8, glob9, capk0, capk1, capk2, capk3, capk4, capk5, e3]
    have t := rest s2.n (x :: xs) (s2.new (.lst ((x :: xs).map .int))) (f2.trans .new) .new f2.le (by simp) hl
    exact t
/-! ### sorted -/
def cnt (f : List Rat) (x : Rat) : Nat := (f.filter fun y => decide (y < x)).length
def put1 (f : List Rat) (x : Rat) : List Rat := f.take (cnt f x) ++ [x] ++ f.drop (cnt f x)
theorem put1_mem {f : List Rat} {x y : Rat} (h : y ∈ put1 f x) : y ∈ f ∨ y = x := by
  simp only [put1, List.mem_append, List.mem_singleton] at h
  rcases h with (h | h) | h
  · exact .inl (List.mem_of_mem_take h)
  · exact .inr h
  · exact .inl (List.mem_of_mem_drop h)
theorem put1_len {f : List Rat} {x : Rat} : (put1 f x).length ≤ f.length + 1 := by simp [put1]; omega
theorem cnt_zero {f : List Rat} {x : Rat} (h : ∀ y ∈ f, ¬ y < x) : cnt f x = 0 := by
  unfold cnt
  rw [List.filter_eq_nil_iff.mpr fun y hy => by simpa using h y hy]
  rfl
theorem put1_srt : ∀ {f : List Rat} {x : Rat}, f.Pairwise (· < ·) → x ∉ f → (put1 f x).Pairwise (· < ·)
  | [], x, _, _ => by simp [put1]
  | y :: f, x, hp, hx => by
    obtain ⟨h1, h2⟩ := List.pairwise_cons.mp hp
    have hne : x ≠ y := fun e => hx (by rw [e]; exact List.mem_cons_self)
    have hx' : x ∉ f := fun e => hx (List.mem_cons_of_mem _ e)
    by_cases c : y < x
    · have e1 : cnt (y :: f) x = cnt f x + 1 := by simp [cnt, c]
      have e2 : put1 (y :: f) x = y :: put1 f x := by simp [put1, e1]
      rw [e2]
      refine List.pairwise_cons.mpr ⟨fun z hz => ?_, put1_srt h2 hx'⟩
      rcases put1_mem hz with hz | hz
      · exact h1 z hz
      · rw [hz]; exact c
    · have e1 : cnt (y :: f) x = 0 := cnt_zero fun z hz => by
        rcases List.mem_cons.mp hz with rfl | hz
        · exact c
        · have := h1 z hz
          grind
      have e2 : put1 (y :: f) x = x :: y :: f := by simp [put1, e1]
      rw [e2]
      have hlt : x < y := by grind
      refine List.pairwise_cons.mpr ⟨fun z hz => ?_, hp⟩
      rcases List.mem_cons.mp hz with rfl | hz
      · exact hlt
      · have := h1 z hz
        grind
theorem in_q {j : Nat} {f : List Rat} {x : Rat} (h : At s j (f.map q)) : (evCmp .notin (q x) (.lst j) s).to Q = Q (.bl (!decide (x ∈ f))) s := by
  have e1 : toD s 60 (.lst j) = some (.list (f.map dq)) := toD_lst h fun a _ => toD_q
  have c1 : (PyData.list (f.map dq)).canLay0 = true := canAll fun a _ => can_q
  have c2 : (PyData.list (f.map dq)).depth ≤ 64 := dep_lst (m := 10) (fun a _ => by simp [dq, PyData.depth, PyData.depthAll]) (by decide)
  have c3 : SeqAt.shaped (.list (f.map dq)) = true := by simp only [SeqAt.shaped, c1, c2, decide_true, Bool.and_self]
  have c4 : SeqAt.shaped (dq x) = true := rfl
  have e2 : ((f.map dq).any fun z => PyData.eqv z (dq x)) = decide (x ∈ f) := by
    rw [List.any_map]
    by_cases hx : x ∈ f
    · rw [decide_eq_true hx]
      exact List.any_eq_true.mpr ⟨x, hx, by simp [eqv_q]⟩
    · rw [decide_eq_false hx]
      refine List.any_eq_false.mpr fun y hy => ?_
      simp only [Function.comp, eqv_q, decide_eq_true_eq]
      rintro rfl
      exact hx hy
  simp only [evCmp, inP, toD_q, e1, c3, c4, Bool.and_self, if_true, e2, to_ok]
theorem sorted_ok {i : Nat} {l : List Rat} (hi : At s i (l.map q)) (hw : ∀ x ∈ l, W 10 x) (hl : l.length ≤ 10) : (runF T (n + 2) 63 [.lst i] s).to fun v s' => Fr [] s s' ∧ ∃ (j : Nat) (f : List Rat), v = .lst j ∧ At s' j (f.map q) ∧ s.n ≤ j ∧ f.Pairwise (· < ·) ∧ f.length ≤ l.length ∧ ∀ x ∈ f, W 10 x := by
  refine run_to d__law_sorted rfl ?_
  simp only [c__law_sorted, w_int, w_bl, w_non, w_no, w_str, w_nil, w_one, w_var, toVar_some, w_glob, toGl_some, toTup_tup, toBl_true, toBl_false, w_cons, w_tup, w_lst, w_bin, w_cmp, w_chain, w_not, w_and, w_or, w_ife, toInt_int, w_neg, w_idx, w_slice, w_isi, w_call, w_blt, toSeq_tup, w_star, w_rev, onNx_nx, onNx_rt, onNx_ct, x_skip, x_seq, toSl_some, x_set, x_setC, x_par, x_ret, x_expr, x_cont, x_sif, onRt_rt, onRt_nx, onTurn_nx, onTurn_ct, onTurn_rt, lay, layN, List.map_cons, List.map_nil, List.getElem?_cons_zero, List.getElem?_cons_succ, Nat.sub_self, List.replicate_zero, List.replicate_succ, List.append_nil, List.cons_append, List.nil_append, List.set_cons_zero, List.set_cons_succ, Nat.reduceSub, to_ok, wipeP, true_and, glob0, glob1, glob2, glob3, glob4, glob5, glob6, glob7, glob8, glob9, capk0, capk1, capk2, capk3, capk4, capk5]
  refine x_for l q (fun s' => At s' i (l.map q)) (fun k σ s' => Fr [] s s' ∧ ∃ (j : Nat) (f : List Rat) (o o' o'' : Option PV), σ = [some (.lst i), some (.lst j), o, o', o''] ∧ At s' j (f.map q) ∧ s.n ≤ j ∧ f.Pairwise (· < ·) ∧ f.length ≤ k ∧ ∀ x ∈ f, W 10 x) ?_ (fun k σ s' h => hi.fr0 h.1) (fun k x σ s' hx ⟨hf, j, f, o, o', o'', eσ, hj, hjn, hsrt, hfl, hfw⟩ => ?_) (fun σ s' ⟨hf, j, f, o, o', o'', eσ, hj, hjn, hsrt, hfl, hfw⟩ => ?_)
  · simp only [j_seq, w_int, w_bl, w_non, w_no, w_str, w_nil, w_one, w_var, toVar_some, w_glob, toGl_some, toTup_tup, toBl_true, toBl_false, w_cons, w_tup, w_lst, w_bin, w_cmp, w_chain, w_not, w_and, w_or, w_ife, toInt_int, w_neg, w_idx, w_slice, w_isi, w_call, w_blt, toSeq_tup, w_star, w_rev, onNx_nx, onNx_rt, onNx_ct, x_skip, x_seq, toSl_some, x_set, x_setC, x_par, x_ret, x_expr, x_cont, x_sif, onRt_rt, onRt_nx, onTurn_nx, onTurn_ct, onTurn_rt, lay, layN, List.map_cons, List.map_nil, List.getElem?_cons_zero, List.getElem?_cons_succ, Nat.sub_self, List.replicate_zero, List.replicate_succ, List.append_nil, List.cons_append, List.nil_append, List.set_cons_zero, List.set_cons_succ, Nat.reduceSub, to_ok, wipeP, true_and, glob0, glob1, glob2, glob3, glob4, glob5, glob6, glob7, glob8, glob9, capk0, capk1, capk2, capk3, capk4, capk5]
    have h' : At (s.new (.lst [])) i (l.map q) := hi.fr0 .new
    exact ⟨_, h'.getL, by simp [It.most, h'.getL], sees_l fun s' h => h, .new, s.n, [], none, none, none, rfl, .new, Nat.le_refl _, by simp, by simp, by simp⟩
  · subst eσ
    have hxl : x ∈ l := List.mem_of_getElem? hx
    have hwx := hw x hxl
    have hk : k < l.length := (List.getElem?_eq_some_iff.mp hx).1
    simp only [w_int, w_bl, w_non, w_no, w_str, w_nil, w_one, w_var, toVar_some, w_glob, toGl_some, toTup_tup, toBl_true, toBl_false, w_cons, w_tup, w_lst, w_bin, w_cmp, w_chain, w_not, w_and, w_or, w_ife, toInt_int, w_neg, w_idx, w_slice, w_isi, w_call, w_blt, toSeq_tup, w_star, w_rev, onNx_nx, onNx_rt, onNx_ct, x_skip, x_seq, toSl_some, x_set, x_setC, x_par, x_ret, x_expr, x_cont, x_sif, onRt_rt, onRt_nx, onTurn_nx, onTurn_ct, onTurn_rt, lay, layN, List.map_cons, List.map_nil, List.getElem?_cons_zero, List.getElem?_cons_succ, Nat.sub_self, List.replicate_zero, List.replicate_succ, List.append_nil, List.cons_append, List.nil_append, List.set_cons_zero, List.set_cons_succ, Nat.reduceSub, to_ok, wipeP, true_and, glob0, glob1, glob2, glob3, glob4, glob5, glob6, glob7, glob8, glob9, capk0, capk1, capk2, capk3, capk4, capk5]
    refine comp_pure f q (fun y => if decide (y < x) = true then some (q y) else none) ?_ (by simp [cap]; omega) (fun y hy s1 h1 => ?_) fun i1 s1 hf1 hA1 hi1 => ?_
    · simp only [j_seq, w_int, w_bl, w_non, w_no, w_str, w_nil, w_one, w_var, toVar_some, w_glob, toGl_some, toTup_tup, toBl_true, toBl_false, w_cons, w_tup, w_lst, w_bin, w_cmp, w_chain, w_not, w_and, w_or, w_ife, toInt_int, w_neg, w_idx, w_slice, w_isi, w_call, w_blt, toSeq_tup, w_star, w_rev, onNx_nx, onNx_rt, onNx_ct, x_skip, x_seq, toSl_some, x_set, x_setC, x_par, x_ret, x_expr, x_cont, x_sif, onRt_rt, onRt_nx, onTurn_nx, onTurn_ct, onTurn_rt, lay, layN, List.map_cons, List.map_nil, List.getElem?_cons_zero, List.getElem?_cons_succ, Nat.sub_self, List.replicate_zero, List.replicate_succ, List.append_nil, List.cons_append, List.nil_append, List.set_cons_zero, List.set_cons_succ, Nat.reduceSub, to_ok, wipeP, true_and, glob0, glob1, glob2, glob3, glob4, glob5, glob6, glob7, glob8, glob9, capk0, capk1, capk2, capk3, capk4, capk5]
      exact ⟨_, hj.getL, by simp [It.most, hj.getL], sees_l fun s'' hs'' => hj.fr0 hs'', .refl⟩
    · simp only [Turn, w_int, w_bl, w_non, w_no, w_str, w_nil, w_one, w_var, toVar_some, w_glob, toGl_some, toTup_tup, toBl_true, toBl_false, w_cons, w_tup, w_lst, w_bin, w_cmp, w_chain, w_not, w_and, w_or, w_ife, toInt_int, w_neg, w_idx, w_slice, w_isi, w_call, w_blt, toSeq_tup, w_star, w_rev, onNx_nx, onNx_rt, onNx_ct, x_skip, x_seq, toSl_some, x_set, x_setC, x_par, x_ret, x_expr, x_cont, x_sif, onRt_rt, onRt_nx, onTurn_nx, onTurn_ct, onTurn_rt, lay, layN, List.map_cons, List.map_nil, List.getElem?_cons_zero, List.getElem?_cons_succ, Nat.sub_self, List.replicate_zero, List.replicate_succ, List.append_nil, List.cons_append, List.nil_append, List.set_cons_zero, List.set_cons_succ, Nat.reduceSub, to_ok, wipeP, true_and, glob0, glob1, glob2, glob3, glob4, glob5, glob6, glob7, glob8, glob9, capk0, capk1, capk2, capk3, capk4, capk5, lunder_ok (w20 (hfw y hy)) (w20 hwx)]
      by_cases h2 : y < x
      · simp only [h2, decide_true, w_int, w_bl, w_non, w_no, w_str, w_nil, w_one, w_var, toVar_some, w_glob, toGl_some, toTup_tup, toBl_true, toBl_false, w_cons, w_tup, w_lst, w_bin, w_cmp, w_chain, w_not, w_and, w_or, w_ife, toInt_int, w_neg, w_idx, w_slice, w_isi, w_call, w_blt, toSeq_tup, w_star, w_rev, onNx_nx, onNx_rt, onNx_ct, x_skip, x_seq, toSl_some, x_set, x_setC, x_par, x_ret, x_expr, x_cont, x_sif, onRt_rt, onRt_nx, onTurn_nx, onTurn_ct, onTurn_rt, lay, layN, List.map_cons, List.map_nil, List.getElem?_cons_zero, List.getElem?_cons_succ, Nat.sub_self, List.replicate_zero, List.replicate_succ, List.append_nil, List.cons_append, List.nil_append, List.set_cons_zero, List.set_cons_succ, Nat.reduceSub, to_ok, wipeP, true_and, glob0, glob1, glob2, glob3, glob4, glob5, glob6, glob7, glob8, glob9, capk0, capk1, capk2, capk3, capk4, capk5]
        exact ⟨rfl, .refl⟩
      · simp only [h2, decide_false, w_int, w_bl, w_non, w_no, w_str, w_nil, w_one, w_var, toVar_some, w_glob, toGl_some, toTup_tup, toBl_true, toBl_false, w_cons, w_tup, w_lst, w_bin, w_cmp, w_chain, w_not, w_and, w_or, w_ife, toInt_int, w_neg, w_idx, w_slice, w_isi, w_call, w_blt, toSeq_tup, w_star, w_rev, onNx_nx, onNx_rt, onNx_ct, x_skip, x_seq, toSl_some, x_set, x_setC, x_par, x_ret, x_expr, x_cont, x_sif, onRt_rt, onRt_nx, onTurn_nx, onTurn_ct, onTurn_rt, lay, layN, List.map_cons, List.map_nil, List.getElem?_cons_zero, List.getElem?_cons_succ, Nat.sub_self, List.replicate_zero, List.replicate_succ, List.append_nil, List.cons_append, List.nil_append, List.set_cons_zero, List.set_cons_succ, Nat.reduceSub, to_ok, wipeP, true_and, glob0, glob1, glob2, glob3, glob4, glob5, glob6, glob7, glob8, glob9, capk0, capk1, capk2, capk3, capk4, capk5]
        exact ⟨rfl, .refl⟩
    · rw [fm_if] at hA1
      have hle : cnt f x ≤ f.length := List.length_filter_le _ _
      have hj1 := hj.fr0 hf1
      simp only [w_int, w_bl, w_non, w_no, w_str, w_nil, w_one, w_var, toVar_some, w_glob, toGl_some, toTup_tup, toBl_true, toBl_false, w_cons, w_tup, w_lst, w_bin, w_cmp, w_chain, w_not, w_and, w_or, w_ife, toInt_int, w_neg, w_idx, w_slice, w_isi, w_call, w_blt, toSeq_tup, w_star, w_rev, onNx_nx, onNx_rt, onNx_ct, x_skip, x_seq, toSl_some, x_set, x_setC, x_par, x_ret, x_expr, x_cont, x_sif, onRt_rt, onRt_nx, onTurn_nx, onTurn_ct, onTurn_rt, lay, layN, List.map_cons, List.map_nil, List.getElem?_cons_zero, List.getElem?_cons_succ, Nat.sub_self, List.replicate_zero, List.replicate_succ, List.append_nil, List.cons_append, List.nil_append, List.set_cons_zero, List.set_cons_succ, Nat.reduceSub, to_ok, wipeP, true_and, glob0, glob1, glob2, glob3, glob4, glob5, glob6, glob7, glob8, glob9, capk0, capk1, capk2, capk3, capk4, capk5, len_lst hA1, List.length_map, in_q hj1]
      have hm : (f.filter fun y => decide (y < x)).length = cnt f x := rfl
      rw [hm]
      have tail : ∀ K : PV → Sto → Prop, (∀ s2 j', Fr [] s1 s2 → At s2 j' ((put1 f x).map q) → s1.n ≤ j' → K (.lst j') s2) →
          ∃ l h, partOf .no .non = some l ∧ partOf (.var 3) (.int (cnt f x : Int)) = some h ∧ (evSlice (.lst j) l h s1).to fun x1 s3 => (evBin .add x1 (.lst s3.n) (s3.new (.lst [q x]))).to fun x2 s4 => ∃ l h, partOf (.var 3) (.int (cnt f x : Int)) = some l ∧ partOf .no .non = some h ∧ (evSlice (.lst j) l h s4).to fun y s5 => (evBin .add x2 y s5).to K := fun K hK => by
        have hmf' : cnt f x ≤ (f.map q).length := by simpa using hle
        refine ⟨none, some (cnt f x : Int), rfl, rfl, ?_⟩
        rw [slice_to hj1 hmf']
        have A1 : At (s1.new (.lst ((f.map q).take (cnt f x)))) s1.n ((f.map q).take (cnt f x)) := .new
        have A2 := A1.fr0 (Fr.new (o := .lst [q x]))
        rw [addL A2 .new (by simp [cap]; omega)]
        refine ⟨some (cnt f x : Int), none, rfl, rfl, ?_⟩
        have B0 : Fr [] s1 (((s1.new (.lst ((f.map q).take (cnt f x)))).new (.lst [q x])).new (.lst ((f.map q).take (cnt f x) ++ [q x]))) := (Fr.new.trans .new).trans .new
        rw [slice_from (hj1.fr0 B0) hmf']
        have A3 : At (((s1.new (.lst ((f.map q).take (cnt f x)))).new (.lst [q x])).new (.lst ((f.map q).take (cnt f x) ++ [q x]))) _ ((f.map q).take (cnt f x) ++ [q x]) := .new
        rw [addL (A3.fr0 .new) .new (by simp [cap]; omega)]
        refine hK _ _ ((B0.trans .new).trans .new) ?_ ?_
        · have : (f.map q).take (cnt f x) ++ [q x] ++ (f.map q).drop (cnt f x) = (put1 f x).map q := by simp [put1]
          rw [this]
          exact .new
        · simp only [Sto.new]; omega
      by_cases hc : x ∈ f
      · simp only [hc, decide_true, Bool.not_true, w_int, w_bl, w_non, w_no, w_str, w_nil, w_one, w_var, toVar_some, w_glob, toGl_some, toTup_tup, toBl_true, toBl_false, w_cons, w_tup, w_lst, w_bin, w_cmp, w_chain, w_not, w_and, w_or, w_ife, toInt_int, w_neg, w_idx, w_slice, w_isi, w_call, w_blt, toSeq_tup, w_star, w_rev, onNx_nx, onNx_rt, onNx_ct, x_skip, x_seq, toSl_some, x_set, x_setC, x_par, x_ret, x_expr, x_cont, x_sif, onRt_rt, onRt_nx, onTurn_nx, onTurn_ct, onTurn_rt, lay, layN, List.map_cons, List.map_nil, List.getElem?_cons_zero, List.getElem?_cons_succ, Nat.sub_self, List.replicate_zero, List.replicate_succ, List.append_nil, List.cons_append, List.nil_append, List.set_cons_zero, List.set_cons_succ, Nat.reduceSub, to_ok, wipeP, true_and, glob0, glob1, glob2, glob3, glob4, glob5, glob6, glob7, glob8, glob9, capk0, capk1, capk2, capk3, capk4, capk5]
        exact ⟨hf.trans hf1, j, f, _, _, _, rfl, hj1, hjn, hsrt, by omega, hfw⟩
      · simp only [hc, decide_false, Bool.not_false, w_int, w_bl, w_non, w_no, w_str, w_nil, w_one, w_var, toVar_some, w_glob, toGl_some, toTup_tup, toBl_true, toBl_false, w_cons, w_tup, w_lst, w_bin, w_cmp, w_chain, w_not, w_and, w_or, w_ife, toInt_int, w_neg, w_idx, w_slice, w_isi, w_call, w_blt, toSeq_tup, w_star, w_rev, onNx_nx, onNx_rt, onNx_ct, x_skip, x_seq, toSl_some, x_set, x_setC, x_par, x_ret, x_expr, x_cont, x_sif, onRt_rt, onRt_nx, onTurn_nx, onTurn_ct, onTurn_rt, lay, layN, List.map_cons, List.map_nil, List.getElem?_cons_zero, List.getElem?_cons_succ, Nat.sub_self, List.replicate_zero, List.replicate_succ, List.append_nil, List.cons_append, List.nil_append, List.set_cons_zero, List.set_cons_succ, Nat.reduceSub, to_ok, wipeP, true_and, glob0, glob1, glob2, glob3, glob4, glob5, glob6, glob7, glob8, glob9, capk0, capk1, capk2, capk3, capk4, capk5]
        refine tail _ fun s2 j' f2 A' hn => ?_
        refine ⟨(hf.trans hf1).trans f2, j', put1 f x, _, _, _, rfl, A', Nat.le_trans (Nat.le_trans hf.le hf1.le) hn, put1_srt hsrt hc, ?_, fun y hy => ?_⟩
        · have := put1_len (f := f) (x := x)
          omega
        · rcases put1_mem hy with hy | hy
          · exact hfw y hy
          · rw [hy]; exact hwx
  · subst eσ
    simp only [w_int, w_bl, w_non, w_no, w_str, w_nil, w_one, w_var, toVar_some, w_glob, toGl_some, toTup_tup, toBl_true, toBl_false, w_cons, w_tup, w_lst, w_bin, w_cmp, w_chain, w_not, w_and, w_or, w_ife, toInt_int, w_neg, w_idx, w_slice, w_isi, w_call, w_blt, toSeq_tup, w_star, w_rev, onNx_nx, onNx_rt, onNx_ct, x_skip, x_seq, toSl_some, x_set, x_setC, x_par, x_ret, x_expr, x_cont, x_sif, onRt_rt, onRt_nx, onTurn_nx, onTurn_ct, onTurn_rt, lay, layN, List.map_cons, List.map_nil, List.getElem?_cons_zero, List.getElem?_cons_succ, Nat.sub_self, List.replicate_zero, List.replicate_succ, List.append_nil, List.cons_append, List.nil_append, List.set_cons_zero, List.set_cons_succ, Nat.reduceSub, to_ok, wipeP, true_and, glob0, glob1, glob2, glob3, glob4, glob5, glob6, glob7, glob8, glob9, capk0, capk1, capk2, capk3, capk4, capk5]
    exact ⟨hf, j, f, rfl, hj, hjn, hsrt, hfl, hfw⟩
end
end K69

namespace K69
open PySem FI GI
section
variable {n : Nat} {a b w g r : Rat} {s : Sto} {Q : PV → Sto → Prop} {d l A : Nat} {L : List (Rat × Rat)}
theorem St.dl (h : St s d l A) : d < s.n ∧ l < s.n := by
  obtain ⟨c, cells, lefts, t, h1, h2, h3, h4, h5⟩ := h.ex
  exact ⟨h2, h4.2⟩
theorem cast1 {k : Nat} : (1 + (k : Int)) = ((1 + k : Nat) : Int) := by omega
theorem W_small {t : Int} {k : Nat} (h0 : k ≠ 0) (h1 : t.natAbs < 1024) (h2 : k < 1024) : W 10 (mkRat t k) := mkRat_small h0 (by simpa using h1) (by simpa using h2)
theorem b_lt {k : Nat} (h : k < 1024) : k < 2 ^ 9000 := Nat.lt_of_lt_of_le (by omega : k < 2 ^ 10) (pow_le (by decide))
theorem number_ok (h : St s d l A) (hA : A ≤ 900) : (runF T (n + 3) 65 [.dct d] s).to fun v s' => (∃ x, v = q x ∧ W 10 x) ∧ St s' d l (A + 2) ∧ Fr [d, l] s s' := by
  refine run_to d__law_number rfl ?_
  simp only [c__law_number, w_int, w_bl, w_non, w_no, w_str, w_nil, w_one, w_var, toVar_some, w_glob, toGl_some, toTup_tup, toBl_true, toBl_false, w_cons, w_tup, w_lst, w_bin, w_cmp, w_chain, w_not, w_and, w_or, w_ife, toInt_int, w_neg, w_idx, w_slice, w_isi, w_call, w_blt, toSeq_tup, w_star, w_rev, onNx_nx, onNx_rt, onNx_ct, x_skip, x_seq, toSl_some, x_set, x_setC, x_par, x_ret, x_expr, x_cont, x_sif, onRt_rt, onRt_nx, onTurn_nx, onTurn_ct, onTurn_rt, lay, layN, List.map_cons, List.map_nil, List.getElem?_cons_zero, List.getElem?_cons_succ, Nat.sub_self, List.replicate_zero, List.replicate_succ, List.append_nil, List.cons_append, List.nil_append, List.set_cons_zero, List.set_cons_succ, Nat.reduceSub, to_ok, wipeP, true_and, glob0, glob1, glob2, glob3, glob4, glob5, glob6, glob7, glob8, glob9, capk0, capk1, capk2, capk3, capk4, capk5]
  refine to_mono (draw_ok h (by omega) (by decide) (by decide)) fun v s1 ⟨⟨k, ev, hk⟩, h1, f1⟩ => ?_
  subst ev
  simp only [w_int, w_bl, w_non, w_no, w_str, w_nil, w_one, w_var, toVar_some, w_glob, toGl_some, toTup_tup, toBl_true, toBl_false, w_cons, w_tup, w_lst, w_bin, w_cmp, w_chain, w_not, w_and, w_or, w_ife, toInt_int, w_neg, w_idx, w_slice, w_isi, w_call, w_blt, toSeq_tup, w_star, w_rev, onNx_nx, onNx_rt, onNx_ct, x_skip, x_seq, toSl_some, x_set, x_setC, x_par, x_ret, x_expr, x_cont, x_sif, onRt_rt, onRt_nx, onTurn_nx, onTurn_ct, onTurn_rt, lay, layN, List.map_cons, List.map_nil, List.getElem?_cons_zero, List.getElem?_cons_succ, Nat.sub_self, List.replicate_zero, List.replicate_succ, List.append_nil, List.cons_append, List.nil_append, List.set_cons_zero, List.set_cons_succ, Nat.reduceSub, to_ok, wipeP, true_and, glob0, glob1, glob2, glob3, glob4, glob5, glob6, glob7, glob8, glob9, capk0, capk1, capk2, capk3, capk4, capk5, w_sub]
  refine to_mono (draw_ok h1 (by omega) (by decide) (by decide)) fun v s2 ⟨⟨k2, ev, hk2⟩, h2, f2⟩ => ?_
  subst ev
  simp only [w_int, w_bl, w_non, w_no, w_str, w_nil, w_one, w_var, toVar_some, w_glob, toGl_some, toTup_tup, toBl_true, toBl_false, w_cons, w_tup, w_lst, w_bin, w_cmp, w_chain, w_not, w_and, w_or, w_ife, toInt_int, w_neg, w_idx, w_slice, w_isi, w_call, w_blt, toSeq_tup, w_star, w_rev, onNx_nx, onNx_rt, onNx_ct, x_skip, x_seq, toSl_some, x_set, x_setC, x_par, x_ret, x_expr, x_cont, x_sif, onRt_rt, onRt_nx, onTurn_nx, onTurn_ct, onTurn_rt, lay, layN, List.map_cons, List.map_nil, List.getElem?_cons_zero, List.getElem?_cons_succ, Nat.sub_self, List.replicate_zero, List.replicate_succ, List.append_nil, List.cons_append, List.nil_append, List.set_cons_zero, List.set_cons_succ, Nat.reduceSub, to_ok, wipeP, true_and, glob0, glob1, glob2, glob3, glob4, glob5, glob6, glob7, glob8, glob9, capk0, capk1, capk2, capk3, capk4, capk5, w_add]
  rw [cast1, ratio_ok (by omega) (b_lt (by omega))]
  exact ⟨⟨_, rfl, W_small (by omega) (by omega) (by omega)⟩, h2, f1.trans f2⟩
theorem unit_pos {k : Nat} (h : (k : Int) < 4) : 0 < mkRat (1 + (k : Int)) 2 := by
  have : k = 0 ∨ k = 1 ∨ k = 2 ∨ k = 3 := by omega
  rcases this with rfl | rfl | rfl | rfl <;> decide +kernel
theorem ladder_ok (h : St s d l A) (hA : A ≤ 900) : (runF T (n + 4) 64 [.dct d, .int 4] s).to fun v s' => (∃ L, v = lad L ∧ Dr L) ∧ St s' d l (A + 20) ∧ Fr [d, l] s s' := by
  refine run_to d__law_ladder rfl ?_
  simp only [c__law_ladder, w_int, w_bl, w_non, w_no, w_str, w_nil, w_one, w_var, toVar_some, w_glob, toGl_some, toTup_tup, toBl_true, toBl_false, w_cons, w_tup, w_lst, w_bin, w_cmp, w_chain, w_not, w_and, w_or, w_ife, toInt_int, w_neg, w_idx, w_slice, w_isi, w_call, w_blt, toSeq_tup, w_star, w_rev, onNx_nx, onNx_rt, onNx_ct, x_skip, x_seq, toSl_some, x_set, x_setC, x_par, x_ret, x_expr, x_cont, x_sif, onRt_rt, onRt_nx, onTurn_nx, onTurn_ct, onTurn_rt, lay, layN, List.map_cons, List.map_nil, List.getElem?_cons_zero, List.getElem?_cons_succ, Nat.sub_self, List.replicate_zero, List.replicate_succ, List.append_nil, List.cons_append, List.nil_append, List.set_cons_zero, List.set_cons_succ, Nat.reduceSub, to_ok, wipeP, true_and, glob0, glob1, glob2, glob3, glob4, glob5, glob6, glob7, glob8, glob9, capk0, capk1, capk2, capk3, capk4, capk5]
  refine comp_inv (List.range 4) (fun k => .int (k : Int)) (fun _ => True) (fun k acc s' => St s' d l (A + 2 * k) ∧ Fr [d, l] s s' ∧ k ≤ 4 ∧ ∃ ys : List Rat, acc = ys.map q ∧ ys.length = k ∧ ∀ y ∈ ys, W 10 y) ?_ (fun k acc s' ⟨_, _, _, ys, e1, e2, _⟩ => ⟨trivial, by rw [e1, List.length_map]; omega⟩) (by simp [cap]) (fun k x acc s' hx ⟨hS, hF, hk4, ys, e1, e2, e3⟩ => ?_) (fun acc s' ⟨hS, hF, _, ys, e1, e2, e3⟩ => ?_)
  · simp only [j_rng, w_int, w_bl, w_non, w_no, w_str, w_nil, w_one, w_var, toVar_some, w_glob, toGl_some, toTup_tup, toBl_true, toBl_false, w_cons, w_tup, w_lst, w_bin, w_cmp, w_chain, w_not, w_and, w_or, w_ife, toInt_int, w_neg, w_idx, w_slice, w_isi, w_call, w_blt, toSeq_tup, w_star, w_rev, onNx_nx, onNx_rt, onNx_ct, x_skip, x_seq, toSl_some, x_set, x_setC, x_par, x_ret, x_expr, x_cont, x_sif, onRt_rt, onRt_nx, onTurn_nx, onTurn_ct, onTurn_rt, lay, layN, List.map_cons, List.map_nil, List.getElem?_cons_zero, List.getElem?_cons_succ, Nat.sub_self, List.replicate_zero, List.replicate_succ, List.append_nil, List.cons_append, List.nil_append, List.set_cons_zero, List.set_cons_succ, Nat.reduceSub, to_ok, wipeP, true_and, glob0, glob1, glob2, glob3, glob4, glob5, glob6, glob7, glob8, glob9, capk0, capk1, capk2, capk3, capk4, capk5]
    exact ⟨by decide, by simp [It.most], sees_r (n := 4), h, .refl, by decide, [], rfl, rfl, by simp⟩
  · have hk : k < 4 := by
      have := (List.getElem?_eq_some_iff.mp hx).1
      simpa using this
    simp only [Turn, w_int, w_bl, w_non, w_no, w_str, w_nil, w_one, w_var, toVar_some, w_glob, toGl_some, toTup_tup, toBl_true, toBl_false, w_cons, w_tup, w_lst, w_bin, w_cmp, w_chain, w_not, w_and, w_or, w_ife, toInt_int, w_neg, w_idx, w_slice, w_isi, w_call, w_blt, toSeq_tup, w_star, w_rev, onNx_nx, onNx_rt, onNx_ct, x_skip, x_seq, toSl_some, x_set, x_setC, x_par, x_ret, x_expr, x_cont, x_sif, onRt_rt, onRt_nx, onTurn_nx, onTurn_ct, onTurn_rt, lay, layN, List.map_cons, List.map_nil, List.getElem?_cons_zero, List.getElem?_cons_succ, Nat.sub_self, List.replicate_zero, List.replicate_succ, List.append_nil, List.cons_append, List.nil_append, List.set_cons_zero, List.set_cons_succ, Nat.reduceSub, to_ok, wipeP, true_and, glob0, glob1, glob2, glob3, glob4, glob5, glob6, glob7, glob8, glob9, capk0, capk1, capk2, capk3, capk4, capk5]
    refine to_mono (draw_ok hS (by omega) (by decide) (by decide)) fun v s1 ⟨⟨k1, ev, hk1⟩, h1, f1⟩ => ?_
    subst ev
    simp only [w_int, w_bl, w_non, w_no, w_str, w_nil, w_one, w_var, toVar_some, w_glob, toGl_some, toTup_tup, toBl_true, toBl_false, w_cons, w_tup, w_lst, w_bin, w_cmp, w_chain, w_not, w_and, w_or, w_ife, toInt_int, w_neg, w_idx, w_slice, w_isi, w_call, w_blt, toSeq_tup, w_star, w_rev, onNx_nx, onNx_rt, onNx_ct, x_skip, x_seq, toSl_some, x_set, x_setC, x_par, x_ret, x_expr, x_cont, x_sif, onRt_rt, onRt_nx, onTurn_nx, onTurn_ct, onTurn_rt, lay, layN, List.map_cons, List.map_nil, List.getElem?_cons_zero, List.getElem?_cons_succ, Nat.sub_self, List.replicate_zero, List.replicate_succ, List.append_nil, List.cons_append, List.nil_append, List.set_cons_zero, List.set_cons_succ, Nat.reduceSub, to_ok, wipeP, true_and, glob0, glob1, glob2, glob3, glob4, glob5, glob6, glob7, glob8, glob9, capk0, capk1, capk2, capk3, capk4, capk5, w_sub]
    refine to_mono (draw_ok h1 (by omega) (by decide) (by decide)) fun v s2 ⟨⟨k2, ev, hk2⟩, h2, f2⟩ => ?_
    subst ev
    simp only [w_int, w_bl, w_non, w_no, w_str, w_nil, w_one, w_var, toVar_some, w_glob, toGl_some, toTup_tup, toBl_true, toBl_false, w_cons, w_tup, w_lst, w_bin, w_cmp, w_chain, w_not, w_and, w_or, w_ife, toInt_int, w_neg, w_idx, w_slice, w_isi, w_call, w_blt, toSeq_tup, w_star, w_rev, onNx_nx, onNx_rt, onNx_ct, x_skip, x_seq, toSl_some, x_set, x_setC, x_par, x_ret, x_expr, x_cont, x_sif, onRt_rt, onRt_nx, onTurn_nx, onTurn_ct, onTurn_rt, lay, layN, List.map_cons, List.map_nil, List.getElem?_cons_zero, List.getElem?_cons_succ, Nat.sub_self, List.replicate_zero, List.replicate_succ, List.append_nil, List.cons_append, List.nil_append, List.set_cons_zero, List.set_cons_succ, Nat.reduceSub, to_ok, wipeP, true_and, glob0, glob1, glob2, glob3, glob4, glob5, glob6, glob7, glob8, glob9, capk0, capk1, capk2, capk3, capk4, capk5, w_add]
    rw [cast1, ratio_ok (by omega) (b_lt (by omega))]
    refine ⟨h2.mono (by omega), (hF.trans f1).trans f2, by omega, ys ++ [mkRat ((k1 : Int) - 6) (1 + k2)], by rw [e1]; simp, by simp [e2], fun y hy => ?_⟩
    rcases List.mem_append.mp hy with hy | hy
    · exact e3 y hy
    · rw [List.mem_singleton.mp hy]
      exact W_small (by omega) (by omega) (by omega)
  · subst e1
    simp only [List.length_range] at e2 hS
    have f0 : Fr [d, l] s (s'.new (.lst (ys.map q))) := hF.trans .new
    have hS0 : St (s'.new (.lst (ys.map q))) d l (A + 8) := hS.fr .new
    refine to_mono (sorted_ok .new e3 (by omega)) fun v s1 ⟨f1, j, f, ev, hj, hjn, hsrt, hfl, hfw⟩ => ?_
    subst ev
    have hS1 := hS0.fr f1
    have f01 := f0.trans f1.wide
    have hdl := h.dl
    have hjl : j ∉ [d, l] := by
      have := f0.le
      simp only [List.mem_cons, List.not_mem_nil, or_false]
      omega
    simp only [w_int, w_bl, w_non, w_no, w_str, w_nil, w_one, w_var, toVar_some, w_glob, toGl_some, toTup_tup, toBl_true, toBl_false, w_cons, w_tup, w_lst, w_bin, w_cmp, w_chain, w_not, w_and, w_or, w_ife, toInt_int, w_neg, w_idx, w_slice, w_isi, w_call, w_blt, toSeq_tup, w_star, w_rev, onNx_nx, onNx_rt, onNx_ct, x_skip, x_seq, toSl_some, x_set, x_setC, x_par, x_ret, x_expr, x_cont, x_sif, onRt_rt, onRt_nx, onTurn_nx, onTurn_ct, onTurn_rt, lay, layN, List.map_cons, List.map_nil, List.getElem?_cons_zero, List.getElem?_cons_succ, Nat.sub_self, List.replicate_zero, List.replicate_succ, List.append_nil, List.cons_append, List.nil_append, List.set_cons_zero, List.set_cons_succ, Nat.reduceSub, to_ok, wipeP, true_and, glob0, glob1, glob2, glob3, glob4, glob5, glob6, glob7, glob8, glob9, capk0, capk1, capk2, capk3, capk4, capk5, len_lst hj, w_add, List.length_map]
    refine to_mono (draw_ok hS1 (by omega) (by omega) (by omega)) fun v s2 ⟨⟨k2, ev, hk2⟩, hS2, f2⟩ => ?_
    subst ev
    have hj2 := hj.fr f2 hjl
    refine ⟨none, some (k2 : Int), rfl, rfl, ?_⟩
    rw [slice_to hj2 (by simp; omega), ← List.map_take]
    try simp only [w_int, w_bl, w_non, w_no, w_str, w_nil, w_one, w_var, toVar_some, w_glob, toGl_some, toTup_tup, toBl_true, toBl_false, w_cons, w_tup, w_lst, w_bin, w_cmp, w_chain, w_not, w_and, w_or, w_ife, toInt_int, w_neg, w_idx, w_slice, w_isi, w_call, w_blt, toSeq_tup, w_star, w_rev, onNx_nx, onNx_rt, onNx_ct, x_skip, x_seq, toSl_some, x_set, x_setC, x_par, x_ret, x_expr, x_cont, x_sif, onRt_rt, onRt_nx, onTurn_nx, onTurn_ct, onTurn_rt, lay, layN, List.map_cons, List.map_nil, List.getElem?_cons_zero, List.getElem?_cons_succ, Nat.sub_self, List.replicate_zero, List.replicate_succ, List.append_nil, List.cons_append, List.nil_append, List.set_cons_zero, List.set_cons_succ, Nat.reduceSub, to_ok, wipeP, true_and, glob0, glob1, glob2, glob3, glob4, glob5, glob6, glob7, glob8, glob9, capk0, capk1, capk2, capk3, capk4, capk5]
    have hm : At (s2.new (.lst ((f.take k2).map q))) s2.n ((f.take k2).map q) := .new
    have hS3 : St (s2.new (.lst ((f.take k2).map q))) d l (A + 8 + 1) := hS2.fr .new
    have f3 : Fr [d, l] s (s2.new (.lst ((f.take k2).map q))) := (f01.trans f2).trans .new
    have him : s2.n ∉ [d, l] := by
      have := hS2.dl
      simp only [List.mem_cons, List.not_mem_nil, or_false]
      omega
    generalize s2.new (.lst ((f.take k2).map q)) = s3 at hm hS3 f3 ⊢
    generalize s2.n = im at hm him ⊢
    have hfw' : ∀ x ∈ f.take k2, W 10 x := fun x hx => hfw x (List.mem_of_mem_take hx)
    have hsrt' : (f.take k2).Pairwise (· < ·) := hsrt.sublist (List.take_sublist _ _)
    have hl' : (f.take k2).length ≤ 4 := by rw [List.length_take]; omega
    generalize f.take k2 = m at hm hfw' hsrt' hl'
    refine comp_inv m q (fun s' => At s' im (m.map q)) (fun k acc s' => St s' d l (A + 8 + 1 + k) ∧ Fr [d, l] s3 s' ∧ k ≤ 4 ∧ ∃ L' : List (Rat × Rat), acc = L'.map row ∧ L'.map (·.1) = m.take k ∧ ∀ p ∈ L', W 10 p.1 ∧ W 10 p.2 ∧ 0 < p.2) ?_ (fun k acc s' ⟨_, hF, _, L', e1, e2, _⟩ => ⟨hm.fr hF him, ?_⟩) (by simp [cap]; omega) (fun k x acc s' hx ⟨hS, hF, hk4, L', e1, e2, e3⟩ => ?_) (fun acc s' ⟨hS, hF, _, L', e1, e2, e3⟩ => ?_)
    · simp only [j_seq, w_int, w_bl, w_non, w_no, w_str, w_nil, w_one, w_var, toVar_some, w_glob, toGl_some, toTup_tup, toBl_true, toBl_false, w_cons, w_tup, w_lst, w_bin, w_cmp, w_chain, w_not, w_and, w_or, w_ife, toInt_int, w_neg, w_idx, w_slice, w_isi, w_call, w_blt, toSeq_tup, w_star, w_rev, onNx_nx, onNx_rt, onNx_ct, x_skip, x_seq, toSl_some, x_set, x_setC, x_par, x_ret, x_expr, x_cont, x_sif, onRt_rt, onRt_nx, onTurn_nx, onTurn_ct, onTurn_rt, lay, layN, List.map_cons, List.map_nil, List.getElem?_cons_zero, List.getElem?_cons_succ, Nat.sub_self, List.replicate_zero, List.replicate_succ, List.append_nil, List.cons_append, List.nil_append, List.set_cons_zero, List.set_cons_succ, Nat.reduceSub, to_ok, wipeP, true_and, glob0, glob1, glob2, glob3, glob4, glob5, glob6, glob7, glob8, glob9, capk0, capk1, capk2, capk3, capk4, capk5]
      exact ⟨_, hm.getL, by simp [It.most, hm.getL], sees_l fun s' h => h, hS3, .refl, by decide, [], rfl, rfl, by simp⟩
    · have : L'.length = (m.take k).length := by rw [← e2, List.length_map]
      rw [e1, List.length_map, this, List.length_take]
      omega
    · have hxm := List.mem_of_getElem? hx
      have hk : k < m.length := (List.getElem?_eq_some_iff.mp hx).1
      simp only [Turn, w_int, w_bl, w_non, w_no, w_str, w_nil, w_one, w_var, toVar_some, w_glob, toGl_some, toTup_tup, toBl_true, toBl_false, w_cons, w_tup, w_lst, w_bin, w_cmp, w_chain, w_not, w_and, w_or, w_ife, toInt_int, w_neg, w_idx, w_slice, w_isi, w_call, w_blt, toSeq_tup, w_star, w_rev, onNx_nx, onNx_rt, onNx_ct, x_skip, x_seq, toSl_some, x_set, x_setC, x_par, x_ret, x_expr, x_cont, x_sif, onRt_rt, onRt_nx, onTurn_nx, onTurn_ct, onTurn_rt, lay, layN, List.map_cons, List.map_nil, List.getElem?_cons_zero, List.getElem?_cons_succ, Nat.sub_self, List.replicate_zero, List.replicate_succ, List.append_nil, List.cons_append, List.nil_append, List.set_cons_zero, List.set_cons_succ, Nat.reduceSub, to_ok, wipeP, true_and, glob0, glob1, glob2, glob3, glob4, glob5, glob6, glob7, glob8, glob9, capk0, capk1, capk2, capk3, capk4, capk5]
      refine to_mono (draw_ok hS (by omega) (by decide) (by decide)) fun v s4 ⟨⟨k4, ev, hk4⟩, h4, f4⟩ => ?_
      subst ev
      simp only [w_int, w_bl, w_non, w_no, w_str, w_nil, w_one, w_var, toVar_some, w_glob, toGl_some, toTup_tup, toBl_true, toBl_false, w_cons, w_tup, w_lst, w_bin, w_cmp, w_chain, w_not, w_and, w_or, w_ife, toInt_int, w_neg, w_idx, w_slice, w_isi, w_call, w_blt, toSeq_tup, w_star, w_rev, onNx_nx, onNx_rt, onNx_ct, x_skip, x_seq, toSl_some, x_set, x_setC, x_par, x_ret, x_expr, x_cont, x_sif, onRt_rt, onRt_nx, onTurn_nx, onTurn_ct, onTurn_rt, lay, layN, List.map_cons, List.map_nil, List.getElem?_cons_zero, List.getElem?_cons_succ, Nat.sub_self, List.replicate_zero, List.replicate_succ, List.append_nil, List.cons_append, List.nil_append, List.set_cons_zero, List.set_cons_succ, Nat.reduceSub, to_ok, wipeP, true_and, glob0, glob1, glob2, glob3, glob4, glob5, glob6, glob7, glob8, glob9, capk0, capk1, capk2, capk3, capk4, capk5, w_add]
      rw [show (PV.int 2) = .int ((2 : Nat) : Int) from rfl, ratio_ok (by decide) (b_lt (by decide))]
      try simp only [w_int, w_bl, w_non, w_no, w_str, w_nil, w_one, w_var, toVar_some, w_glob, toGl_some, toTup_tup, toBl_true, toBl_false, w_cons, w_tup, w_lst, w_bin, w_cmp, w_chain, w_not, w_and, w_or, w_ife, toInt_int, w_neg, w_idx, w_slice, w_isi, w_call, w_blt, toSeq_tup, w_star, w_rev, onNx_nx, onNx_rt, onNx_ct, x_skip, x_seq, toSl_some, x_set, x_setC, x_par, x_ret, x_expr, x_cont, x_sif, onRt_rt, onRt_nx, onTurn_nx, onTurn_ct, onTurn_rt, lay, layN, List.map_cons, List.map_nil, List.getElem?_cons_zero, List.getElem?_cons_succ, Nat.sub_self, List.replicate_zero, List.replicate_succ, List.append_nil, List.cons_append, List.nil_append, List.set_cons_zero, List.set_cons_succ, Nat.reduceSub, to_ok, wipeP, true_and, glob0, glob1, glob2, glob3, glob4, glob5, glob6, glob7, glob8, glob9, capk0, capk1, capk2, capk3, capk4, capk5]
      refine ⟨h4, hF.trans f4, by omega, L' ++ [(x, mkRat (1 + (k4 : Int)) 2)], by rw [e1]; simp [row], ?_, fun p hp => ?_⟩
      · rw [List.map_append, e2, List.take_add_one, hx]
        rfl
      · rcases List.mem_append.mp hp with hp | hp
        · exact e3 p hp
        · rw [List.mem_singleton.mp hp]
          exact ⟨hfw' x hxm, W_small (t := 1 + (k4 : Int)) (k := 2) (by decide) (by omega) (by decide), unit_pos hk4⟩
    · subst e1
      rw [List.take_length] at e2
      try simp only [w_int, w_bl, w_non, w_no, w_str, w_nil, w_one, w_var, toVar_some, w_glob, toGl_some, toTup_tup, toBl_true, toBl_false, w_cons, w_tup, w_lst, w_bin, w_cmp, w_chain, w_not, w_and, w_or, w_ife, toInt_int, w_neg, w_idx, w_slice, w_isi, w_call, w_blt, toSeq_tup, w_star, w_rev, onNx_nx, onNx_rt, onNx_ct, x_skip, x_seq, toSl_some, x_set, x_setC, x_par, x_ret, x_expr, x_cont, x_sif, onRt_rt, onRt_nx, onTurn_nx, onTurn_ct, onTurn_rt, lay, layN, List.map_cons, List.map_nil, List.getElem?_cons_zero, List.getElem?_cons_succ, Nat.sub_self, List.replicate_zero, List.replicate_succ, List.append_nil, List.cons_append, List.nil_append, List.set_cons_zero, List.set_cons_succ, Nat.reduceSub, to_ok, wipeP, true_and, glob0, glob1, glob2, glob3, glob4, glob5, glob6, glob7, glob8, glob9, capk0, capk1, capk2, capk3, capk4, capk5]
      rw [tuple_lst .new]
      have hLl : L'.length = m.length := by rw [← e2, List.length_map]
      refine ⟨⟨L', rfl, ⟨by omega, fun p hp => ?_, fun p hp => (e3 p hp).2.2, ?_⟩, by omega, fun p hp => ⟨(e3 p hp).1, (e3 p hp).2.1⟩⟩, (hS.fr .new).mono (by omega), (f3.trans hF).trans .new⟩
      · exact ⟨(e3 p hp).1.mono (by decide), (e3 p hp).2.1.mono (by decide)⟩
      · rw [← e2] at hsrt'
        exact List.pairwise_map.mp hsrt'
end
end K69

namespace K69
open PySem FI GI
section
variable {n : Nat} {a b w g r : Rat} {s : Sto} {Q : PV → Sto → Prop} {d l A : Nat} {L : List (Rat × Rat)}
theorem addT {xs ys : List PV} (h : xs.length + ys.length ≤ cap) : (evBin .add (.tup xs) (.tup ys) s).to Q = Q (.tup (xs ++ ys)) s := by
  simp only [evBin, if_pos h, to_ok]
theorem neLad : (evCmp .ne (lad L) (lad L) s).to Q = Q (.bl false) s := by simp only [evCmp, eqP_lad, to_ok, Bool.not_true]
theorem neSco {M : List (Rat × Rat)} : (evCmp .ne (.tup (M.map mk)) (.tup (M.map mk)) s).to Q = Q (.bl false) s := by simp only [evCmp, eqP_sco, to_ok, Bool.not_true]
section
variable {i : Nat} {x0 x1 x2 x3 : Rat}
theorem ix0 (h : At s i ([x0, x1, x2, x3].map q)) : (evIdx (.lst i) (.int 0) s).to Q = Q (q x0) s := idx_lst h (k := 0) rfl
theorem ix1 (h : At s i ([x0, x1, x2, x3].map q)) : (evIdx (.lst i) (.int 1) s).to Q = Q (q x1) s := idx_lst h (k := 1) rfl
theorem ix2 (h : At s i ([x0, x1, x2, x3].map q)) : (evIdx (.lst i) (.int 2) s).to Q = Q (q x2) s := idx_lst h (k := 2) rfl
theorem ix3 (h : At s i ([x0, x1, x2, x3].map q)) : (evIdx (.lst i) (.int 3) s).to Q = Q (q x3) s := idx_lst h (k := 3) rfl
end
theorem iy0 {i : Nat} {x y : Rat} (h : At s i [q x, q y]) : (evIdx (.lst i) (.int 0) s).to Q = Q (q x) s := idx_lst h (k := 0) rfl
theorem iy1 {i : Nat} {x y : Rat} (h : At s i [q x, q y]) : (evIdx (.lst i) (.int 1) s).to Q = Q (q y) s := idx_lst h (k := 1) rfl
/-- the body of the law's turns -/
def cTurn : E := match c_law with
  | .seq _ (.seq (.sfor _ _ b) _) => b
  | _ => .skip
def cRest : E := match c_law with
  | .seq _ (.seq _ r) => r
  | _ => .skip
theorem c_law_eq : c_law = .seq (.set (.tn 1) (.call 55 (.cons (.var 0) .nil))) (.seq (.sfor (.tn 2) (.irng (.bin .add (.int 2) (.blt .min2 (.cons (.blt .len (.cons (.var 0) .nil)) (.cons (.int 3) .nil))))) cTurn) cRest) := rfl
def slotsOk (d : Nat) (σ : Sl) : Prop := ∃ o2 o6 o7 o8 o9 o10 o11 o12 o13 o14 o15 o16 : Option PV, σ = [some (.lst 0), some (.dct d), o2, none, none, none, o6, o7, o8, o9, o10, o11, o12, o13, o14, o15, o16]
theorem turn_ok {σ : Sl} {P : Fl → Sto → Prop} (hσ : slotsOk d σ) (h : St s d l A) (hA : A ≤ 800) (hP : ∀ σ' s', slotsOk d σ' → St s' d l (A + 40) → P (.nx σ') s') : (ex T (runF T (n + 11)) cTurn σ s).to P := by
  obtain ⟨o2, o6, o7, o8, o9, o10, o11, o12, o13, o14, o15, o16, rfl⟩ := hσ
  simp only [cTurn, c_law, w_int, w_bl, w_non, w_no, w_str, w_nil, w_one, w_var, toVar_some, w_glob, toGl_some, toTup_tup, toBl_true, toBl_false, w_cons, w_tup, w_lst, w_bin, w_cmp, w_chain, w_not, w_and, w_or, w_ife, toInt_int, w_neg, w_idx, w_slice, w_isi, w_call, w_blt, toSeq_tup, w_star, w_rev, onNx_nx, onNx_rt, onNx_ct, x_skip, x_seq, toSl_some, x_set, x_setC, x_par, x_ret, x_expr, x_cont, x_sif, onRt_rt, onRt_nx, onTurn_nx, onTurn_ct, onTurn_rt, lay, layN, List.map_cons, List.map_nil, List.getElem?_cons_zero, List.getElem?_cons_succ, Nat.sub_self, List.replicate_zero, List.replicate_succ, List.append_nil, List.cons_append, List.nil_append, List.set_cons_zero, List.set_cons_succ, Nat.reduceSub, to_ok, wipeP, true_and, glob0, glob1, glob2, glob3, glob4, glob5, glob6, glob7, glob8, glob9, capk0, capk1, capk2, capk3, capk4, capk5]
  refine to_mono (ladder_ok h (by omega)) fun v s1 ⟨⟨L, ev, hD⟩, hS1, f1⟩ => ?_
  subst ev
  have hL := hD.lad
  have hl4 := hD.len
  try simp only [w_int, w_bl, w_non, w_no, w_str, w_nil, w_one, w_var, toVar_some, w_glob, toGl_some, toTup_tup, toBl_true, toBl_false, w_cons, w_tup, w_lst, w_bin, w_cmp, w_chain, w_not, w_and, w_or, w_ife, toInt_int, w_neg, w_idx, w_slice, w_isi, w_call, w_blt, toSeq_tup, w_star, w_rev, onNx_nx, onNx_rt, onNx_ct, x_skip, x_seq, toSl_some, x_set, x_setC, x_par, x_ret, x_expr, x_cont, x_sif, onRt_rt, onRt_nx, onTurn_nx, onTurn_ct, onTurn_rt, lay, layN, List.map_cons, List.map_nil, List.getElem?_cons_zero, List.getElem?_cons_succ, Nat.sub_self, List.replicate_zero, List.replicate_succ, List.append_nil, List.cons_append, List.nil_append, List.set_cons_zero, List.set_cons_succ, Nat.reduceSub, to_ok, wipeP, true_and, glob0, glob1, glob2, glob3, glob4, glob5, glob6, glob7, glob8, glob9, capk0, capk1, capk2, capk3, capk4, capk5]
  refine comp_inv (List.range 4) (fun k => .int (k : Int)) (fun _ => True) (fun k acc s' => St s' d l (A + 20 + 2 * k) ∧ k ≤ 4 ∧ ∃ ys : List Rat, acc = ys.map q ∧ ys.length = k ∧ ∀ y ∈ ys, W 10 y) ?_ (fun k acc s' ⟨_, _, ys, e1, e2, _⟩ => ⟨trivial, by rw [e1, List.length_map]; omega⟩) (by simp [cap]) (fun k x acc s' hx ⟨hS, hk4, ys, e1, e2, e3⟩ => ?_) (fun acc s' ⟨hS, _, ys, e1, e2, e3⟩ => ?_)
  · simp only [j_rng, w_int, w_bl, w_non, w_no, w_str, w_nil, w_one, w_var, toVar_some, w_glob, toGl_some, toTup_tup, toBl_true, toBl_false, w_cons, w_tup, w_lst, w_bin, w_cmp, w_chain, w_not, w_and, w_or, w_ife, toInt_int, w_neg, w_idx, w_slice, w_isi, w_call, w_blt, toSeq_tup, w_star, w_rev, onNx_nx, onNx_rt, onNx_ct, x_skip, x_seq, toSl_some, x_set, x_setC, x_par, x_ret, x_expr, x_cont, x_sif, onRt_rt, onRt_nx, onTurn_nx, onTurn_ct, onTurn_rt, lay, layN, List.map_cons, List.map_nil, List.getElem?_cons_zero, List.getElem?_cons_succ, Nat.sub_self, List.replicate_zero, List.replicate_succ, List.append_nil, List.cons_append, List.nil_append, List.set_cons_zero, List.set_cons_succ, Nat.reduceSub, to_ok, wipeP, true_and, glob0, glob1, glob2, glob3, glob4, glob5, glob6, glob7, glob8, glob9, capk0, capk1, capk2, capk3, capk4, capk5]
    exact ⟨by decide, by simp [It.most], sees_r (n := 4), hS1, by decide, [], rfl, rfl, by simp⟩
  · have hk : k < 4 := by
      have := (List.getElem?_eq_some_iff.mp hx).1
      simpa using this
    simp only [Turn, w_int, w_bl, w_non, w_no, w_str, w_nil, w_one, w_var, toVar_some, w_glob, toGl_some, toTup_tup, toBl_true, toBl_false, w_cons, w_tup, w_lst, w_bin, w_cmp, w_chain, w_not, w_and, w_or, w_ife, toInt_int, w_neg, w_idx, w_slice, w_isi, w_call, w_blt, toSeq_tup, w_star, w_rev, onNx_nx, onNx_rt, onNx_ct, x_skip, x_seq, toSl_some, x_set, x_setC, x_par, x_ret, x_expr, x_cont, x_sif, onRt_rt, onRt_nx, onTurn_nx, onTurn_ct, onTurn_rt, lay, layN, List.map_cons, List.map_nil, List.getElem?_cons_zero, List.getElem?_cons_succ, Nat.sub_self, List.replicate_zero, List.replicate_succ, List.append_nil, List.cons_append, List.nil_append, List.set_cons_zero, List.set_cons_succ, Nat.reduceSub, to_ok, wipeP, true_and, glob0, glob1, glob2, glob3, glob4, glob5, glob6, glob7, glob8, glob9, capk0, capk1, capk2, capk3, capk4, capk5]
    refine to_mono (number_ok hS (by omega)) fun v s2 ⟨⟨y, ev, hy⟩, hS2, f2⟩ => ?_
    subst ev
    refine ⟨hS2.mono (by omega), by omega, ys ++ [y], by rw [e1]; simp, by simp [e2], fun z hz => ?_⟩
    rcases List.mem_append.mp hz with hz | hz
    · exact e3 z hz
    · rw [List.mem_singleton.mp hz]; exact hy
  · simp only [List.length_range] at e2 hS
    obtain ⟨x0, x1, x2, x3, rfl⟩ : ∃ x0 x1 x2 x3, ys = [x0, x1, x2, x3] := by
      match ys, e2 with
      | [x0, x1, x2, x3], _ => exact ⟨x0, x1, x2, x3, rfl⟩
    subst e1
    have w0 : W 20 x0 := (e3 x0 (by simp)).mono (by decide)
    have w1 : W 20 x1 := (e3 x1 (by simp)).mono (by decide)
    have w2 : W 20 x2 := (e3 x2 (by simp)).mono (by decide)
    have w3 : W 20 x3 := (e3 x3 (by simp)).mono (by decide)
    have u0 := w0.mono (by decide : 20 ≤ 30)
    have u1 := w1.mono (by decide : 20 ≤ 30)
    have u2 := w2.mono (by decide : 20 ≤ 30)
    have u3 := w3.mono (by decide : 20 ≤ 30)
    have hX : At (s'.new (.lst ([x0, x1, x2, x3].map q))) s'.n ([x0, x1, x2, x3].map q) := .new
    have hS0 : St (s'.new (.lst ([x0, x1, x2, x3].map q))) d l (A + 40) := (hS.fr .new).mono (by omega)
    generalize s'.new (.lst ([x0, x1, x2, x3].map q)) = t0 at hX hS0 ⊢
    generalize s'.n = ix at hX ⊢
    clear hS hS1 f1 h
    try simp only [w_int, w_bl, w_non, w_no, w_str, w_nil, w_one, w_var, toVar_some, w_glob, toGl_some, toTup_tup, toBl_true, toBl_false, w_cons, w_tup, w_lst, w_bin, w_cmp, w_chain, w_not, w_and, w_or, w_ife, toInt_int, w_neg, w_idx, w_slice, w_isi, w_call, w_blt, toSeq_tup, w_star, w_rev, onNx_nx, onNx_rt, onNx_ct, x_skip, x_seq, toSl_some, x_set, x_setC, x_par, x_ret, x_expr, x_cont, x_sif, onRt_rt, onRt_nx, onTurn_nx, onTurn_ct, onTurn_rt, lay, layN, List.map_cons, List.map_nil, List.getElem?_cons_zero, List.getElem?_cons_succ, Nat.sub_self, List.replicate_zero, List.replicate_succ, List.append_nil, List.cons_append, List.nil_append, List.set_cons_zero, List.set_cons_succ, Nat.reduceSub, to_ok, wipeP, true_and, glob0, glob1, glob2, glob3, glob4, glob5, glob6, glob7, glob8, glob9, capk0, capk1, capk2, capk3, capk4, capk5]
    refine (asscore' hL).to fun t1 g1 => ?_
    try simp only [w_int, w_bl, w_non, w_no, w_str, w_nil, w_one, w_var, toVar_some, w_glob, toGl_some, toTup_tup, toBl_true, toBl_false, w_cons, w_tup, w_lst, w_bin, w_cmp, w_chain, w_not, w_and, w_or, w_ife, toInt_int, w_neg, w_idx, w_slice, w_isi, w_call, w_blt, toSeq_tup, w_star, w_rev, onNx_nx, onNx_rt, onNx_ct, x_skip, x_seq, toSl_some, x_set, x_setC, x_par, x_ret, x_expr, x_cont, x_sif, onRt_rt, onRt_nx, onTurn_nx, onTurn_ct, onTurn_rt, lay, layN, List.map_cons, List.map_nil, List.getElem?_cons_zero, List.getElem?_cons_succ, Nat.sub_self, List.replicate_zero, List.replicate_succ, List.append_nil, List.cons_append, List.nil_append, List.set_cons_zero, List.set_cons_succ, Nat.reduceSub, to_ok, wipeP, true_and, glob0, glob1, glob2, glob3, glob4, glob5, glob6, glob7, glob8, glob9, capk0, capk1, capk2, capk3, capk4, capk5]
    refine (ladderof_ok hL.sco).to fun t2 g2 => ?_
    rw [merged_sco hL]
    simp only [neLad, w_int, w_bl, w_non, w_no, w_str, w_nil, w_one, w_var, toVar_some, w_glob, toGl_some, toTup_tup, toBl_true, toBl_false, w_cons, w_tup, w_lst, w_bin, w_cmp, w_chain, w_not, w_and, w_or, w_ife, toInt_int, w_neg, w_idx, w_slice, w_isi, w_call, w_blt, toSeq_tup, w_star, w_rev, onNx_nx, onNx_rt, onNx_ct, x_skip, x_seq, toSl_some, x_set, x_setC, x_par, x_ret, x_expr, x_cont, x_sif, onRt_rt, onRt_nx, onTurn_nx, onTurn_ct, onTurn_rt, lay, layN, List.map_cons, List.map_nil, List.getElem?_cons_zero, List.getElem?_cons_succ, Nat.sub_self, List.replicate_zero, List.replicate_succ, List.append_nil, List.cons_append, List.nil_append, List.set_cons_zero, List.set_cons_succ, Nat.reduceSub, to_ok, wipeP, true_and, glob0, glob1, glob2, glob3, glob4, glob5, glob6, glob7, glob8, glob9, capk0, capk1, capk2, capk3, capk4, capk5]
    refine (asscore' hL).to fun t3 g3 => ?_
    try simp only [w_int, w_bl, w_non, w_no, w_str, w_nil, w_one, w_var, toVar_some, w_glob, toGl_some, toTup_tup, toBl_true, toBl_false, w_cons, w_tup, w_lst, w_bin, w_cmp, w_chain, w_not, w_and, w_or, w_ife, toInt_int, w_neg, w_idx, w_slice, w_isi, w_call, w_blt, toSeq_tup, w_star, w_rev, onNx_nx, onNx_rt, onNx_ct, x_skip, x_seq, toSl_some, x_set, x_setC, x_par, x_ret, x_expr, x_cont, x_sif, onRt_rt, onRt_nx, onTurn_nx, onTurn_ct, onTurn_rt, lay, layN, List.map_cons, List.map_nil, List.getElem?_cons_zero, List.getElem?_cons_succ, Nat.sub_self, List.replicate_zero, List.replicate_succ, List.append_nil, List.cons_append, List.nil_append, List.set_cons_zero, List.set_cons_succ, Nat.reduceSub, to_ok, wipeP, true_and, glob0, glob1, glob2, glob3, glob4, glob5, glob6, glob7, glob8, glob9, capk0, capk1, capk2, capk3, capk4, capk5]
    refine (plain_ok hL.sco).to fun t4 g4 => ?_
    rw [merged_sco hL]
    try simp only [w_int, w_bl, w_non, w_no, w_str, w_nil, w_one, w_var, toVar_some, w_glob, toGl_some, toTup_tup, toBl_true, toBl_false, w_cons, w_tup, w_lst, w_bin, w_cmp, w_chain, w_not, w_and, w_or, w_ife, toInt_int, w_neg, w_idx, w_slice, w_isi, w_call, w_blt, toSeq_tup, w_star, w_rev, onNx_nx, onNx_rt, onNx_ct, x_skip, x_seq, toSl_some, x_set, x_setC, x_par, x_ret, x_expr, x_cont, x_sif, onRt_rt, onRt_nx, onTurn_nx, onTurn_ct, onTurn_rt, lay, layN, List.map_cons, List.map_nil, List.getElem?_cons_zero, List.getElem?_cons_succ, Nat.sub_self, List.replicate_zero, List.replicate_succ, List.append_nil, List.cons_append, List.nil_append, List.set_cons_zero, List.set_cons_succ, Nat.reduceSub, to_ok, wipeP, true_and, glob0, glob1, glob2, glob3, glob4, glob5, glob6, glob7, glob8, glob9, capk0, capk1, capk2, capk3, capk4, capk5]
    refine (asscore' hL).to fun t5 g5 => ?_
    rw [sco_pv]
    simp only [neSco, w_int, w_bl, w_non, w_no, w_str, w_nil, w_one, w_var, toVar_some, w_glob, toGl_some, toTup_tup, toBl_true, toBl_false, w_cons, w_tup, w_lst, w_bin, w_cmp, w_chain, w_not, w_and, w_or, w_ife, toInt_int, w_neg, w_idx, w_slice, w_isi, w_call, w_blt, toSeq_tup, w_star, w_rev, onNx_nx, onNx_rt, onNx_ct, x_skip, x_seq, toSl_some, x_set, x_setC, x_par, x_ret, x_expr, x_cont, x_sif, onRt_rt, onRt_nx, onTurn_nx, onTurn_ct, onTurn_rt, lay, layN, List.map_cons, List.map_nil, List.getElem?_cons_zero, List.getElem?_cons_succ, Nat.sub_self, List.replicate_zero, List.replicate_succ, List.append_nil, List.cons_append, List.nil_append, List.set_cons_zero, List.set_cons_succ, Nat.reduceSub, to_ok, wipeP, true_and, glob0, glob1, glob2, glob3, glob4, glob5, glob6, glob7, glob8, glob9, capk0, capk1, capk2, capk3, capk4, capk5]
    have F5 := (((g1.trans g2).trans g3).trans g4).trans g5
    have hX5 := hX.fr0 F5
    refine x_for [(x0, x1, x2), (x1, x2, x3), (x0, x0, x1)] (fun t => .tup [q t.1, q t.2.1, q t.2.2]) (Fr [] t5) (fun k σ s' => Fr [] t5 s' ∧ ∃ o8 o9 o10 : Option PV, σ = [some (.lst 0), some (.dct d), o2, none, none, none, some (lad L), some (.lst ix), o8, o9, o10, o11, o12, o13, o14, o15, o16]) ?_ (fun k σ s' h => h.1) (fun k x σ s' hx ⟨hf, o8, o9, o10, eσ⟩ => ?_) (fun σ s' ⟨hf, o8, o9, o10, eσ⟩ => ?_)
    · simp only [j_seq, w_int, w_bl, w_non, w_no, w_str, w_nil, w_one, w_var, toVar_some, w_glob, toGl_some, toTup_tup, toBl_true, toBl_false, w_cons, w_tup, w_lst, w_bin, w_cmp, w_chain, w_not, w_and, w_or, w_ife, toInt_int, w_neg, w_idx, w_slice, w_isi, w_call, w_blt, toSeq_tup, w_star, w_rev, onNx_nx, onNx_rt, onNx_ct, x_skip, x_seq, toSl_some, x_set, x_setC, x_par, x_ret, x_expr, x_cont, x_sif, onRt_rt, onRt_nx, onTurn_nx, onTurn_ct, onTurn_rt, lay, layN, List.map_cons, List.map_nil, List.getElem?_cons_zero, List.getElem?_cons_succ, Nat.sub_self, List.replicate_zero, List.replicate_succ, List.append_nil, List.cons_append, List.nil_append, List.set_cons_zero, List.set_cons_succ, Nat.reduceSub, to_ok, wipeP, true_and, glob0, glob1, glob2, glob3, glob4, glob5, glob6, glob7, glob8, glob9, capk0, capk1, capk2, capk3, capk4, capk5, ix0 hX5, ix1 hX5, ix2 hX5, ix3 hX5]
      exact ⟨rfl, sees_t (g := fun t : Rat × Rat × Rat => PV.tup [q t.1, q t.2.1, q t.2.2]) (L := [(x0, x1, x2), (x1, x2, x3), (x0, x0, x1)]), .refl, _, _, _, rfl⟩
    · subst eσ
      have hxm := List.mem_of_getElem? hx
      have hw : W 20 x.1 ∧ W 20 x.2.1 ∧ W 20 x.2.2 := by
        simp only [List.mem_cons, List.not_mem_nil, or_false] at hxm
        rcases hxm with rfl | rfl | rfl
        · exact ⟨w0, w1, w2⟩
        · exact ⟨w1, w2, w3⟩
        · exact ⟨w0, w0, w1⟩
      simp only [w_int, w_bl, w_non, w_no, w_str, w_nil, w_one, w_var, toVar_some, w_glob, toGl_some, toTup_tup, toBl_true, toBl_false, w_cons, w_tup, w_lst, w_bin, w_cmp, w_chain, w_not, w_and, w_or, w_ife, toInt_int, w_neg, w_idx, w_slice, w_isi, w_call, w_blt, toSeq_tup, w_star, w_rev, onNx_nx, onNx_rt, onNx_ct, x_skip, x_seq, toSl_some, x_set, x_setC, x_par, x_ret, x_expr, x_cont, x_sif, onRt_rt, onRt_nx, onTurn_nx, onTurn_ct, onTurn_rt, lay, layN, List.map_cons, List.map_nil, List.getElem?_cons_zero, List.getElem?_cons_succ, Nat.sub_self, List.replicate_zero, List.replicate_succ, List.append_nil, List.cons_append, List.nil_append, List.set_cons_zero, List.set_cons_succ, Nat.reduceSub, to_ok, wipeP, true_and, glob0, glob1, glob2, glob3, glob4, glob5, glob6, glob7, glob8, glob9, capk0, capk1, capk2, capk3, capk4, capk5]
      refine (move_ok hL hw.1 hw.2.1 hw.2.2).to fun s6 h6 => ?_
      try simp only [w_int, w_bl, w_non, w_no, w_str, w_nil, w_one, w_var, toVar_some, w_glob, toGl_some, toTup_tup, toBl_true, toBl_false, w_cons, w_tup, w_lst, w_bin, w_cmp, w_chain, w_not, w_and, w_or, w_ife, toInt_int, w_neg, w_idx, w_slice, w_isi, w_call, w_blt, toSeq_tup, w_star, w_rev, onNx_nx, onNx_rt, onNx_ct, x_skip, x_seq, toSl_some, x_set, x_setC, x_par, x_ret, x_expr, x_cont, x_sif, onRt_rt, onRt_nx, onTurn_nx, onTurn_ct, onTurn_rt, lay, layN, List.map_cons, List.map_nil, List.getElem?_cons_zero, List.getElem?_cons_succ, Nat.sub_self, List.replicate_zero, List.replicate_succ, List.append_nil, List.cons_append, List.nil_append, List.set_cons_zero, List.set_cons_succ, Nat.reduceSub, to_ok, wipeP, true_and, glob0, glob1, glob2, glob3, glob4, glob5, glob6, glob7, glob8, glob9, capk0, capk1, capk2, capk3, capk4, capk5]
      exact ⟨hf.trans h6, _, _, _, rfl⟩
    · subst eσ
      have hX6 := hX5.fr0 hf
      have F6 := F5.trans hf
      simp only [w_int, w_bl, w_non, w_no, w_str, w_nil, w_one, w_var, toVar_some, w_glob, toGl_some, toTup_tup, toBl_true, toBl_false, w_cons, w_tup, w_lst, w_bin, w_cmp, w_chain, w_not, w_and, w_or, w_ife, toInt_int, w_neg, w_idx, w_slice, w_isi, w_call, w_blt, toSeq_tup, w_star, w_rev, onNx_nx, onNx_rt, onNx_ct, x_skip, x_seq, toSl_some, x_set, x_setC, x_par, x_ret, x_expr, x_cont, x_sif, onRt_rt, onRt_nx, onTurn_nx, onTurn_ct, onTurn_rt, lay, layN, List.map_cons, List.map_nil, List.getElem?_cons_zero, List.getElem?_cons_succ, Nat.sub_self, List.replicate_zero, List.replicate_succ, List.append_nil, List.cons_append, List.nil_append, List.set_cons_zero, List.set_cons_succ, Nat.reduceSub, to_ok, wipeP, true_and, glob0, glob1, glob2, glob3, glob4, glob5, glob6, glob7, glob8, glob9, capk0, capk1, capk2, capk3, capk4, capk5, ix0 hX6, ix1 hX6, ix3 hX6]
      refine (earned_ok hL u0 u1 u3).to fun t7 g7 => ?_
      have hX7 := hX6.fr0 g7
      simp only [w_int, w_bl, w_non, w_no, w_str, w_nil, w_one, w_var, toVar_some, w_glob, toGl_some, toTup_tup, toBl_true, toBl_false, w_cons, w_tup, w_lst, w_bin, w_cmp, w_chain, w_not, w_and, w_or, w_ife, toInt_int, w_neg, w_idx, w_slice, w_isi, w_call, w_blt, toSeq_tup, w_star, w_rev, onNx_nx, onNx_rt, onNx_ct, x_skip, x_seq, toSl_some, x_set, x_setC, x_par, x_ret, x_expr, x_cont, x_sif, onRt_rt, onRt_nx, onTurn_nx, onTurn_ct, onTurn_rt, lay, layN, List.map_cons, List.map_nil, List.getElem?_cons_zero, List.getElem?_cons_succ, Nat.sub_self, List.replicate_zero, List.replicate_succ, List.append_nil, List.cons_append, List.nil_append, List.set_cons_zero, List.set_cons_succ, Nat.reduceSub, to_ok, wipeP, true_and, glob0, glob1, glob2, glob3, glob4, glob5, glob6, glob7, glob8, glob9, capk0, capk1, capk2, capk3, capk4, capk5, ix1 hX7, ix2 hX7, ix3 hX7]
      refine (earned_ok hL u1 u2 u3).to fun t8 g8 => ?_
      try simp only [w_int, w_bl, w_non, w_no, w_str, w_nil, w_one, w_var, toVar_some, w_glob, toGl_some, toTup_tup, toBl_true, toBl_false, w_cons, w_tup, w_lst, w_bin, w_cmp, w_chain, w_not, w_and, w_or, w_ife, toInt_int, w_neg, w_idx, w_slice, w_isi, w_call, w_blt, toSeq_tup, w_star, w_rev, onNx_nx, onNx_rt, onNx_ct, x_skip, x_seq, toSl_some, x_set, x_setC, x_par, x_ret, x_expr, x_cont, x_sif, onRt_rt, onRt_nx, onTurn_nx, onTurn_ct, onTurn_rt, lay, layN, List.map_cons, List.map_nil, List.getElem?_cons_zero, List.getElem?_cons_succ, Nat.sub_self, List.replicate_zero, List.replicate_succ, List.append_nil, List.cons_append, List.nil_append, List.set_cons_zero, List.set_cons_succ, Nat.reduceSub, to_ok, wipeP, true_and, glob0, glob1, glob2, glob3, glob4, glob5, glob6, glob7, glob8, glob9, capk0, capk1, capk2, capk3, capk4, capk5]
      have hY : At (t8.new (.lst [q (En L x0 x1 x3), q (En L x1 x2 x3)])) t8.n [q (En L x0 x1 x3), q (En L x1 x2 x3)] := .new
      have F9 : Fr [] t0 (t8.new (.lst [q (En L x0 x1 x3), q (En L x1 x2 x3)])) := ((F6.trans g7).trans g8).trans .new
      generalize t8.new (.lst [q (En L x0 x1 x3), q (En L x1 x2 x3)]) = t9 at hY F9 ⊢
      generalize t8.n = iy at hY ⊢
      have hX9 := hX.fr0 F9
      simp only [iy0 hY, iy1 hY, w_int, w_bl, w_non, w_no, w_str, w_nil, w_one, w_var, toVar_some, w_glob, toGl_some, toTup_tup, toBl_true, toBl_false, w_cons, w_tup, w_lst, w_bin, w_cmp, w_chain, w_not, w_and, w_or, w_ife, toInt_int, w_neg, w_idx, w_slice, w_isi, w_call, w_blt, toSeq_tup, w_star, w_rev, onNx_nx, onNx_rt, onNx_ct, x_skip, x_seq, toSl_some, x_set, x_setC, x_par, x_ret, x_expr, x_cont, x_sif, onRt_rt, onRt_nx, onTurn_nx, onTurn_ct, onTurn_rt, lay, layN, List.map_cons, List.map_nil, List.getElem?_cons_zero, List.getElem?_cons_succ, Nat.sub_self, List.replicate_zero, List.replicate_succ, List.append_nil, List.cons_append, List.nil_append, List.set_cons_zero, List.set_cons_succ, Nat.reduceSub, to_ok, wipeP, true_and, glob0, glob1, glob2, glob3, glob4, glob5, glob6, glob7, glob8, glob9, capk0, capk1, capk2, capk3, capk4, capk5]
      rw [plus_ok (w20 (W_En hL u3)) (w20 (W_En hL u3))]
      simp only [w_int, w_bl, w_non, w_no, w_str, w_nil, w_one, w_var, toVar_some, w_glob, toGl_some, toTup_tup, toBl_true, toBl_false, w_cons, w_tup, w_lst, w_bin, w_cmp, w_chain, w_not, w_and, w_or, w_ife, toInt_int, w_neg, w_idx, w_slice, w_isi, w_call, w_blt, toSeq_tup, w_star, w_rev, onNx_nx, onNx_rt, onNx_ct, x_skip, x_seq, toSl_some, x_set, x_setC, x_par, x_ret, x_expr, x_cont, x_sif, onRt_rt, onRt_nx, onTurn_nx, onTurn_ct, onTurn_rt, lay, layN, List.map_cons, List.map_nil, List.getElem?_cons_zero, List.getElem?_cons_succ, Nat.sub_self, List.replicate_zero, List.replicate_succ, List.append_nil, List.cons_append, List.nil_append, List.set_cons_zero, List.set_cons_succ, Nat.reduceSub, to_ok, wipeP, true_and, glob0, glob1, glob2, glob3, glob4, glob5, glob6, glob7, glob8, glob9, capk0, capk1, capk2, capk3, capk4, capk5, ix0 hX9, ix2 hX9, ix3 hX9]
      refine (earned_ok hL u0 u2 u3).to fun t10 g10 => ?_
      rw [w_neq' (show En L x0 x1 x3 + En L x1 x2 x3 = En L x0 x2 x3 by unfold En; grind)]
      have F10 := F9.trans g10
      have hX10 := hX.fr0 F10
      simp only [w_int, w_bl, w_non, w_no, w_str, w_nil, w_one, w_var, toVar_some, w_glob, toGl_some, toTup_tup, toBl_true, toBl_false, w_cons, w_tup, w_lst, w_bin, w_cmp, w_chain, w_not, w_and, w_or, w_ife, toInt_int, w_neg, w_idx, w_slice, w_isi, w_call, w_blt, toSeq_tup, w_star, w_rev, onNx_nx, onNx_rt, onNx_ct, x_skip, x_seq, toSl_some, x_set, x_setC, x_par, x_ret, x_expr, x_cont, x_sif, onRt_rt, onRt_nx, onTurn_nx, onTurn_ct, onTurn_rt, lay, layN, List.map_cons, List.map_nil, List.getElem?_cons_zero, List.getElem?_cons_succ, Nat.sub_self, List.replicate_zero, List.replicate_succ, List.append_nil, List.cons_append, List.nil_append, List.set_cons_zero, List.set_cons_succ, Nat.reduceSub, to_ok, wipeP, true_and, glob0, glob1, glob2, glob3, glob4, glob5, glob6, glob7, glob8, glob9, capk0, capk1, capk2, capk3, capk4, capk5, ix0 hX10]
      refine (line_right_ok (xs := [x2, x3]) hL w0 (fun x hx => by
        simp only [List.mem_cons, List.not_mem_nil, or_false] at hx
        rcases hx with rfl | rfl | rfl | rfl <;> assumption) hX10).to fun t11 g11 => ?_
      try simp only [w_int, w_bl, w_non, w_no, w_str, w_nil, w_one, w_var, toVar_some, w_glob, toGl_some, toTup_tup, toBl_true, toBl_false, w_cons, w_tup, w_lst, w_bin, w_cmp, w_chain, w_not, w_and, w_or, w_ife, toInt_int, w_neg, w_idx, w_slice, w_isi, w_call, w_blt, toSeq_tup, w_star, w_rev, onNx_nx, onNx_rt, onNx_ct, x_skip, x_seq, toSl_some, x_set, x_setC, x_par, x_ret, x_expr, x_cont, x_sif, onRt_rt, onRt_nx, onTurn_nx, onTurn_ct, onTurn_rt, lay, layN, List.map_cons, List.map_nil, List.getElem?_cons_zero, List.getElem?_cons_succ, Nat.sub_self, List.replicate_zero, List.replicate_succ, List.append_nil, List.cons_append, List.nil_append, List.set_cons_zero, List.set_cons_succ, Nat.reduceSub, to_ok, wipeP, true_and, glob0, glob1, glob2, glob3, glob4, glob5, glob6, glob7, glob8, glob9, capk0, capk1, capk2, capk3, capk4, capk5]
      refine (asscore' hL).to fun t12 g12 => ?_
      rw [sco_pv]
      have cr : (L.map mk).length ≤ cap := by simp [cap]; omega
      simp only [w_int, w_bl, w_non, w_no, w_str, w_nil, w_one, w_var, toVar_some, w_glob, toGl_some, toTup_tup, toBl_true, toBl_false, w_cons, w_tup, w_lst, w_bin, w_cmp, w_chain, w_not, w_and, w_or, w_ife, toInt_int, w_neg, w_idx, w_slice, w_isi, w_call, w_blt, toSeq_tup, w_star, w_rev, onNx_nx, onNx_rt, onNx_ct, x_skip, x_seq, toSl_some, x_set, x_setC, x_par, x_ret, x_expr, x_cont, x_sif, onRt_rt, onRt_nx, onTurn_nx, onTurn_ct, onTurn_rt, lay, layN, List.map_cons, List.map_nil, List.getElem?_cons_zero, List.getElem?_cons_succ, Nat.sub_self, List.replicate_zero, List.replicate_succ, List.append_nil, List.cons_append, List.nil_append, List.set_cons_zero, List.set_cons_succ, Nat.reduceSub, to_ok, wipeP, true_and, glob0, glob1, glob2, glob3, glob4, glob5, glob6, glob7, glob8, glob9, capk0, capk1, capk2, capk3, capk4, capk5, cr]
      rw [addT (by simp [cap]; omega)]
      refine (asscore' hL).to fun t13 g13 => ?_
      rw [sco_pv, addT (by simp [cap]; omega)]
      try simp only [w_int, w_bl, w_non, w_no, w_str, w_nil, w_one, w_var, toVar_some, w_glob, toGl_some, toTup_tup, toBl_true, toBl_false, w_cons, w_tup, w_lst, w_bin, w_cmp, w_chain, w_not, w_and, w_or, w_ife, toInt_int, w_neg, w_idx, w_slice, w_isi, w_call, w_blt, toSeq_tup, w_star, w_rev, onNx_nx, onNx_rt, onNx_ct, x_skip, x_seq, toSl_some, x_set, x_setC, x_par, x_ret, x_expr, x_cont, x_sif, onRt_rt, onRt_nx, onTurn_nx, onTurn_ct, onTurn_rt, lay, layN, List.map_cons, List.map_nil, List.getElem?_cons_zero, List.getElem?_cons_succ, Nat.sub_self, List.replicate_zero, List.replicate_succ, List.append_nil, List.cons_append, List.nil_append, List.set_cons_zero, List.set_cons_succ, Nat.reduceSub, to_ok, wipeP, true_and, glob0, glob1, glob2, glob3, glob4, glob5, glob6, glob7, glob8, glob9, capk0, capk1, capk2, capk3, capk4, capk5]
      have etw : (L.map mk).reverse ++ [.tup [.str "stretch", .tup [.int 0, .int 1], .tup [.int 1, .int 1], .tup [.int 0, .int 1]]] ++ L.map mk = (two L).map pv := by
        rw [two_pv, List.append_assoc]
        rfl
      rw [etw]
      have F13 := ((F10.trans g11).trans g12).trans g13
      refine comp_pure L row (fun p => some (row (p.1, 2 * p.2))) ?_ (by simp [cap]; omega) (fun p hp s' hs => ?_) fun i14 t14 g14 hA14 _ => ?_
      · simp only [j_seq, w_int, w_bl, w_non, w_no, w_str, w_nil, w_one, w_var, toVar_some, w_glob, toGl_some, toTup_tup, toBl_true, toBl_false, w_cons, w_tup, w_lst, w_bin, w_cmp, w_chain, w_not, w_and, w_or, w_ife, toInt_int, w_neg, w_idx, w_slice, w_isi, w_call, w_blt, toSeq_tup, w_star, w_rev, onNx_nx, onNx_rt, onNx_ct, x_skip, x_seq, toSl_some, x_set, x_setC, x_par, x_ret, x_expr, x_cont, x_sif, onRt_rt, onRt_nx, onTurn_nx, onTurn_ct, onTurn_rt, lay, layN, List.map_cons, List.map_nil, List.getElem?_cons_zero, List.getElem?_cons_succ, Nat.sub_self, List.replicate_zero, List.replicate_succ, List.append_nil, List.cons_append, List.nil_append, List.set_cons_zero, List.set_cons_succ, Nat.reduceSub, to_ok, wipeP, true_and, glob0, glob1, glob2, glob3, glob4, glob5, glob6, glob7, glob8, glob9, capk0, capk1, capk2, capk3, capk4, capk5, lad]
        exact ⟨by simp [It.most], sees_t, .refl⟩
      · have hw := hL.w p hp
        have z2 : (PV.tup [.int 2, .int 1]) = q 2 := rfl
        simp only [Turn, w_int, w_bl, w_non, w_no, w_str, w_nil, w_one, w_var, toVar_some, w_glob, toGl_some, toTup_tup, toBl_true, toBl_false, w_cons, w_tup, w_lst, w_bin, w_cmp, w_chain, w_not, w_and, w_or, w_ife, toInt_int, w_neg, w_idx, w_slice, w_isi, w_call, w_blt, toSeq_tup, w_star, w_rev, onNx_nx, onNx_rt, onNx_ct, x_skip, x_seq, toSl_some, x_set, x_setC, x_par, x_ret, x_expr, x_cont, x_sif, onRt_rt, onRt_nx, onTurn_nx, onTurn_ct, onTurn_rt, lay, layN, List.map_cons, List.map_nil, List.getElem?_cons_zero, List.getElem?_cons_succ, Nat.sub_self, List.replicate_zero, List.replicate_succ, List.append_nil, List.cons_append, List.nil_append, List.set_cons_zero, List.set_cons_succ, Nat.reduceSub, to_ok, wipeP, true_and, glob0, glob1, glob2, glob3, glob4, glob5, glob6, glob7, glob8, glob9, capk0, capk1, capk2, capk3, capk4, capk5, row, z2, times_ok (w20 W_two) (w20 hw.2)]
        exact .refl
      · rw [fm_some] at hA14
        try simp only [w_int, w_bl, w_non, w_no, w_str, w_nil, w_one, w_var, toVar_some, w_glob, toGl_some, toTup_tup, toBl_true, toBl_false, w_cons, w_tup, w_lst, w_bin, w_cmp, w_chain, w_not, w_and, w_or, w_ife, toInt_int, w_neg, w_idx, w_slice, w_isi, w_call, w_blt, toSeq_tup, w_star, w_rev, onNx_nx, onNx_rt, onNx_ct, x_skip, x_seq, toSl_some, x_set, x_setC, x_par, x_ret, x_expr, x_cont, x_sif, onRt_rt, onRt_nx, onTurn_nx, onTurn_ct, onTurn_rt, lay, layN, List.map_cons, List.map_nil, List.getElem?_cons_zero, List.getElem?_cons_succ, Nat.sub_self, List.replicate_zero, List.replicate_succ, List.append_nil, List.cons_append, List.nil_append, List.set_cons_zero, List.set_cons_succ, Nat.reduceSub, to_ok, wipeP, true_and, glob0, glob1, glob2, glob3, glob4, glob5, glob6, glob7, glob8, glob9, capk0, capk1, capk2, capk3, capk4, capk5]
        rw [tuple_lst hA14]
        have edb : PV.tup (L.map fun p => row (p.1, 2 * p.2)) = lad (dbl L) := by simp [lad, dbl]
        rw [edb]
        try simp only [w_int, w_bl, w_non, w_no, w_str, w_nil, w_one, w_var, toVar_some, w_glob, toGl_some, toTup_tup, toBl_true, toBl_false, w_cons, w_tup, w_lst, w_bin, w_cmp, w_chain, w_not, w_and, w_or, w_ife, toInt_int, w_neg, w_idx, w_slice, w_isi, w_call, w_blt, toSeq_tup, w_star, w_rev, onNx_nx, onNx_rt, onNx_ct, x_skip, x_seq, toSl_some, x_set, x_setC, x_par, x_ret, x_expr, x_cont, x_sif, onRt_rt, onRt_nx, onTurn_nx, onTurn_ct, onTurn_rt, lay, layN, List.map_cons, List.map_nil, List.getElem?_cons_zero, List.getElem?_cons_succ, Nat.sub_self, List.replicate_zero, List.replicate_succ, List.append_nil, List.cons_append, List.nil_append, List.set_cons_zero, List.set_cons_succ, Nat.reduceSub, to_ok, wipeP, true_and, glob0, glob1, glob2, glob3, glob4, glob5, glob6, glob7, glob8, glob9, capk0, capk1, capk2, capk3, capk4, capk5]
        refine (ladderof_ok hD.two).to fun t15 g15 => ?_
        rw [merged_tw hL]
        simp only [neLad, w_int, w_bl, w_non, w_no, w_str, w_nil, w_one, w_var, toVar_some, w_glob, toGl_some, toTup_tup, toBl_true, toBl_false, w_cons, w_tup, w_lst, w_bin, w_cmp, w_chain, w_not, w_and, w_or, w_ife, toInt_int, w_neg, w_idx, w_slice, w_isi, w_call, w_blt, toSeq_tup, w_star, w_rev, onNx_nx, onNx_rt, onNx_ct, x_skip, x_seq, toSl_some, x_set, x_setC, x_par, x_ret, x_expr, x_cont, x_sif, onRt_rt, onRt_nx, onTurn_nx, onTurn_ct, onTurn_rt, lay, layN, List.map_cons, List.map_nil, List.getElem?_cons_zero, List.getElem?_cons_succ, Nat.sub_self, List.replicate_zero, List.replicate_succ, List.append_nil, List.cons_append, List.nil_append, List.set_cons_zero, List.set_cons_succ, Nat.reduceSub, to_ok, wipeP, true_and, glob0, glob1, glob2, glob3, glob4, glob5, glob6, glob7, glob8, glob9, capk0, capk1, capk2, capk3, capk4, capk5]
        refine (asscore' hD.dbl).to fun t16 g16 => ?_
        try simp only [w_int, w_bl, w_non, w_no, w_str, w_nil, w_one, w_var, toVar_some, w_glob, toGl_some, toTup_tup, toBl_true, toBl_false, w_cons, w_tup, w_lst, w_bin, w_cmp, w_chain, w_not, w_and, w_or, w_ife, toInt_int, w_neg, w_idx, w_slice, w_isi, w_call, w_blt, toSeq_tup, w_star, w_rev, onNx_nx, onNx_rt, onNx_ct, x_skip, x_seq, toSl_some, x_set, x_setC, x_par, x_ret, x_expr, x_cont, x_sif, onRt_rt, onRt_nx, onTurn_nx, onTurn_ct, onTurn_rt, lay, layN, List.map_cons, List.map_nil, List.getElem?_cons_zero, List.getElem?_cons_succ, Nat.sub_self, List.replicate_zero, List.replicate_succ, List.append_nil, List.cons_append, List.nil_append, List.set_cons_zero, List.set_cons_succ, Nat.reduceSub, to_ok, wipeP, true_and, glob0, glob1, glob2, glob3, glob4, glob5, glob6, glob7, glob8, glob9, capk0, capk1, capk2, capk3, capk4, capk5]
        refine (like_ok hD.two hD.dbl.sco (by rw [merged_tw hL, merged_sco hD.dbl])).to fun t17 g17 => ?_
        have nb : ∀ {Q : PV → Sto → Prop}, (evCmp .notB (.bl true) (.bl true) t17).to Q = Q (.bl false) t17 := rfl
        simp only [nb, w_int, w_bl, w_non, w_no, w_str, w_nil, w_one, w_var, toVar_some, w_glob, toGl_some, toTup_tup, toBl_true, toBl_false, w_cons, w_tup, w_lst, w_bin, w_cmp, w_chain, w_not, w_and, w_or, w_ife, toInt_int, w_neg, w_idx, w_slice, w_isi, w_call, w_blt, toSeq_tup, w_star, w_rev, onNx_nx, onNx_rt, onNx_ct, x_skip, x_seq, toSl_some, x_set, x_setC, x_par, x_ret, x_expr, x_cont, x_sif, onRt_rt, onRt_nx, onTurn_nx, onTurn_ct, onTurn_rt, lay, layN, List.map_cons, List.map_nil, List.getElem?_cons_zero, List.getElem?_cons_succ, Nat.sub_self, List.replicate_zero, List.replicate_succ, List.append_nil, List.cons_append, List.nil_append, List.set_cons_zero, List.set_cons_succ, Nat.reduceSub, to_ok, wipeP, true_and, glob0, glob1, glob2, glob3, glob4, glob5, glob6, glob7, glob8, glob9, capk0, capk1, capk2, capk3, capk4, capk5]
        have F17 := (((F13.trans g14).trans g15).trans g16).trans g17
        have hX17 := hX.fr0 F17
        simp only [ix0 hX17]
        refine (bend_at_ok hD.two w0).to fun t18 g18 => ?_
        try simp only [w_int, w_bl, w_non, w_no, w_str, w_nil, w_one, w_var, toVar_some, w_glob, toGl_some, toTup_tup, toBl_true, toBl_false, w_cons, w_tup, w_lst, w_bin, w_cmp, w_chain, w_not, w_and, w_or, w_ife, toInt_int, w_neg, w_idx, w_slice, w_isi, w_call, w_blt, toSeq_tup, w_star, w_rev, onNx_nx, onNx_rt, onNx_ct, x_skip, x_seq, toSl_some, x_set, x_setC, x_par, x_ret, x_expr, x_cont, x_sif, onRt_rt, onRt_nx, onTurn_nx, onTurn_ct, onTurn_rt, lay, layN, List.map_cons, List.map_nil, List.getElem?_cons_zero, List.getElem?_cons_succ, Nat.sub_self, List.replicate_zero, List.replicate_succ, List.append_nil, List.cons_append, List.nil_append, List.set_cons_zero, List.set_cons_succ, Nat.reduceSub, to_ok, wipeP, true_and, glob0, glob1, glob2, glob3, glob4, glob5, glob6, glob7, glob8, glob9, capk0, capk1, capk2, capk3, capk4, capk5]
        refine (asscore' hL).to fun t19 g19 => ?_
        have F19 := (F17.trans g18).trans g19
        have hX19 := hX.fr0 F19
        simp only [w_int, w_bl, w_non, w_no, w_str, w_nil, w_one, w_var, toVar_some, w_glob, toGl_some, toTup_tup, toBl_true, toBl_false, w_cons, w_tup, w_lst, w_bin, w_cmp, w_chain, w_not, w_and, w_or, w_ife, toInt_int, w_neg, w_idx, w_slice, w_isi, w_call, w_blt, toSeq_tup, w_star, w_rev, onNx_nx, onNx_rt, onNx_ct, x_skip, x_seq, toSl_some, x_set, x_setC, x_par, x_ret, x_expr, x_cont, x_sif, onRt_rt, onRt_nx, onTurn_nx, onTurn_ct, onTurn_rt, lay, layN, List.map_cons, List.map_nil, List.getElem?_cons_zero, List.getElem?_cons_succ, Nat.sub_self, List.replicate_zero, List.replicate_succ, List.append_nil, List.cons_append, List.nil_append, List.set_cons_zero, List.set_cons_succ, Nat.reduceSub, to_ok, wipeP, true_and, glob0, glob1, glob2, glob3, glob4, glob5, glob6, glob7, glob8, glob9, capk0, capk1, capk2, capk3, capk4, capk5, ix0 hX19]
        refine (bend_at_ok hL.sco w0).to fun t20 g20 => ?_
        have z2 : (PV.tup [.int 2, .int 1]) = q 2 := rfl
        simp only [w_int, w_bl, w_non, w_no, w_str, w_nil, w_one, w_var, toVar_some, w_glob, toGl_some, toTup_tup, toBl_true, toBl_false, w_cons, w_tup, w_lst, w_bin, w_cmp, w_chain, w_not, w_and, w_or, w_ife, toInt_int, w_neg, w_idx, w_slice, w_isi, w_call, w_blt, toSeq_tup, w_star, w_rev, onNx_nx, onNx_rt, onNx_ct, x_skip, x_seq, toSl_some, x_set, x_setC, x_par, x_ret, x_expr, x_cont, x_sif, onRt_rt, onRt_nx, onTurn_nx, onTurn_ct, onTurn_rt, lay, layN, List.map_cons, List.map_nil, List.getElem?_cons_zero, List.getElem?_cons_succ, Nat.sub_self, List.replicate_zero, List.replicate_succ, List.append_nil, List.cons_append, List.nil_append, List.set_cons_zero, List.set_cons_succ, Nat.reduceSub, to_ok, wipeP, true_and, glob0, glob1, glob2, glob3, glob4, glob5, glob6, glob7, glob8, glob9, capk0, capk1, capk2, capk3, capk4, capk5, z2, times_ok (w20 W_two) (w20 (W_Pd hL.sco w0))]
        rw [w_neq' Pd_two]
        try simp only [w_int, w_bl, w_non, w_no, w_str, w_nil, w_one, w_var, toVar_some, w_glob, toGl_some, toTup_tup, toBl_true, toBl_false, w_cons, w_tup, w_lst, w_bin, w_cmp, w_chain, w_not, w_and, w_or, w_ife, toInt_int, w_neg, w_idx, w_slice, w_isi, w_call, w_blt, toSeq_tup, w_star, w_rev, onNx_nx, onNx_rt, onNx_ct, x_skip, x_seq, toSl_some, x_set, x_setC, x_par, x_ret, x_expr, x_cont, x_sif, onRt_rt, onRt_nx, onTurn_nx, onTurn_ct, onTurn_rt, lay, layN, List.map_cons, List.map_nil, List.getElem?_cons_zero, List.getElem?_cons_succ, Nat.sub_self, List.replicate_zero, List.replicate_succ, List.append_nil, List.cons_append, List.nil_append, List.set_cons_zero, List.set_cons_succ, Nat.reduceSub, to_ok, wipeP, true_and, glob0, glob1, glob2, glob3, glob4, glob5, glob6, glob7, glob8, glob9, capk0, capk1, capk2, capk3, capk4, capk5]
        exact hP _ _ ⟨_, _, _, _, _, _, _, _, _, _, _, _, rfl⟩ (hS0.fr (F19.trans g20))
end
end K69

namespace K69
open PySem FI GI
section
variable {n : Nat} {s : Sto} {Q : PV → Sto → Prop} {d l A : Nat} {L : List (Rat × Rat)}
def hand : List (Rat × Rat) := [(1, 2), (3, 1)]
def P4 : List (Rat × Rat) := [(0, 2), (1, 0), (3, 0), (4, 1)]
def X3 : List (Rat × Rat) := [(0, 0), (1, 1), (2, 0)]
theorem hand_ok : Lad hand := by
  refine ⟨by decide, fun p hp => ?_, fun p hp => ?_, ?_⟩
  · simp only [hand, List.mem_cons, List.not_mem_nil, or_false] at hp
    rcases hp with rfl | rfl
    · exact ⟨⟨by decide, by decide⟩, ⟨by decide, by decide⟩⟩
    · exact ⟨⟨by decide, by decide⟩, ⟨by decide, by decide⟩⟩
  · simp only [hand, List.mem_cons, List.not_mem_nil, or_false] at hp
    rcases hp with rfl | rfl
    · decide +kernel
    · decide +kernel
  · unfold hand
    simp
    decide +kernel
theorem X3_ok : Pts X3 := by
  refine ⟨by decide, by decide, fun p hp => ?_, ?_⟩
  · have k : ∀ {r : Rat}, W 30 r → W 1900 r := fun h => h.mono (by decide)
    simp only [X3, List.mem_cons, List.not_mem_nil, or_false] at hp
    rcases hp with rfl | rfl | rfl
    · exact ⟨⟨by decide, by decide⟩, k ⟨by decide, by decide⟩⟩
    · exact ⟨⟨by decide, by decide⟩, k ⟨by decide, by decide⟩⟩
    · exact ⟨⟨by decide, by decide⟩, k ⟨by decide, by decide⟩⟩
  · unfold X3
    simp
    decide +kernel
theorem X3_any : ((slopes X3).zip ((slopes X3).drop 1)).any (fun m => decide (m.2 < m.1)) = true := by decide +kernel
theorem v1 : N hand 4 - N hand 2 = 1 := by decide +kernel
theorem v2 : C hand 4 - C hand 2 = 3 := by decide +kernel
theorem v3 : En hand 2 0 0 = 2 := by decide +kernel
theorem v4 : En hand 2 5 5 = 2 := by decide +kernel
theorem v5 : pts hand 2 1 3 = P4 := by decide +kernel
theorem ends_hand {lo hi : Rat} (h : Ends hand 2 lo hi) : lo = 1 ∧ hi = 3 := by
  have a1 := (h.all (1, 2) (by simp [hand])).1
  have a2 := (h.all (3, 1) (by simp [hand])).2
  have b1 := h.lm
  have b2 := h.hm
  simp only [hand, List.map_cons, List.map_nil, List.mem_cons, List.not_mem_nil, or_false] at b1 b2
  constructor <;> grind
theorem W2 : W 30 2 := ⟨by decide, by decide⟩
theorem W3 : W 30 0 := ⟨by decide, by decide⟩
theorem W4 : W 30 4 := ⟨by decide, by decide⟩
theorem W5 : W 30 5 := ⟨by decide, by decide⟩
def tells : List PV := [q 1, q 3, q 2, q 2, q 2, lad P4]
def dTells : PyData := .list [dq 1, dq 3, dq 2, dq 2, dq 2, .tuple (P4.map drow)]
theorem toD_tells {i : Nat} (h : At s i tells) : toD s 60 (.lst i) = some dTells := by
  show (match s.getL i with | some xs => (match mapO (toD s 59) xs with | some ds => some (PyData.list ds) | none => none) | none => none) = _
  rw [h.getL]
  rfl
theorem eqTells {i j : Nat} (hi : At s i tells) (hj : At s j tells) : (evCmp .eq (.lst i) (.lst j) s).to Q = Q (.bl true) s := by
  simp only [evCmp, eq_same (toD_tells hi) (toD_tells hj) rfl (by decide), to_ok]
theorem rest_ok {σ : Sl} (hσ : slotsOk d σ) : (ex T (runF T (n + 11)) cRest σ s).to (onRt fun v _ => v = .bl true) := by
  obtain ⟨o2, o6, o7, o8, o9, o10, o11, o12, o13, o14, o15, o16, rfl⟩ := hσ
  simp only [cRest, c_law, w_int, w_bl, w_non, w_no, w_str, w_nil, w_one, w_var, toVar_some, w_glob, toGl_some, toTup_tup, toBl_true, toBl_false, w_cons, w_tup, w_lst, w_bin, w_cmp, w_chain, w_not, w_and, w_or, w_ife, toInt_int, w_neg, w_idx, w_slice, w_isi, w_call, w_blt, toSeq_tup, w_star, w_rev, onNx_nx, onNx_rt, onNx_ct, x_skip, x_seq, toSl_some, x_set, x_setC, x_par, x_ret, x_expr, x_cont, x_sif, onRt_rt, onRt_nx, onTurn_nx, onTurn_ct, onTurn_rt, lay, layN, List.map_cons, List.map_nil, List.getElem?_cons_zero, List.getElem?_cons_succ, Nat.sub_self, List.replicate_zero, List.replicate_succ, List.append_nil, List.cons_append, List.nil_append, List.set_cons_zero, List.set_cons_succ, Nat.reduceSub, to_ok, wipeP, true_and, glob0, glob1, glob2, glob3, glob4, glob5, glob6, glob7, glob8, glob9, capk0, capk1, capk2, capk3, capk4, capk5]
  refine (position_ok (L := hand) (a := 2) (b := 4) hand_ok W2 W4).to fun t1 g1 => ?_
  rw [v1]
  try simp only [w_int, w_bl, w_non, w_no, w_str, w_nil, w_one, w_var, toVar_some, w_glob, toGl_some, toTup_tup, toBl_true, toBl_false, w_cons, w_tup, w_lst, w_bin, w_cmp, w_chain, w_not, w_and, w_or, w_ife, toInt_int, w_neg, w_idx, w_slice, w_isi, w_call, w_blt, toSeq_tup, w_star, w_rev, onNx_nx, onNx_rt, onNx_ct, x_skip, x_seq, toSl_some, x_set, x_setC, x_par, x_ret, x_expr, x_cont, x_sif, onRt_rt, onRt_nx, onTurn_nx, onTurn_ct, onTurn_rt, lay, layN, List.map_cons, List.map_nil, List.getElem?_cons_zero, List.getElem?_cons_succ, Nat.sub_self, List.replicate_zero, List.replicate_succ, List.append_nil, List.cons_append, List.nil_append, List.set_cons_zero, List.set_cons_succ, Nat.reduceSub, to_ok, wipeP, true_and, glob0, glob1, glob2, glob3, glob4, glob5, glob6, glob7, glob8, glob9, capk0, capk1, capk2, capk3, capk4, capk5]
  refine (paid_ok (L := hand) (a := 2) (b := 4) hand_ok W2 W4).to fun t2 g2 => ?_
  rw [v2]
  try simp only [w_int, w_bl, w_non, w_no, w_str, w_nil, w_one, w_var, toVar_some, w_glob, toGl_some, toTup_tup, toBl_true, toBl_false, w_cons, w_tup, w_lst, w_bin, w_cmp, w_chain, w_not, w_and, w_or, w_ife, toInt_int, w_neg, w_idx, w_slice, w_isi, w_call, w_blt, toSeq_tup, w_star, w_rev, onNx_nx, onNx_rt, onNx_ct, x_skip, x_seq, toSl_some, x_set, x_setC, x_par, x_ret, x_expr, x_cont, x_sif, onRt_rt, onRt_nx, onTurn_nx, onTurn_ct, onTurn_rt, lay, layN, List.map_cons, List.map_nil, List.getElem?_cons_zero, List.getElem?_cons_succ, Nat.sub_self, List.replicate_zero, List.replicate_succ, List.append_nil, List.cons_append, List.nil_append, List.set_cons_zero, List.set_cons_succ, Nat.reduceSub, to_ok, wipeP, true_and, glob0, glob1, glob2, glob3, glob4, glob5, glob6, glob7, glob8, glob9, capk0, capk1, capk2, capk3, capk4, capk5]
  refine (earned_ok (L := hand) (a := 2) (b := 0) (w := 0) hand_ok W2 W3 W3).to fun t3 g3 => ?_
  rw [v3]
  try simp only [w_int, w_bl, w_non, w_no, w_str, w_nil, w_one, w_var, toVar_some, w_glob, toGl_some, toTup_tup, toBl_true, toBl_false, w_cons, w_tup, w_lst, w_bin, w_cmp, w_chain, w_not, w_and, w_or, w_ife, toInt_int, w_neg, w_idx, w_slice, w_isi, w_call, w_blt, toSeq_tup, w_star, w_rev, onNx_nx, onNx_rt, onNx_ct, x_skip, x_seq, toSl_some, x_set, x_setC, x_par, x_ret, x_expr, x_cont, x_sif, onRt_rt, onRt_nx, onTurn_nx, onTurn_ct, onTurn_rt, lay, layN, List.map_cons, List.map_nil, List.getElem?_cons_zero, List.getElem?_cons_succ, Nat.sub_self, List.replicate_zero, List.replicate_succ, List.append_nil, List.cons_append, List.nil_append, List.set_cons_zero, List.set_cons_succ, Nat.reduceSub, to_ok, wipeP, true_and, glob0, glob1, glob2, glob3, glob4, glob5, glob6, glob7, glob8, glob9, capk0, capk1, capk2, capk3, capk4, capk5]
  have hA : At (t3.new (.lst [q 1, q 3, q 2])) t3.n [q 1, q 3, q 2] := .new
  generalize t3.new (.lst [q 1, q 3, q 2]) = t4 at hA ⊢
  generalize t3.n = ia at hA ⊢
  refine (loss_at_ok (L := hand) (a := 2) (b := 5) hand_ok W2 W5).to fun t5 g5 => ?_
  rw [v4]
  try simp only [w_int, w_bl, w_non, w_no, w_str, w_nil, w_one, w_var, toVar_some, w_glob, toGl_some, toTup_tup, toBl_true, toBl_false, w_cons, w_tup, w_lst, w_bin, w_cmp, w_chain, w_not, w_and, w_or, w_ife, toInt_int, w_neg, w_idx, w_slice, w_isi, w_call, w_blt, toSeq_tup, w_star, w_rev, onNx_nx, onNx_rt, onNx_ct, x_skip, x_seq, toSl_some, x_set, x_setC, x_par, x_ret, x_expr, x_cont, x_sif, onRt_rt, onRt_nx, onTurn_nx, onTurn_ct, onTurn_rt, lay, layN, List.map_cons, List.map_nil, List.getElem?_cons_zero, List.getElem?_cons_succ, Nat.sub_self, List.replicate_zero, List.replicate_succ, List.append_nil, List.cons_append, List.nil_append, List.set_cons_zero, List.set_cons_succ, Nat.reduceSub, to_ok, wipeP, true_and, glob0, glob1, glob2, glob3, glob4, glob5, glob6, glob7, glob8, glob9, capk0, capk1, capk2, capk3, capk4, capk5]
  refine (greatest_ok (L := hand) (a := 2) (b := 0) (c := 5) hand_ok W2 W3 W5 (by decide +kernel)).to fun t6 g6 => ?_
  rw [v3, v4, if_neg (by decide +kernel)]
  try simp only [w_int, w_bl, w_non, w_no, w_str, w_nil, w_one, w_var, toVar_some, w_glob, toGl_some, toTup_tup, toBl_true, toBl_false, w_cons, w_tup, w_lst, w_bin, w_cmp, w_chain, w_not, w_and, w_or, w_ife, toInt_int, w_neg, w_idx, w_slice, w_isi, w_call, w_blt, toSeq_tup, w_star, w_rev, onNx_nx, onNx_rt, onNx_ct, x_skip, x_seq, toSl_some, x_set, x_setC, x_par, x_ret, x_expr, x_cont, x_sif, onRt_rt, onRt_nx, onTurn_nx, onTurn_ct, onTurn_rt, lay, layN, List.map_cons, List.map_nil, List.getElem?_cons_zero, List.getElem?_cons_succ, Nat.sub_self, List.replicate_zero, List.replicate_succ, List.append_nil, List.cons_append, List.nil_append, List.set_cons_zero, List.set_cons_succ, Nat.reduceSub, to_ok, wipeP, true_and, glob0, glob1, glob2, glob3, glob4, glob5, glob6, glob7, glob8, glob9, capk0, capk1, capk2, capk3, capk4, capk5]
  refine to_mono (points_of_ok (L := hand) (r := 2) hand_ok ⟨by decide, by decide⟩) fun v t7 ⟨g7, lo, hi, he, ev⟩ => ?_
  obtain ⟨rfl, rfl⟩ := ends_hand he
  rw [v5] at ev
  subst ev
  try simp only [w_int, w_bl, w_non, w_no, w_str, w_nil, w_one, w_var, toVar_some, w_glob, toGl_some, toTup_tup, toBl_true, toBl_false, w_cons, w_tup, w_lst, w_bin, w_cmp, w_chain, w_not, w_and, w_or, w_ife, toInt_int, w_neg, w_idx, w_slice, w_isi, w_call, w_blt, toSeq_tup, w_star, w_rev, onNx_nx, onNx_rt, onNx_ct, x_skip, x_seq, toSl_some, x_set, x_setC, x_par, x_ret, x_expr, x_cont, x_sif, onRt_rt, onRt_nx, onTurn_nx, onTurn_ct, onTurn_rt, lay, layN, List.map_cons, List.map_nil, List.getElem?_cons_zero, List.getElem?_cons_succ, Nat.sub_self, List.replicate_zero, List.replicate_succ, List.append_nil, List.cons_append, List.nil_append, List.set_cons_zero, List.set_cons_succ, Nat.reduceSub, to_ok, wipeP, true_and, glob0, glob1, glob2, glob3, glob4, glob5, glob6, glob7, glob8, glob9, capk0, capk1, capk2, capk3, capk4, capk5]
  have hA7 := ((hA.fr0 g5).fr0 g6).fr0 g7
  have hB : At (t7.new (.lst [q 2, q 2, lad P4])) t7.n [q 2, q 2, lad P4] := .new
  rw [addL (hA7.fr0 .new) hB (by simp [cap])]
  have hC : At ((t7.new (.lst [q 2, q 2, lad P4])).new (.lst ([q 1, q 3, q 2] ++ [q 2, q 2, lad P4]))) (t7.new (.lst [q 2, q 2, lad P4])).n tells := At.new
  generalize (t7.new (.lst [q 2, q 2, lad P4])).new (.lst ([q 1, q 3, q 2] ++ [q 2, q 2, lad P4])) = t8 at hC ⊢
  generalize (t7.new (.lst [q 2, q 2, lad P4])).n = ic at hC ⊢
  try simp only [w_int, w_bl, w_non, w_no, w_str, w_nil, w_one, w_var, toVar_some, w_glob, toGl_some, toTup_tup, toBl_true, toBl_false, w_cons, w_tup, w_lst, w_bin, w_cmp, w_chain, w_not, w_and, w_or, w_ife, toInt_int, w_neg, w_idx, w_slice, w_isi, w_call, w_blt, toSeq_tup, w_star, w_rev, onNx_nx, onNx_rt, onNx_ct, x_skip, x_seq, toSl_some, x_set, x_setC, x_par, x_ret, x_expr, x_cont, x_sif, onRt_rt, onRt_nx, onTurn_nx, onTurn_ct, onTurn_rt, lay, layN, List.map_cons, List.map_nil, List.getElem?_cons_zero, List.getElem?_cons_succ, Nat.sub_self, List.replicate_zero, List.replicate_succ, List.append_nil, List.cons_append, List.nil_append, List.set_cons_zero, List.set_cons_succ, Nat.reduceSub, to_ok, wipeP, true_and, glob0, glob1, glob2, glob3, glob4, glob5, glob6, glob7, glob8, glob9, capk0, capk1, capk2, capk3, capk4, capk5]
  refine (back_any (X := X3) (r := 0) X3_ok W3 X3_any).to fun t9 g9 => ?_
  have nn : ∀ {Q : PV → Sto → Prop}, (evCmp .notN .non .non t9).to Q = Q (.bl false) t9 := rfl
  simp only [nn, w_int, w_bl, w_non, w_no, w_str, w_nil, w_one, w_var, toVar_some, w_glob, toGl_some, toTup_tup, toBl_true, toBl_false, w_cons, w_tup, w_lst, w_bin, w_cmp, w_chain, w_not, w_and, w_or, w_ife, toInt_int, w_neg, w_idx, w_slice, w_isi, w_call, w_blt, toSeq_tup, w_star, w_rev, onNx_nx, onNx_rt, onNx_ct, x_skip, x_seq, toSl_some, x_set, x_setC, x_par, x_ret, x_expr, x_cont, x_sif, onRt_rt, onRt_nx, onTurn_nx, onTurn_ct, onTurn_rt, lay, layN, List.map_cons, List.map_nil, List.getElem?_cons_zero, List.getElem?_cons_succ, Nat.sub_self, List.replicate_zero, List.replicate_succ, List.append_nil, List.cons_append, List.nil_append, List.set_cons_zero, List.set_cons_succ, Nat.reduceSub, to_ok, wipeP, true_and, glob0, glob1, glob2, glob3, glob4, glob5, glob6, glob7, glob8, glob9, capk0, capk1, capk2, capk3, capk4, capk5]
  have hC9 := hC.fr0 g9
  have hD : At (t9.new (.lst [q 1, q 3, q 2, q 2, q 2])) t9.n [q 1, q 3, q 2, q 2, q 2] := .new
  have e5 : [PV.tup [.int 1, .int 1], .tup [.int 3, .int 1], .tup [.int 2, .int 1], .tup [.int 2, .int 1], .tup [.int 2, .int 1]] = [q 1, q 3, q 2, q 2, q 2] := rfl
  rw [e5]
  have e6 : [PV.tup [.tup [.tup [.int 0, .int 1], .tup [.int 2, .int 1]], .tup [.tup [.int 1, .int 1], .tup [.int 0, .int 1]], .tup [.tup [.int 3, .int 1], .tup [.int 0, .int 1]], .tup [.tup [.int 4, .int 1], .tup [.int 1, .int 1]]]] = [lad P4] := rfl
  rw [e6]
  have hE : At ((t9.new (.lst [q 1, q 3, q 2, q 2, q 2])).new (.lst [lad P4])) (t9.new (.lst [q 1, q 3, q 2, q 2, q 2])).n [lad P4] := .new
  rw [addL (hD.fr0 .new) hE (by simp [cap])]
  have hF : At (((t9.new (.lst [q 1, q 3, q 2, q 2, q 2])).new (.lst [lad P4])).new (.lst ([q 1, q 3, q 2, q 2, q 2] ++ [lad P4]))) ((t9.new (.lst [q 1, q 3, q 2, q 2, q 2])).new (.lst [lad P4])).n tells := At.new
  rw [eqTells (((hC9.fr0 .new).fr0 .new).fr0 .new) hF]
theorem law_ok {ns : List Int} (hl : ns.length ≤ 63) : (runF T (n + 12) 68 [.lst 0] (sto0 ns)).to fun v _ => v = .bl true := by
  refine run_to d_law rfl ?_
  rw [c_law_eq]
  simp only [x_seq, x_set, w_int, w_bl, w_non, w_no, w_str, w_nil, w_one, w_var, toVar_some, w_glob, toGl_some, toTup_tup, toBl_true, toBl_false, w_cons, w_tup, w_lst, w_bin, w_cmp, w_chain, w_not, w_and, w_or, w_ife, toInt_int, w_neg, w_idx, w_slice, w_isi, w_call, w_blt, toSeq_tup, w_star, w_rev, onNx_nx, onNx_rt, onNx_ct, x_skip, x_seq, toSl_some, x_set, x_setC, x_par, x_ret, x_expr, x_cont, x_sif, onRt_rt, onRt_nx, onTurn_nx, onTurn_ct, onTurn_rt, lay, layN, List.map_cons, List.map_nil, List.getElem?_cons_zero, List.getElem?_cons_succ, Nat.sub_self, List.replicate_zero, List.replicate_succ, List.append_nil, List.cons_append, List.nil_append, List.set_cons_zero, List.set_cons_succ, Nat.reduceSub, to_ok, wipeP, true_and, glob0, glob1, glob2, glob3, glob4, glob5, glob6, glob7, glob8, glob9, capk0, capk1, capk2, capk3, capk4, capk5]
  have h0 : look 0 (sto0 ns).os = some (.rol (ns.map .int)) := rfl
  refine to_mono (begin_ok h0 Nat.zero_lt_one hl) fun v s1 ⟨f1, d, l, ev, hS, _, _⟩ => ?_
  subst ev
  try simp only [w_int, w_bl, w_non, w_no, w_str, w_nil, w_one, w_var, toVar_some, w_glob, toGl_some, toTup_tup, toBl_true, toBl_false, w_cons, w_tup, w_lst, w_bin, w_cmp, w_chain, w_not, w_and, w_or, w_ife, toInt_int, w_neg, w_idx, w_slice, w_isi, w_call, w_blt, toSeq_tup, w_star, w_rev, onNx_nx, onNx_rt, onNx_ct, x_skip, x_seq, toSl_some, x_set, x_setC, x_par, x_ret, x_expr, x_cont, x_sif, onRt_rt, onRt_nx, onTurn_nx, onTurn_ct, onTurn_rt, lay, layN, List.map_cons, List.map_nil, List.getElem?_cons_zero, List.getElem?_cons_succ, Nat.sub_self, List.replicate_zero, List.replicate_succ, List.append_nil, List.cons_append, List.nil_append, List.set_cons_zero, List.set_cons_succ, Nat.reduceSub, to_ok, wipeP, true_and, glob0, glob1, glob2, glob3, glob4, glob5, glob6, glob7, glob8, glob9, capk0, capk1, capk2, capk3, capk4, capk5]
  have hg : s1.getL 0 = some (ns.map .int) := by
    have := f1.keep 0 Nat.zero_lt_one List.not_mem_nil
    rw [h0] at this
    unfold Sto.getL
    rw [this]
  have hlen : ∀ {Q : PV → Sto → Prop}, (evBlt .len [.lst 0] s1).to Q = Q (.int (ns.length : Int)) s1 := fun {Q} => by simp only [evBlt, seqOf, hg, to_ok, List.length_map]
  have hmin : ∀ {Q : PV → Sto → Prop} {s : Sto}, (evBlt .min2 [.int (ns.length : Int), .int 3] s).to Q = Q (.int (if (3 : Int) < (ns.length : Int) then 3 else (ns.length : Int))) s := fun {Q s} => by simp only [evBlt, to_ok]
  obtain ⟨c, hc, hc5⟩ : ∃ c : Nat, (2 : Int) + (if (3 : Int) < (ns.length : Int) then 3 else (ns.length : Int)) = (c : Int) ∧ c ≤ 5 := by
    by_cases h : (3 : Int) < (ns.length : Int)
    · exact ⟨5, by rw [if_pos h]; rfl, by decide⟩
    · exact ⟨2 + ns.length, by rw [if_neg h]; omega, by omega⟩
  refine x_for (List.range c) (fun k => .int (k : Int)) (fun _ => True) (fun k σ s' => slotsOk d σ ∧ St s' d l (40 * k) ∧ k ≤ 5) ?_ (fun k σ s' h => trivial) (fun k x σ s' hx ⟨hσ, hS', hk⟩ => ?_) (fun σ s' ⟨hσ, _, _⟩ => ?_)
  · simp only [j_rng, w_int, w_bl, w_non, w_no, w_str, w_nil, w_one, w_var, toVar_some, w_glob, toGl_some, toTup_tup, toBl_true, toBl_false, w_cons, w_tup, w_lst, w_bin, w_cmp, w_chain, w_not, w_and, w_or, w_ife, toInt_int, w_neg, w_idx, w_slice, w_isi, w_call, w_blt, toSeq_tup, w_star, w_rev, onNx_nx, onNx_rt, onNx_ct, x_skip, x_seq, toSl_some, x_set, x_setC, x_par, x_ret, x_expr, x_cont, x_sif, onRt_rt, onRt_nx, onTurn_nx, onTurn_ct, onTurn_rt, lay, layN, List.map_cons, List.map_nil, List.getElem?_cons_zero, List.getElem?_cons_succ, Nat.sub_self, List.replicate_zero, List.replicate_succ, List.append_nil, List.cons_append, List.nil_append, List.set_cons_zero, List.set_cons_succ, Nat.reduceSub, to_ok, wipeP, true_and, glob0, glob1, glob2, glob3, glob4, glob5, glob6, glob7, glob8, glob9, capk0, capk1, capk2, capk3, capk4, capk5, hlen, hmin, w_add, hc]
    refine ⟨by omega, ?_, sees_r (n := c), ⟨_, _, _, _, _, _, _, _, _, _, _, _, rfl⟩, hS, by decide⟩
    simp [It.most]
  · have hk' : k < c := by
      have := (List.getElem?_eq_some_iff.mp hx).1
      simpa using this
    obtain ⟨o2, o6, o7, o8, o9, o10, o11, o12, o13, o14, o15, o16, rfl⟩ := hσ
    simp only [w_int, w_bl, w_non, w_no, w_str, w_nil, w_one, w_var, toVar_some, w_glob, toGl_some, toTup_tup, toBl_true, toBl_false, w_cons, w_tup, w_lst, w_bin, w_cmp, w_chain, w_not, w_and, w_or, w_ife, toInt_int, w_neg, w_idx, w_slice, w_isi, w_call, w_blt, toSeq_tup, w_star, w_rev, onNx_nx, onNx_rt, onNx_ct, x_skip, x_seq, toSl_some, x_set, x_setC, x_par, x_ret, x_expr, x_cont, x_sif, onRt_rt, onRt_nx, onTurn_nx, onTurn_ct, onTurn_rt, lay, layN, List.map_cons, List.map_nil, List.getElem?_cons_zero, List.getElem?_cons_succ, Nat.sub_self, List.replicate_zero, List.replicate_succ, List.append_nil, List.cons_append, List.nil_append, List.set_cons_zero, List.set_cons_succ, Nat.reduceSub, to_ok, wipeP, true_and, glob0, glob1, glob2, glob3, glob4, glob5, glob6, glob7, glob8, glob9, capk0, capk1, capk2, capk3, capk4, capk5]
    refine turn_ok (A := 40 * k) ⟨_, _, _, _, _, _, _, _, _, _, _, _, rfl⟩ hS' (by omega) fun σ' s2 hσ' hS2 => ?_
    exact ⟨hσ', by rw [show 40 * (k + 1) = 40 * k + 40 by omega]; exact hS2, by omega⟩
  · exact rest_ok hσ
theorem runs (ns : List Int) (hl : ns.length ≤ 63) : ∃ s', runF T 12 68 [.lst 0] (sto0 ns) = .ok (.bl true) s' := by
  obtain ⟨v, s', e, h⟩ := to_ex (law_ok (n := 0) hl)
  subst h
  exact ⟨s', e⟩
end
end K69

namespace K69
open PySem PySem.Spec PyProof.Rows FI L2

abbrev R : PySem.W.OpenRow := PySem.W.OpenLaw.row PySem.Challenge.rw_forehouse_k69_ladders_are_scores
abbrev hk : PySem.W.Hook := hookB 5 (faI ds) (fnI ds) (exI T)
def ob (s : PySem.W.SharedT) : AlB := obsB 5 (faI ds) (fnI ds) (exI T) (HandSHeadRun.getT s)
theorem ob_eq (s : PySem.W.SharedT) : ob s = hk.obs s.abs := obsB_eq (HandSHeadRun.getT_eq s)
def names : List Str := (["ForeError", "BadWorld", "BadScore", "BadLadder", "BadFraction", "BadGuesses", "BadBounds", "BadPoints", "NOUGHT", "is_integer", "common", "made"] : List Str) ++ (["is_fraction", "add", "sub", "mul", "div", "is_under", "sum_in", "need_fraction", "MARK", "STRETCH", "MOST_PIECES", "HALF"] : List Str) ++ (["is_piece", "need_score", "rising_once", "covers_stretch", "marks_in", "stretches_in", "plain_in", "plain", "are_like", "over_stretch", "passed_by", "passed_in"] : List Str) ++ (["bend_in", "bend_at", "MOST_STATES", "is_weight", "is_state", "need_world", "is_bet", "MOST_OFFERS", "is_offer", "need_ladder", "as_score", "ladder_of"] : List Str) ++ (["between", "position_in", "paid_in", "need_move", "position", "paid", "earned_in", "earned", "loss_at", "greatest_loss", "LEAST_POINTS", "MOST_POINTS"] : List Str) ++ (["ONE", "is_point", "need_points", "slopes_in", "slope_above", "line_in", "line_at", "ladder_back", "points_of", "need_guesses", "loss_in", "loss"] : List Str) ++ (["_law_mixed", "_law_begin", "_law_draw", "_law_ratio", "_law_plus", "_law_less", "_law_times", "_law_under", "_law_sum", "_law_sorted", "_law_ladder", "_law_number"] : List Str) ++ (["_law_move_right", "_law_line_right"] : List Str)
theorem run (w : World) : HandSHeadRun.RunEq R (PySem.W.view R.prog [95]) hk ob 20000 names w := by
  intro os
  kernel_rfl
end K69
open PySem PySem.W PySem.Calls PyProof.Rows
theorem K69.holds_of (hrun : ∀ ns : List Int, ns.length ≤ 63 → ∃ s', FI.runF K69.T 12 68 [.lst 0] (FI.sto0 ns) = .ok (.bl true) s') : PySem.Challenge.rw_forehouse_k69_ladders_are_scores.Holds := by
  w_on; o_law
  refine HandSHeadRun.head_any (r := OpenLaw.row PySem.Challenge.rw_forehouse_k69_ladders_are_scores) (q := view (OpenLaw.row PySem.Challenge.rw_forehouse_k69_ladders_are_scores).prog [95]) (H := K69.hk) (ob := K69.ob) (M := 20000) (loose := K69.names) (d := HandSHeadRun.topDef (OpenLaw.row PySem.Challenge.rw_forehouse_k69_ladders_are_scores).prog 95) (kwd := []) K69.ob_eq
    (by kernel_rfl) (fun s => by kernel_rfl) K69.run (by kernel_rfl) (by kernel_rfl) (by kernel_rfl) (by rfl) (by first | assumption | decide +kernel) (by decide +kernel) ⟨rfl, rfl, rfl, rfl, rfl, by decide +kernel⟩ ?hw ?hc
  case hw => w_witness2
  case hc =>
    exact FI.walkI (l := PySem.Challenge.rw_forehouse_k69_ladders_are_scores) (n := 63) (k := 11) (x := "_law_script") (T := K69.T) (ds := K69.ds) (f := 68) (i := K69.i_law) (fun _ _ y => y) rfl (by decide) (by kernel_rfl) ⟨rfl, by decide, by decide⟩ K69.fns_eq K69.all (by kernel_rfl) (by kernel_rfl) (by kernel_rfl) hrun

theorem PySem.Challenge.cw_forehouse_k69_ladders_are_scores_holds : PySem.Challenge.rw_forehouse_k69_ladders_are_scores.Holds := by
  exact K69.holds_of K69.runs
