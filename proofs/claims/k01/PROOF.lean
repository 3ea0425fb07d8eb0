import PyProof.Rows.All
import Wide.All
import OpenK.AllK
import Wide.FinOn
import HandS.ForMost
import HandS.TupAny
import HandS.TupMul
import HandS.Deep
import HandS.Wide
import HandS.SortInts
import HandS.Zip
import HandS.Star
import HandS.IsInst
import HandS.Walk
import HandS.Defaults
import HandS.ForExc
import HandS.Flow
import HandS.Style
import HandS.Rev
import HandS.WideMore
import KE.KStateDown
import HandS.Head0
import HandS.Head1
import HandS.Head2
import HandS.HeadEnd
import HandS.HeadHook1
import HandS.HeadHook2
import HandS.EndBits
import PySem.Challenge.RW_runslips_k01_whole_numbers_orders_and_lo
set_option Elab.async false
set_option linter.all false
set_option maxRecDepth 100000
set_option maxHeartbeats 0
namespace MP
open PySem
abbrev Str := PySem.Str
abbrev Key := L2.Key

/-- values: tuples are data, lists and dicts stand in the heap -/
inductive D where
  | non | bl (b : Bool) | int (i : Int) | str (s : Str)
  | tup (ds : List D)
  /-- a list that is only read (the script) -/
  | rol (ds : List D)
  /-- a dict of the module, only read: its keys, its values -/
  | rod (ks : List Key) (ds : List D)
  | ref (i : Nat)

/-- objects -/
inductive Ob where
  /-- a list of ours -/
  | lst (ds : List D)
  /-- a dict whose keys are ints and texts -/
  | dK (kvs : List (Key × D))

/-- the heap: the newest object ahead -/
structure MH where
  n : Nat
  l : List Ob
def MH.nil : MH := ⟨0, []⟩
def MH.get (h : MH) (i : Nat) : Option Ob := match Nat.blt i h.n with
  | true => h.l[h.n - 1 - i]?
  | false => none
def MH.put (h : MH) (i : Nat) (o : Ob) : MH := ⟨h.n, h.l.set (h.n - 1 - i) o⟩
def MH.new (h : MH) (o : Ob) : MH := ⟨h.n + 1, o :: h.l⟩

/-- an exception: the class's number, what it keeps -/
structure Exn where
  c : Nat
  d : D

inductive Res (α : Type) where
  | ok (a : α) (h : MH)
  | ex (x : Exn) (h : MH)
  | bad
def Res.bind {α β : Type} (r : Res α) (f : α → MH → Res β) : Res β := match r with
  | .ok a h => f a h
  | .ex x h => .ex x h
  | .bad => .bad
abbrev Env := List (Option D)
inductive RS where
  | nx (e : Env) (h : MH)
  | rt (d : D) (h : MH)
  | bk (e : Env) (h : MH)
  | ct (e : Env) (h : MH)
  | ex (x : Exn) (e : Env) (h : MH)
  | bad
/-- an expression's result ahead of a statement's rest -/
def RS.of {α : Type} (r : Res α) (e : Env) (f : α → MH → RS) : RS := match r with
  | .ok a h => f a h
  | .ex x h => .ex x e h
  | .bad => .bad
def RS.seq (r : RS) (f : Env → MH → RS) : RS := match r with
  | .nx e h => f e h
  | .rt d h => .rt d h
  | .bk e h => .bk e h
  | .ct e h => .ct e h
  | .ex x e h => .ex x e h
  | .bad => .bad

def keyD : D → Option Key
  | .int i => some (.inl i)
  | .str s => some (.inr s)
  | _ => none
def lookK {β : Type} (kvs : List (Key × β)) (k : Key) : Option β := (kvs.find? fun kv => decide (kv.1 = k)).map (·.2)
def storeK {β : Type} (kvs : List (Key × β)) (k : Key) (v : β) : List (Key × β) :=
  if (kvs.any fun kv => decide (kv.1 = k)) = true then kvs.map (fun kv => if kv.1 = k then (kv.1, v) else kv) else kvs ++ [(k, v)]
def mergeD (kvs more : List (Key × D)) : List (Key × D) := more.foldl (fun acc kv => storeK acc kv.1 kv.2) kvs
def dkvs (h : MH) : D → Option (List (Key × D))
  | .rod ks ds => some (ks.zip ds)
  | .ref i => match h.get i with
    | some (.dK kvs) => some kvs
    | _ => none
  | _ => none

inductive Bop where
  | add | sub | mul | fdiv | mod | pow
inductive Cop where
  | eq | ne | lt | le | gt | ge | isN | notN | isin | notin
inductive Ty where
  | int | bool | str | tuple | list | dict
inductive Bi where
  | len | int | abs | max | min | tuple | list | sum | all | any | repr
inductive Me where
  | append | pop | extend | index
inductive Ex where
  | var (i : Nat)
  | non | bl (b : Bool) | int (i : Int) | str (s : Str)
  /-- a constant of the module -/
  | glo (g : Nat)
  | bin (o : Bop) (a b : Ex)
  | neg (a : Ex)
  | not (a : Ex)
  | and (es : List Ex)
  | or (es : List Ex)
  | cmp (o : Cop) (a b : Ex)
  | chain (o p : Cop) (a b c : Ex)
  | ife (t a b : Ex)
  /-- displays: which items are starred -/
  | tup (fs : List Bool) (es : List Ex)
  | lst (fs : List Bool) (es : List Ex)
  | ix (a i : Ex)
  /-- a dict's display -/
  | dct (ks vs : List Ex)
  /-- a[lo:hi] -/
  | sl (a : Ex) (lo hi : Option Ex)
  /-- a[lo:hi:st] -/
  | slr (a : Ex) (lo hi : Option Ex) (st : Ex)
  | call (f : Nat) (es : List Ex)
  | bi (b : Bi) (es : List Ex)
  | isi (t : Ty) (e : Ex)
  | me (m : Me) (o : Ex) (es : List Ex)
  /-- range, enumerate, zip, reversed: only walked -/
  | range (es : List Ex)
  | enum (e : Ex)
  | zip (a b : Ex)
  | rev (e : Ex)
  | itv (e : Ex)
  /-- [elt for target in it if ..]: the slots of its own names -/
  | lc (elt : Ex) (own : List Nat) (tg : Ex) (it : Ex) (ifs : List Ex)
inductive St where
  | expr (e : Ex)
  | asg (t : Ex) (e : Ex)
  /-- a, b (, c) = .. with names alone, stored at once -/
  | par (is : List Nat) (es : List Ex)
  | aug (i : Nat) (o : Bop) (e : Ex)
  | ifs (t : Ex) (a b : List St)
  | whl (t : Ex) (a : List St)
  | for_ (tg : Ex) (it : Ex) (a : List St)
  | ret (e : Ex)
  | retN
  | pass | brk | cont
  | raise
  /-- a text alone -/
  | doc
structure Fn where
  /-- how many parameters, how many slots -/
  np : Nat
  nl : Nat
  /-- takes and gives data alone: runs on a heap of its own -/
  pur : Bool
  body : List St
structure Prog where
  fns : List Fn
  cons : List D
structure Rec where
  e : Ex → Env → MH → Res D
  t : Ex → Env → MH → Res Bool
  s : List St → Env → MH → RS
def Rec.bot : Rec := ⟨fun _ _ _ => .bad, fun _ _ _ => .bad, fun _ _ _ => .bad⟩

def mapO {α β : Type} (f : α → Option β) : List α → Option (List β)
  | [] => some []
  | x :: xs => match f x with
    | some y => match mapO f xs with
      | some ys => some (y :: ys)
      | none => none
    | none => none
/-- the data that a value is -/
def pd : Nat → MH → D → Option PyData
  | 0, _, _ => none
  | n + 1, h, d => match d with
    | .non => some .none
    | .bl b => some (.bool b)
    | .int i => some (.int i)
    | .str s => some (.str s)
    | .tup ds => (mapO (pd n h) ds).map .tuple
    | .rol ds => (mapO (pd n h) ds).map .list
    | .ref i => match h.get i with
      | some (.lst ds) => (mapO (pd n h) ds).map .list
      | _ => none
    | .rod _ _ => none
/-- data alone: no list, no dict within -/
def noref : Nat → D → Bool
  | 0, _ => false
  | n + 1, d => match d with
    | .tup ds => ds.all (noref n)
    | .rol ds => ds.all (noref n)
    | .rod _ ds => ds.all (noref n)
    | .ref _ => false
    | _ => true
/-- flat values, as the layer has them -/
def fv : D → Option L2.V
  | .non => some .non
  | .bl b => some (.bl b)
  | .int i => some (.int i)
  | .str s => some (.str s)
  | _ => none
/-- the items of a list or tuple -/
def items (h : MH) : D → Option (List D)
  | .tup ds => some ds
  | .rol ds => some ds
  | .ref i => match h.get i with
    | some (.lst ds) => some ds
    | _ => none
  | _ => none
def truth (h : MH) : D → Option Bool
  | .non => some false
  | .bl b => some b
  | .int i => some (i != 0)
  | .str s => if s.length ≤ sizeLine then some ((s.length : Int) != 0) else none
  | .tup ds => some (!ds.isEmpty)
  | .rol ds => some (!ds.isEmpty)
  | .rod _ _ => none
  | .ref i => match h.get i with
    | some (.lst ds) => some (!ds.isEmpty)
    | some (.dK kvs) => some (!kvs.isEmpty)
    | none => none
def newL (h : MH) (ds : List D) : Res D := if ds.length ≤ sizeLine then .ok (.ref h.n) (h.new (.lst ds)) else .bad
def newT (h : MH) (ds : List D) : Res D := if ds.length ≤ sizeLine then .ok (.tup ds) h else .bad
def binD : Bop → D → D → MH → Res D
  | .add, .int i, .int j, h => .ok (.int (i + j)) h
  | .add, .str s, .str t, h => if s.length + t.length ≤ sizeLine then .ok (.str (s ++ t)) h else .bad
  | .add, .tup xs, .tup ys, h => newT h (xs ++ ys)
  | .add, .ref i, .ref j, h => match h.get i, h.get j with
    | some (.lst xs), some (.lst ys) => newL h (xs ++ ys)
    | _, _ => .bad
  | .sub, .int i, .int j, h => .ok (.int (i - j)) h
  | .mul, .int i, .int j, h => if i.natAbs.log2 + j.natAbs.log2 < 1000000 then .ok (.int (i * j)) h else .bad
  | .mul, .ref i, .int k, h => match h.get i with
    | some (.lst xs) => if -(2 ^ 63) ≤ k ∧ k < 2 ^ 63 ∧ xs.length * k.toNat ≤ sizeLine then .ok (.ref h.n) (h.new (.lst (List.replicate k.toNat xs).flatten)) else .bad
    | _ => .bad
  | .mul, .tup xs, .int k, h => if xs ≠ [] ∧ 2 ≤ k ∧ k ≤ 1000 ∧ xs.length ≤ 1000 then .ok (.tup (List.replicate k.toNat xs).flatten) h else .bad
  | .fdiv, .int i, .int j, h => if 0 < j ∧ j.natAbs.log2 < 9000 then .ok (.int (i / j)) h else .bad
  | .mod, .int i, .int j, h => if 0 < j then .ok (.int (i % j)) h else .bad
  | .pow, .int i, .int j, h => if 0 ≤ j ∧ j ≤ 1000000 ∧ i.natAbs < 2 ^ 64 then .ok (.int (i ^ j.toNat)) h else .bad
  | _, _, _, _ => .bad
/-- x op= y -/
def augD : Bop → D → D → MH → Res D
  | .add, .ref i, .ref j, h => match h.get i, h.get j with
    | some (.lst ds), some (.lst es) => if ds.length + es.length ≤ sizeLine then .ok (.ref i) (h.put i (.lst (ds ++ es))) else .bad
    | _, _ => .bad
  | .add, .tup _, _, _ => .bad
  | .mul, .int i, .int j, h => binD .mul (.int i) (.int j) h
  | .mul, _, _, _ => .bad
  | .pow, _, _, _ => .bad
  | o, a, b, h => binD o a b h
def pdEq (h : MH) (a b : D) : Option Bool := match pd 70 h a, pd 70 h b with
  | some x, some y => if SeqAt.shaped x && SeqAt.shaped y then some (PyData.eqv x y) else none
  | _, _ => none
def eqD (h : MH) : D → D → Option Bool
  | .int i, .int j => some (decide (i = j))
  | .bl i, .bl j => some (decide (i = j))
  | .str i, .str j => some (decide (i = j))
  | .non, .non => some true
  | a, b => pdEq h a b
def inD (h : MH) (a b : D) : Option Bool := match items h b with
  | none => (match dkvs h b, keyD a with
    | some kvs, some k => some (lookK kvs k).isSome
    | _, _ => none)
  | some ds => match fv a, mapO fv ds with
    | some x, some xs => some (L2.inV x xs)
    | _, _ => match b with
      | .ref _ => match pd 70 h a, mapO (pd 69 h) ds with
        | some x, some xs => if SeqAt.shaped x && SeqAt.shaped (.list xs) then some (xs.any fun z => PyData.eqv z x) else none
        | _, _ => none
      | _ => none
def isNon : D → Bool
  | .non => true
  | _ => false
def cmpD : Cop → D → D → MH → Option Bool
  | .eq, a, b, h => eqD h a b
  | .ne, a, b, h => (eqD h a b).map (!·)
  | .lt, .int i, .int j, _ => some (decide (i < j))
  | .le, .int i, .int j, _ => some (decide (i ≤ j))
  | .gt, .int i, .int j, _ => some (decide (j < i))
  | .ge, .int i, .int j, _ => some (decide (j ≤ i))
  | .isN, a, .non, _ => some (isNon a)
  | .notN, a, .non, _ => some (!isNon a)
  | .isin, a, b, h => inD h a b
  | .notin, a, b, h => (inD h a b).map (!·)
  | _, _, _, _ => none
def ixD (h : MH) : D → D → Option D
  | .str s, .int i => if s.length ≤ sizeLine then (match L2.atI s.cps.toList i with
    | some c => some (.str ⟨#[c]⟩)
    | none => none) else none
  | a, .int i => match items h a with
    | some ds => L2.atI ds i
    | none => (match dkvs h a with
      | some kvs => lookK kvs (.inl i)
      | none => none)
  | a, .str s => match dkvs h a with
    | some kvs => lookK kvs (.inr s)
    | none => none
  | _, _ => none
def cutD (xs : List D) (lo hi : Option Int) : List D := (xs.drop (HT.sIx xs.length 0 lo)).take (HT.sIx xs.length xs.length hi - HT.sIx xs.length 0 lo)
def slD (h : MH) : D → Option Int → Option Int → Res D
  | .tup ds, lo, hi => .ok (.tup (cutD ds lo hi)) h
  | .rol ds, lo, hi => .ok (.ref h.n) (h.new (.lst (cutD ds lo hi)))
  | .ref i, lo, hi => match h.get i with
    | some (.lst ds) => .ok (.ref h.n) (h.new (.lst (cutD ds lo hi)))
    | _ => .bad
  | _, _, _ => .bad
/-- the places that a[lo:hi:c] takes: of a tuple, of a list -/
def stepT (n : Nat) (lo hi : Option Int) (c : Int) : List Nat := (List.range (Builtin.Slice.slicePlaces (Builtin.Slice.sliceAdjust lo hi c n).1 (Builtin.Slice.sliceAdjust lo hi c n).2 c)).map fun (m : Nat) => ((Builtin.Slice.sliceAdjust lo hi c n).1 + (m : Int) * c).toNat
def stepL (n : Nat) (lo hi : Option Int) (c : Int) : List Nat := sliceRange (sliceBounds lo hi (some c) n).1 (sliceBounds lo hi (some c) n).2.1 (sliceBounds lo hi (some c) n).2.2
def pick {α : Type} (ds : List α) (is : List Nat) : List α := is.filterMap fun i => ds[i]?
def slrD (h : MH) (a : D) (lo hi : Option Int) (c : Int) : Res D := if c ≠ 0 ∧ c ≠ 1 then (match a with
  | .tup ds => newT h (pick ds (stepT ds.length lo hi c))
  | .rol ds => newL h (pick ds (stepL ds.length lo hi c))
  | .ref i => match h.get i with
    | some (.lst ds) => newL h (pick ds (stepL ds.length lo hi c))
    | _ => .bad
  | _ => .bad) else .bad
/-- repr's text -/
@[irreducible] def reprD (h : MH) (d : D) : Option Str := match pd 70 h d with
  | some p => if p.showable = true ∧ p.hasDict = false ∧ p.depth ≤ 100 ∧ p.shown.length ≤ sizeLine then some p.shown else none
  | none => none
def asInt : D → Option Int
  | .int i => some i
  | _ => none
def asBl : D → Option Bool
  | .bl i => some i
  | _ => none
/-- the greatest of some ints -/
def maxI : List Int → Option Int
  | [] => none
  | x :: xs => some (xs.foldl (fun a b => if b > a then b else a) x)
def biD : Bi → List D → MH → Res D
  | .len, [.tup ds], h => .ok (.int ds.length) h
  | .len, [.rol ds], h => .ok (.int ds.length) h
  | .len, [.str s], h => if s.length ≤ sizeLine then .ok (.int s.length) h else .bad
  | .len, [.ref i], h => match h.get i with
    | some (.lst ds) => .ok (.int ds.length) h
    | some (.dK kvs) => .ok (.int kvs.length) h
    | none => .bad
  | .int, [.int i], h => .ok (.int i) h
  | .int, [.bl b], h => .ok (.int (if b then 1 else 0)) h
  | .abs, [.int i], h => .ok (.int (if i < 0 then -i else i)) h
  | .max, [.int i, .int j], h => .ok (.int (if j > i then j else i)) h
  | .min, [.int i, .int j], h => .ok (.int (if j < i then j else i)) h
  | .tuple, [.tup ds], h => .ok (.tup ds) h
  | .tuple, [.rol ds], h => .ok (.tup ds) h
  | .tuple, [.ref i], h => match h.get i with
    | some (.lst ds) => .ok (.tup ds) h
    | _ => .bad
  | .list, [.tup ds], h => .ok (.ref h.n) (h.new (.lst ds))
  | .list, [.rol ds], h => .ok (.ref h.n) (h.new (.lst ds))
  | .list, [.ref i], h => match h.get i with
    | some (.lst ds) => .ok (.ref h.n) (h.new (.lst ds))
    | _ => .bad
  | .sum, [.ref i], h => match items h (.ref i) with
    | some ds => (match mapO asInt ds with
      | some ns => .ok (.int ns.sum) h
      | none => .bad)
    | none => .bad
  | .max, [.ref i], h => match items h (.ref i) with
    | some ds => (match mapO asInt ds with
      | some ns => (match maxI ns with
        | some m => .ok (.int m) h
        | none => .bad)
      | none => .bad)
    | none => .bad
  | .all, [.ref i], h => match items h (.ref i) with
    | some ds => (match mapO asBl ds with
      | some bs => .ok (.bl (bs.all id)) h
      | none => .bad)
    | none => .bad
  | .any, [.ref i], h => match items h (.ref i) with
    | some ds => (match mapO asBl ds with
      | some bs => .ok (.bl (bs.any id)) h
      | none => .bad)
    | none => .bad
  | .repr, [d], h => match reprD h d with
    | some s => .ok (.str s) h
    | none => .bad
  | _, _, _ => .bad
def isiD : Ty → D → MH → Option Bool
  | _, .rod _ _, _ => none
  | .int, .int _, _ => some true
  | .int, .bl _, _ => some true
  | .bool, .bl _, _ => some true
  | .str, .str _, _ => some true
  | .tuple, .tup _, _ => some true
  | .list, .rol _, _ => some true
  | .list, .ref i, h => match h.get i with
    | some (.lst _) => some true
    | some (.dK _) => some false
    | none => none
  | .dict, .ref i, h => match h.get i with
    | some (.lst _) => some false
    | some (.dK _) => some true
    | none => none
  | _, .ref i, h => match h.get i with
    | some _ => some false
    | none => none
  | _, _, _ => some false
def meD : Me → D → List D → MH → Res D
  | .append, .ref i, [d], h => match h.get i with
    | some (.lst ds) => if ds.length < sizeLine then .ok .non (h.put i (.lst (ds ++ [d]))) else .bad
    | _ => .bad
  | .pop, .ref i, [], h => match h.get i with
    | some (.lst ds) => (match ds[ds.length - 1]? with
      | some d => .ok d (h.put i (.lst ds.dropLast))
      | none => .bad)
    | _ => .bad
  | .extend, .ref i, [.ref j], h => match h.get i, h.get j with
    | some (.lst ds), some (.lst es) => if ds.length + es.length ≤ sizeLine then .ok .non (h.put i (.lst (ds ++ es))) else .bad
    | _, _ => .bad
  | _, _, _, _ => .bad
def isLst (h : MH) : D → Bool
  | .ref i => match h.get i with
    | some (.lst _) => true
    | _ => false
  | _ => false
/-- o[i] = v -/
def setD : D → D → D → MH → Option MH
  | .ref a, .int k, v, h => match h.get a with
    | some (.lst ds) => (match L2.ixN ds.length k with
      | some j => some (h.put a (.lst (ds.set j v)))
      | none => none)
    | some (.dK kvs) => if kvs.length < sizeLine then some (h.put a (.dK (storeK kvs (.inl k) v))) else none
    | none => none
  | .ref a, .str k, v, h => match h.get a with
    | some (.dK kvs) => if kvs.length < sizeLine then some (h.put a (.dK (storeK kvs (.inr k) v))) else none
    | _ => none
  | _, _, _, _ => none

inductive Wk where
  | tup (ds : List D) | rol (ds : List D) | lst (i : Nat) | rng (lo c : Int) (n : Nat)
  | enumL (i : Nat) | zipL (i j : Nat) | zipT (ds es : List D)
  | revL (i n : Nat) | revT (ds : List D) | revR (ds : List D)
/-- none: stuck; some none: the end -/
def Wk.at (h : MH) (k : Nat) : Wk → Option (Option D)
  | .tup ds => some ds[k]?
  | .rol ds => some ds[k]?
  | .lst i => (items h (.ref i)).map fun ds => ds[k]?
  | .rng lo c n => some (if k < n then some (.int (lo + k * c)) else none)
  | .enumL i => (items h (.ref i)).map fun ds => ds[k]?.map fun d => .tup [.int k, d]
  | .zipL i j => match items h (.ref i), items h (.ref j) with
    | some ds, some es => some (match ds[k]?, es[k]? with
      | some d, some e => some (.tup [d, e])
      | _, _ => none)
    | _, _ => none
  | .zipT ds es => some (match ds[k]?, es[k]? with
      | some d, some e => some (.tup [d, e])
      | _, _ => none)
  | .revL i n => match Nat.blt k n with
    | false => some none
    | true => match items h (.ref i) with
      | some ds => match ds[n - 1 - k]? with
        | some d => some (some d)
        | none => none
      | none => none
  | .revT ds => some (if k < ds.length then ds[ds.length - 1 - k]? else none)
  | .revR ds => some (if k < ds.length then ds[ds.length - 1 - k]? else none)
/-- no more turns than these, if nothing grows -/
def Wk.most (h : MH) : Wk → Nat
  | .tup ds => ds.length
  | .rol ds => ds.length
  | .lst i => ((items h (.ref i)).map List.length).getD 0
  | .rng _ _ n => n
  | .enumL i => ((items h (.ref i)).map List.length).getD 0
  | .zipL i _ => ((items h (.ref i)).map List.length).getD 0
  | .zipT ds _ => ds.length
  | .revL _ n => n
  | .revT ds => ds.length
  | .revR ds => ds.length

section
variable (P : Prog) (r : Rec)
def evL : List Ex → Env → MH → Res (List D)
  | [], _, h => .ok [] h
  | e :: es, env, h => (r.e e env h).bind fun d h => (evL es env h).bind fun xs h => .ok (d :: xs) h
/-- .. some of them starred -/
def evS : List Bool → List Ex → Env → MH → Res (List D)
  | [], [], _, h => .ok [] h
  | true :: fs, e :: es, env, h => (r.e e env h).bind fun d h => match items h d with
    | some ds => (evS fs es env h).bind fun xs h => .ok (ds ++ xs) h
    | none => .bad
  | false :: fs, e :: es, env, h => (r.e e env h).bind fun d h => (evS fs es env h).bind fun xs h => .ok (d :: xs) h
  | _, _, _, _ => .bad
/-- a dict's pairs, from the left -/
def evP : List Ex → List Ex → Env → MH → Res (List (D × D))
  | [], [], _, h => .ok [] h
  | k :: ks, v :: vs, env, h => (r.e k env h).bind fun x h => (r.e v env h).bind fun y h => (evP ks vs env h).bind fun ps h => .ok ((x, y) :: ps) h
  | _, _, _, _ => .bad
def evO : Option Ex → Env → MH → Res (Option Int)
  | none, _, h => .ok none h
  | some e, env, h => (r.e e env h).bind fun d h => match d with
    | .int i => .ok (some i) h
    | _ => .bad
def evT (t : Ex → Env → MH → Res Bool) (e : Ex) (env : Env) (h : MH) : Res Bool := match e with
  | .and es => go true es h
  | .or es => go false es h
  | .not e => (t e env h).bind fun b h => .ok (!b) h
  | .ife .. => .bad
  | .cmp o a b => (r.e a env h).bind fun x h => (r.e b env h).bind fun y h => match cmpD o x y h with
    | some b => .ok b h
    | none => .bad
  | .chain o p a b c => (r.e a env h).bind fun x h => (r.e b env h).bind fun y h => match cmpD o x y h with
    | some true => (r.e c env h).bind fun z h => (match cmpD p y z h with
      | some b => .ok b h
      | none => .bad)
    | some false => .ok false h
    | none => .bad
  | e => (r.e e env h).bind fun d h => match truth h d with
    | some b => .ok b h
    | none => .bad
where
  go (k : Bool) : List Ex → MH → Res Bool
    | [], _ => .bad
    | [e], h => t e env h
    | e :: es, h => (t e env h).bind fun b h => if b = k then go k es h else .ok b h
def andV (k : Bool) (env : Env) : List Ex → MH → Res D
  | [], _ => .bad
  | [e], h => r.e e env h
  | e :: es, h => (r.e e env h).bind fun d h => match truth h d with
    | some b => if b = k then andV k env es h else .ok d h
    | none => .bad
def wkD (e : Ex) (env : Env) (h : MH) : Res Wk := match e with
  | .range [a] => (r.e a env h).bind fun d h => match d with
    | .int j => if -(2 ^ 62) ≤ j ∧ j < 2 ^ 62 then .ok (.rng 0 1 j.toNat) h else .bad
    | _ => .bad
  | .range [a, b] => (evL r [a, b] env h).bind fun ds h => match ds with
    | [.int i, .int j] => if -(2 ^ 62) ≤ i ∧ i < 2 ^ 62 ∧ -(2 ^ 62) ≤ j ∧ j < 2 ^ 62 then .ok (.rng i 1 (j - i).toNat) h else .bad
    | _ => .bad
  | .range [a, b, c] => (evL r [a, b, c] env h).bind fun ds h => match ds with
    | [.int i, .int j, .int c] => if c ≠ 0 ∧ c.natAbs < 1073741824 ∧ Builtin.Range.small i j c = true then .ok (.rng i c (Builtin.Range.rangeSize i j c).toNat) h else .bad
    | _ => .bad
  | .enum a => (r.e a env h).bind fun d h => match d with
    | .ref i => match items h (.ref i) with
      | some ds => .ok (.enumL i) h
      | none => .bad
    | _ => .bad
  | .zip a b => (evL r [a, b] env h).bind fun ds h => match ds with
    | [.ref i, .ref j] => match items h (.ref i), items h (.ref j) with
      | some _, some _ => .ok (.zipL i j) h
      | _, _ => .bad
    | [.tup ds, .tup es] => .ok (.zipT ds es) h
    | _ => .bad
  | .rev a => (r.e a env h).bind fun d h => match d with
    | .tup ds => .ok (.revT ds) h
    | .rol ds => .ok (.revR ds) h
    | .ref i => match items h (.ref i) with
      | some ds => .ok (.revL i ds.length) h
      | none => .bad
    | _ => .bad
  | .itv e => (r.e e env h).bind fun d h => match d with
    | .tup ds => .ok (.tup ds) h
    | .rol ds => .ok (.rol ds) h
    | .ref i => match items h (.ref i) with
      | some ds => .ok (.lst i) h
      | none => .bad
    | _ => .bad
  | _ => .bad
/-- a target's store -/
def asgD : Ex → D → Env → MH → RS
  | .var i, d, env, h => .nx (env.set i (some d)) h
  | .tup _ ts, d, env, h => match d with
    | .tup ds => go ts ds env h
    | _ => .bad
  | .ix a i, d, env, h => .of (r.e a env h) env fun x h => .of (r.e i env h) env fun k h => match setD x k d h with
    | some h => .nx env h
    | none => .bad
  | _, _, _, _ => .bad
where
  go : List Ex → List D → Env → MH → RS
    | [], [], env, h => .nx env h
    | .var i :: ts, d :: ds, env, h => go ts ds (env.set i (some d)) h
    | _, _, _, _ => .bad
def wipeD (env : Env) : List Nat → Env
  | [] => env
  | v :: vs => (wipeD env vs).set v none
def lcT (ifs : List Ex) (env : Env) (h : MH) : Res Bool := match ifs with
  | [] => .ok true h
  | [t] => r.t t env h
  | _ => .bad
/-- the turns of a comprehension: the new list at a -/
def lcD (elt tg : Ex) (ifs : List Ex) (a : Nat) (w : Wk) (env : Env) : Nat → Nat → MH → Res D
  | 0, k, h => match w.at h k with
    | some none => .ok (.ref a) h
    | _ => .bad
  | c + 1, k, h => match w.at h k with
    | some none => .ok (.ref a) h
    | some (some d) => match asgD r tg d env h with
      | .nx env2 h => (lcT r ifs env2 h).bind fun b h => if b then (r.e elt env2 h).bind fun x h => (match h.get a with
          | some (.lst ds) => if ds.length < sizeLine then lcD elt tg ifs a w env c (k + 1) (h.put a (.lst (ds ++ [x]))) else .bad
          | _ => .bad) else lcD elt tg ifs a w env c (k + 1) h
      | _ => .bad
    | none => .bad
/-- the turns of a for -/
def forD (tg : Ex) (body : List St) (w : Wk) : Nat → Nat → Env → MH → RS
  | 0, k, env, h => match w.at h k with
    | some none => .nx env h
    | _ => .bad
  | c + 1, k, env, h => match w.at h k with
    | some none => .nx env h
    | some (some d) => match asgD r tg d env h with
      | .nx env h => (match r.s body env h with
        | .nx env h => forD tg body w c (k + 1) env h
        | .ct env h => forD tg body w c (k + 1) env h
        | .bk env h => .nx env h
        | x => x)
      | _ => .bad
    | none => .bad
def keyP (p : D × D) : Option (Key × D) := (keyD p.1).map fun k => (k, p.2)
/-- the pairs are put in the new dict -/
def dctD (a : Nat) (ps : List (D × D)) (h : MH) : Res D := match h.get a, mapO keyP ps with
  | some (.dK []), some kvs => if ps.length ≤ 15 then .ok (.ref a) (h.put a (.dK (mergeD [] kvs))) else .bad
  | _, _ => .bad
def noEx {α : Type} : Res α → Res α
  | .ok a h => .ok a h
  | _ => .bad
def stepE (f : Nat → List D → MH → Res D) (e : Ex) (env : Env) (h : MH) : Res D := match e with
  | .var i => match env[i]? with
    | some (some d) => .ok d h
    | _ => .bad
  | .non => .ok .non h
  | .bl b => .ok (.bl b) h
  | .int i => .ok (.int i) h
  | .str s => .ok (.str s) h
  | .glo g => match P.cons[g]? with
    | some d => .ok d h
    | none => .bad
  | .bin o a b => (r.e a env h).bind fun x h => (r.e b env h).bind fun y h => binD o x y h
  | .neg a => (r.e a env h).bind fun x h => match x with
    | .int i => .ok (.int (-i)) h
    | _ => .bad
  | .not a => (r.e a env h).bind fun x h => match truth h x with
    | some b => .ok (.bl (!b)) h
    | none => .bad
  | .and es => andV r true env es h
  | .or es => andV r false env es h
  | .cmp o a b => (r.e a env h).bind fun x h => (r.e b env h).bind fun y h => match cmpD o x y h with
    | some b => .ok (.bl b) h
    | none => .bad
  | .chain o p a b c => (r.e a env h).bind fun x h => (r.e b env h).bind fun y h => match cmpD o x y h with
    | some true => (r.e c env h).bind fun z h => (match cmpD p y z h with
      | some b => .ok (.bl b) h
      | none => .bad)
    | some false => .ok (.bl false) h
    | none => .bad
  | .ife t a b => (r.t t env h).bind fun c h => if c then r.e a env h else r.e b env h
  | .tup fs es => (evS r fs es env h).bind fun ds h => newT h ds
  | .lst fs es => (evS r fs es env h).bind fun ds h => newL h ds
  | .ix a i => (r.e a env h).bind fun x h => (r.e i env h).bind fun y h => match ixD h x y with
    | some d => .ok d h
    | none => .bad
  | .dct ks vs => match ks, vs with
    | [], [] => .ok (.ref h.n) (h.new (.dK []))
    | _, _ => (evP r ks vs env (h.new (.dK []))).bind fun ps h1 => dctD h.n ps h1
  | .sl a lo hi => (r.e a env h).bind fun x h => (evO r lo env h).bind fun l h => (evO r hi env h).bind fun u h => slD h x l u
  | .slr a lo hi st => (r.e a env h).bind fun x h => (evO r lo env h).bind fun l h => (evO r hi env h).bind fun u h => (r.e st env h).bind fun c h => match c with
    | .int c => slrD h x l u c
    | _ => .bad
  | .call g es => (evL r es env h).bind fun ds h => f g ds h
  | .bi b es => (evL r es env h).bind fun ds h => biD b ds h
  | .isi t a => (r.e a env h).bind fun x h => match isiD t x h with
    | some b => .ok (.bl b) h
    | none => .bad
  | .me m o es => (r.e o env h).bind fun x h => if isLst h x then (evL r es env h).bind fun ds h => meD m x ds h else .bad
  | .lc elt own tg it ifs => (wkD r it env h).bind fun w h => noEx (lcD r elt tg ifs h.n w (wipeD env own) (w.most h) 0 (h.new (.lst [])))
  | _ => .bad
def stepS1 (s : St) (env : Env) (h : MH) : RS := match s with
  | .expr e => .of (r.e e env h) env fun _ h => .nx env h
  | .asg t e => .of (r.e e env h) env fun d h => asgD r t d env h
  | .par is es => .of (evL r es env h) env fun ds h => if ds.length = is.length then .nx ((is.zip ds).foldl (fun env p => env.set p.1 (some p.2)) env) h else .bad
  | .aug i o e => match env[i]? with
    | some (some x) => .of (r.e e env h) env fun y h => .of (augD o x y h) env fun z h => .nx (env.set i (some z)) h
    | _ => .bad
  | .ifs t a b => .of (r.t t env h) env fun c h => if c then r.s a env h else r.s b env h
  | .whl t a => .of (r.t t env h) env fun c h => if c then (match r.s a env h with
    | .nx env h => r.s [.whl t a] env h
    | .ct env h => r.s [.whl t a] env h
    | .bk env h => .nx env h
    | x => x) else .nx env h
  | .for_ tg it a => .of (wkD r it env h) env fun w h => forD r tg a w (w.most h) 0 env h
  | .ret e => .of (r.e e env h) env fun d h => .rt d h
  | .retN => .rt .non h
  | .pass => .nx env h
  | .brk => .bk env h
  | .cont => .ct env h
  | .raise => .bad
  | .doc => .nx env h
def stepS : List St → Env → MH → RS
  | [], env, h => .nx env h
  | s :: ss, env, h => (stepS1 r s env h).seq fun env h => stepS ss env h
end
def step (P : Prog) (f : Nat → List D → MH → Res D) (r : Rec) : Rec := ⟨stepE P r f, evT r r.t, stepS r⟩
def inner (P : Prog) (f : Nat → List D → MH → Res D) : Nat → Rec
  | 0 => Rec.bot
  | n + 1 => step P f (inner P f n)
def startD (fn : Fn) (ds : List D) : Env := ds.map some ++ List.replicate (fn.nl - ds.length) none
def runD (r : Rec) (fn : Fn) (ds : List D) (h : MH) : Res D := match r.s fn.body (startD fn ds) h with
  | .rt d h => .ok d h
  | .nx _ h => .ok .non h
  | .ex x _ h => .ex x h
  | _ => .bad
def callD (P : Prog) (r : Rec) (i : Nat) (ds : List D) (h : MH) : Res D := match P.fns[i]? with
  | none => .bad
  | some fn => if ds.length = fn.np then (if fn.pur then (if ds.all (noref 70) then (match runD r fn ds MH.nil with
      | .ok d _ => if noref 70 d then .ok d h else .bad
      | .ex x _ => if noref 70 x.d then .ex x h else .bad
      | .bad => .bad) else .bad) else runD r fn ds h) else .bad
/-- the call of the i-th def, at most k calls deep -/
def evk (P : Prog) (N : Nat) : Nat → Nat → List D → MH → Res D
  | 0 => fun _ _ _ => .bad
  | k + 1 => callD P (inner P (evk P N k) N)
end MP
namespace MP
open PySem

structure GT where
  fns : List (Str × Nat)
  cons : List (Str × Nat)
  /-- names that the module does not have: built-ins -/
  free : List Str
structure Ctx where
  N : List Str
  sc : Scope
  fn : Str → Bool
def ixOf (N : List Str) (x : Str) : Option Nat := N.findIdx? fun y => decide (y = x)
theorem ixOf_ok {N : List Str} {x : Str} {i : Nat} (h : ixOf N x = some i) : N[i]? = some x := by
  unfold ixOf at h
  obtain ⟨h1, h2, _⟩ := List.findIdx?_eq_some_iff_getElem.mp h
  rw [List.getElem?_eq_getElem h1, of_decide_eq_true h2]
def isLoc : Option NameKind → Bool
  | some .local => true
  | _ => false
/-- a name that is read -/
def nmC (c : Ctx) (x : Str) : Option Nat := match c.sc.names.lookup x with
  | some .local => if x == ("__debug__" : Str) || x == ("__classdict__" : Str) then none else ixOf c.N x
  | some .cell => if x == ("__debug__" : Str) || x == ("__classdict__" : Str) then none else ixOf c.N x
  | some .free => if x == ("__debug__" : Str) || x == ("__classdict__" : Str) then none else ixOf c.N x
  | _ => none
/-- a name that is stored -/
def tgC (c : Ctx) (x : Str) : Option Nat := match c.sc.names.lookup x with
  | some .local => ixOf c.N x
  | some .cell => if c.fn x then ixOf c.N x else none
  | _ => none
/-- a global name of the def -/
def isGl (c : Ctx) (x : Str) : Bool := match c.sc.names.lookup x with
  | some .globalImplicit => !(x == ("__debug__" : Str))
  | _ => false
def isFree (g : GT) (c : Ctx) (x : Str) : Bool := isGl c x && (g.free.contains x && !(x == ("__name__" : Str)))
def bopC : Operator → Option Bop
  | .Add => some .add
  | .Sub => some .sub
  | .Mult => some .mul
  | .FloorDiv => some .fdiv
  | .Mod => some .mod
  | .Pow => some .pow
  | _ => none
def augC : Operator → Option Bop
  | .Add => some .add
  | .Sub => some .sub
  | .Mult => some .mul
  | .FloorDiv => some .fdiv
  | .Mod => some .mod
  | _ => none
def copC : CmpOp → Option Cop
  | .Eq => some .eq
  | .NotEq => some .ne
  | .Lt => some .lt
  | .LtE => some .le
  | .Gt => some .gt
  | .GtE => some .ge
  | .Is => some .isN
  | .IsNot => some .notN
  | .In => some .isin
  | .NotIn => some .notin
def notStar : Expr → Bool
  | .Starred .. => false
  | _ => true
def notSet : Expr → Bool
  | .Set .. => false
  | _ => true
def notLc : Expr → Bool
  | .ListComp .. => false
  | .SetComp .. => false
  | .DictComp .. => false
  | _ => true
def notSlice : Expr → Bool
  | .Slice .. => false
  | _ => true
def biC (x : Str) : Option Bi :=
  if x == ("len" : Str) then some .len else if x == ("int" : Str) then some .int else if x == ("abs" : Str) then some .abs else if x == ("max" : Str) then some .max else if x == ("min" : Str) then some .min
  else if x == ("tuple" : Str) then some .tuple else if x == ("list" : Str) then some .list else if x == ("sum" : Str) then some .sum else if x == ("all" : Str) then some .all else if x == ("any" : Str) then some .any else if x == ("repr" : Str) then some .repr else none
def tyC (x : Str) : Option Ty :=
  if x == ("int" : Str) then some .int else if x == ("bool" : Str) then some .bool else if x == ("str" : Str) then some .str else if x == ("tuple" : Str) then some .tuple
  else if x == ("list" : Str) then some .list else if x == ("dict" : Str) then some .dict else none
def meC (x : Str) : Option Me :=
  if x == ("append" : Str) then some .append else if x == ("pop" : Str) then some .pop else if x == ("extend" : Str) then some .extend else none
/-- a comprehension's block -/
def blkX (c : Ctx) (scope : Scope) : Ctx := ⟨c.N, L2.relS scope c.sc, fun x => scope.names.lookup x == some .cell⟩
def ownC (c : Ctx) (scope : Scope) : List (Str × Nat) := scope.names.filterMap fun (x, k) => match k with
  | .local => (ixOf c.N x).map fun i => (x, i)
  | .cell => (ixOf c.N x).map fun i => (x, i)
  | _ => none
def swC (c : Ctx) (targets : List Expr) (value : Expr) : Option (List Str) := match targets, value with
  | [.Tuple ts _ _], .Tuple vs _ _ =>
    if !(ts.length == 2 || ts.length == 3) || vs.length != ts.length then none else
    if vs.any (fun e => !notStar e) then none else
    let line := (ts.head?.map (·.pos.line)).getD 0
    let names := ts.filterMap fun
      | .Name id pos => if c.sc.names.lookup id == some .local && pos.line == line then some id else none
      | _ => none
    if names.length != ts.length || names.eraseDups.length != names.length then none else
    if vs.all (foldedForSure 8) then none else some names
  | _, _ => none
/-- the pair of constants alone, of which the model says nothing -/
def swBad (targets : List Expr) (value : Expr) : Bool := match value with
  | .Tuple vs _ _ => vs.all (constantsAlone 8)
  | _ => false

/-- .. folded for sure: it is stored as any tuple -/
def swFold (value : Expr) : Bool := match value with
  | .Tuple vs _ _ => vs.all (foldedForSure 8)
  | _ => false

section
variable (g : GT)
/-- an item of a display -/
def unS (e : Expr) : Expr := match e with
  | .Starred e _ => e
  | e => e
def isS (e : Expr) : Bool := match e with
  | .Starred .. => true
  | _ => false
/-- whose methods are called -/
def plainO (e : Expr) : Bool := match e with
  | .Name .. => true
  | .Subscript .. => true
  | _ => false
def notTup (e : Expr) : Bool := match e with
  | .Tuple .. => false
  | _ => true
def tgIn (own : List Nat) (t : Ex) : Bool := match t with
  | .var i => own.contains i
  | .tup _ ts => ts.all fun x => match x with
    | .var i => own.contains i
    | _ => false
  | _ => false
def cO (ce : Expr → Option Ex) (e : Option Expr) : Option (Option Ex) := match e with
  | none => some none
  | some e => (ce e).map some
def cTg (c : Ctx) (e : Expr) : Option Ex := match e with
  | .Name x _ => (tgC c x).map .var
  | .Tuple ts _ _ => (mapO (fun e => match e with
    | .Name x _ => (tgC c x).map Ex.var
    | _ => none) ts).map (.tup [])
  | _ => none
/-- what a for walks -/
def cW (ce : Expr → Option Ex) (c : Ctx) (tg : Expr) (e : Expr) : Option Ex := match e with
  | .Call (.Name x p) es [] q => match g.fns.lookup x, isFree g c x && es.all notStar with
    | none, true => if x == ("range" : Str) then (match es with
      | [a] => (ce a).map fun a => .range [a]
      | [a, b] => (mapO ce [a, b]).map .range
      | [a, b, d] => (mapO ce [a, b, d]).map .range
      | _ => none) else if x == ("enumerate" : Str) then (match tg, es with
      | .Tuple .., [a] => (ce a).map .enum
      | _, _ => none) else if x == ("zip" : Str) then (match tg, es with
      | .Tuple .., [a, b] => match ce a, ce b with
        | some x, some y => some (.zip x y)
        | _, _ => none
      | _, _ => none) else if x == ("reversed" : Str) then (match es with
      | [a] => (ce a).map .rev
      | _ => none) else (ce (.Call (.Name x p) es [] q)).map .itv
    | _, _ => (ce (.Call (.Name x p) es [] q)).map .itv
  | e => (ce e).map .itv
def cE : Nat → Ctx → Expr → Option Ex
  | 0, _, _ => none
  | f + 1, c, e => match e with
    | .Constant (.int i) _ _ => some (.int i)
    | .Constant (.str s) _ _ => some (.str s)
    | .Constant (.bool b) _ _ => some (.bl b)
    | .Constant .none _ _ => some .non
    | .Name x _ => match nmC c x with
      | some i => some (.var i)
      | none => match isGl c x, g.cons.lookup x with
        | true, some k => some (.glo k)
        | _, _ => none
    | .BinOp a op b _ => match bopC op, cE f c a, cE f c b with
      | some o, some x, some y => some (.bin o x y)
      | _, _, _ => none
    | .UnaryOp .USub a _ => (cE f c a).map .neg
    | .UnaryOp .Not a _ => (cE f c a).map .not
    | .BoolOp .And (a :: b :: es) _ => (mapO (cE f c) (a :: b :: es)).map .and
    | .BoolOp .Or (a :: b :: es) _ => (mapO (cE f c) (a :: b :: es)).map .or
    | .Compare a [op] [b] _ => match notSet b, copC op, cE f c a, cE f c b with
      | true, some o, some x, some y => some (.cmp o x y)
      | _, _, _, _ => none
    | .Compare a [op, op'] [b, d] _ => match notSet b && notSet d, copC op, copC op', cE f c a, cE f c b, cE f c d with
      | true, some o, some p, some x, some y, some z => some (.chain o p x y z)
      | _, _, _, _, _, _ => none
    | .IfExp t a b _ => match cE f c t, cE f c a, cE f c b with
      | some x, some y, some z => some (.ife x y z)
      | _, _, _ => none
    | .Tuple es _ _ => (mapO (fun e => cE f c (unS e)) es).map (.tup (es.map isS))
    | .List es _ => (mapO (fun e => cE f c (unS e)) es).map (.lst (es.map isS))
    | .Dict keys values _ => match keys.all (·.isSome) && (keys.length == values.length && Nat.ble keys.length 15), mapO (fun k => match k with
        | some k => cE f c k
        | none => none) keys, mapO (cE f c) values with
      | true, some ks, some vs => some (.dct ks vs)
      | _, _, _ => none
    | .Subscript a (.Slice lo hi none _) _ => match cE f c a, cO (cE f c) lo, cO (cE f c) hi with
      | some x, some l, some u => some (.sl x l u)
      | _, _, _ => none
    | .Subscript a (.Slice lo hi (some st) _) _ => match cE f c a, cO (cE f c) lo, cO (cE f c) hi, cE f c st with
      | some x, some l, some u, some z => some (.slr x l u z)
      | _, _, _, _ => none
    | .Subscript a i _ => match notSlice i, cE f c a, cE f c i with
      | true, some x, some y => some (.ix x y)
      | _, _, _ => none
    | .Call (.Name x _) es [] _ => match isGl c x with
      | false => none
      | true => match g.fns.lookup x with
        | some i => match es.all notStar, mapO (cE f c) es with
          | true, some xs => some (.call i xs)
          | _, _ => none
        | none => match isFree g c x with
          | false => none
          | true => if x == ("isinstance" : Str) then (match es with
            | [a, .Name t _] => match notStar a && isFree g c t, tyC t, cE f c a with
              | true, some ty, some y => some (.isi ty y)
              | _, _, _ => none
            | _ => none) else match biC x, es.all notStar, mapO (cE f c) es with
              | some b, true, some (y :: ys) => some (.bi b (y :: ys))
              | _, _, _ => none
    | .Call (.Attribute o m ap) es [] cp => match meC m, es.all notStar && (plainO o && (ap.endLine == cp.line && Nat.blt es.length 29)), cE f c o, mapO (cE f c) es with
      | some k, true, some x, some xs => some (.me k x xs)
      | _, _, _, _ => none
    | .ListComp elt [⟨tg, it, ifs, 0⟩] scope _ => match L2.blkC c.N c.sc scope (ownC c scope) && notSet it, cE f (blkX c scope) elt, cTg (blkX c scope) tg, cW g (cE f c) c tg it, mapO (cE f (blkX c scope)) ifs with
      | true, some x, some t, some w, some ts => if !tgIn ((ownC c scope).map (·.2)) t then none else some (.lc x ((ownC c scope).map (·.2)) t w ts)
      | _, _, _, _, _ => none
    | _ => none
def cSt : Nat → Ctx → Stmt → Option St
  | 0, _, _ => none
  | f + 1, c, s => match s with
    | .Expr (.Constant (.str _) _ _) _ => some .doc
    | .Expr e _ => match notLc e, cE g f c e with
      | true, some x => some (.expr x)
      | _, _ => none
    | .Assign [.Name x _] e _ => match tgC c x, cE g f c e with
      | some i, some y => some (.asg (.var i) y)
      | _, _ => none
    | .Assign [.Tuple ts k p] e _ => match swBad [.Tuple ts k p] e, swC c [.Tuple ts k p] e with
      | true, some _ => none
      | true, none => (match swFold e, cTg c (.Tuple ts k p), notLc e, cE g f c e with
        | true, some t, true, some y => some (.asg t y)
        | _, _, _, _ => none)
      | false, some names => match mapO (fun x => if isLoc (c.sc.names.lookup x) then ixOf c.N x else none) names, e with
        | some is, .Tuple vs _ _ => (match mapO (cE g f c) vs with
          | some xs => some (.par is xs)
          | none => none)
        | _, _ => none
      | false, none => match cTg c (.Tuple ts k p), notLc e, cE g f c e with
        | some t, true, some y => some (.asg t y)
        | _, _, _ => none
    | .Assign [.Subscript o i _] e _ => match notSlice i && notLc e, cE g f c o, cE g f c i, cE g f c e with
      | true, some x, some y, some z => some (.asg (.ix x y) z)
      | _, _, _, _ => none
    | .AugAssign (.Name x _) op e _ => match tgC c x, augC op, cE g f c e with
      | some i, some o, some y => some (.aug i o y)
      | _, _, _ => none
    | .If t a b _ => match cE g f c t, mapO (cSt f c) a, mapO (cSt f c) b with
      | some x, some y, some z => some (.ifs x y z)
      | _, _, _ => none
    | .While t a [] _ => match cE g f c t, mapO (cSt f c) a with
      | some x, some y => some (.whl x y)
      | _, _ => none
    | .For tg it a [] _ => match notSet it, cTg c tg, cW g (cE g f c) c tg it, mapO (cSt f c) a with
      | true, some t, some w, some y => some (.for_ t w y)
      | _, _, _, _ => none
    | .Return (some e) _ => (cE g f c e).map .ret
    | .Return none _ => some .retN
    | .Pass _ => some .pass
    | .Break _ => some .brk
    | .Continue _ => some .cont
    | .Raise .. => some .raise
    | _ => none
end
end MP
namespace MP
open PySem PySem.Spec PyProof.Rows L2

/-- a list that is only read: known to the object, or the module's -/
def SqR (K : PySem.W.Frag) (H : Hp) (a : Addr) (xs : List V) : Prop :=
  (∃ o, H a = some (.frz o (.lst xs))) ∨
    ∃ (o : Obj) (its : Array Value) (n : Nat), K.lookup a = some o ∧ o.cls = .type "list" ∧ o.dict = none ∧ o.data = .seq its n ∧ its.size ≤ sizeLine ∧ Vals xs its.toList
theorem SqR.l {K : PySem.W.Frag} {H : Hp} {a : Addr} {xs : List V} (h : SqR K H a xs) : SqL K H a xs := by
  rcases h with h | h
  · exact .inl (.inr h)
  · exact .inr h

/-- a dict of the module -/
def RoD (K : PySem.W.Frag) (a : Addr) (kvs : List (Key × V)) : Prop :=
  ∃ (o : Obj) (vs : List (Key × Value)), K.lookup a = some o ∧ (a == sysModules) = false ∧ kvs.length ≤ sizeLine ∧ KV kvs vs ∧ ∀ (P : Program) (w : World), o.IsDictOf (mixKind P w) vs

mutual
inductive RepV (K : PySem.W.Frag) (H : Hp) (m : Nat → Addr) (n : Nat) : D → V → Prop
  | non : RepV K H m n .non .non
  | bl (b : Bool) : RepV K H m n (.bl b) (.bl b)
  | int (i : Int) : RepV K H m n (.int i) (.int i)
  | str (s : Str) : RepV K H m n (.str s) (.str s)
  | tup {a : Addr} {vs : List V} {ds : List D} : SqT K H a vs → RepL K H m n ds vs → RepV K H m n (.tup ds) (.ref a)
  | rol {a : Addr} {vs : List V} {ds : List D} : SqR K H a vs → RepL K H m n ds vs → RepV K H m n (.rol ds) (.ref a)
  | rod {a : Addr} {ks : List Key} {kvs : List (Key × V)} {vs : List V} {ds : List D} : RoD K a kvs → kvs.map (·.1) = ks → kvs.map (·.2) = vs → RepL K H m n ds vs → RepV K H m n (.rod ks ds) (.ref a)
  | ref {i : Nat} : i < n → RepV K H m n (.ref i) (.ref (m i))
inductive RepL (K : PySem.W.Frag) (H : Hp) (m : Nat → Addr) (n : Nat) : List D → List V → Prop
  | nil : RepL K H m n [] []
  | cons {d : D} {ds : List D} {v : V} {vs : List V} : RepV K H m n d v → RepL K H m n ds vs → RepL K H m n (d :: ds) (v :: vs)
end

/-- what a run leaves as it was -/
structure Ext (K : PySem.W.Frag) (m : Nat → Addr) (n : Nat) (H : Hp) (m' : Nat → Addr) (n' : Nat) (H' : Hp) : Prop where
  le : n ≤ n'
  eq : ∀ i, i < n → m' i = m i
  tup : ∀ a vs, SqT K H a vs → SqT K H' a vs
  ro : ∀ a vs, SqR K H a vs → SqR K H' a vs
  frame : ∀ a o, H a = some o → (∀ i, i < n → m i ≠ a) → H' a = some o
  there : ∀ a, H' a = none → H a = none
  fresh : ∀ i, n ≤ i → i < n' → H (m' i) = none

section
variable {K : PySem.W.Frag} {H H' H'' : Hp} {m m' m'' : Nat → Addr} {n n' n'' : Nat}
theorem Ext.refl : Ext K m n H m n H := ⟨Nat.le_refl _, fun _ _ => rfl, fun _ _ h => h, fun _ _ h => h, fun _ _ h _ => h, fun _ h => h, fun i h1 h2 => absurd h1 (Nat.not_le.mpr h2)⟩
theorem Ext.trans (a : Ext K m n H m' n' H') (b : Ext K m' n' H' m'' n'' H'') : Ext K m n H m'' n'' H'' where
  le := Nat.le_trans a.le b.le
  eq := fun i h => (b.eq i (Nat.lt_of_lt_of_le h a.le)).trans (a.eq i h)
  tup := fun x vs h => b.tup x vs (a.tup x vs h)
  ro := fun x vs h => b.ro x vs (a.ro x vs h)
  frame := fun x o h hn => b.frame x o (a.frame x o h hn) fun i hi e => by
    by_cases hc : i < n
    · exact hn i hc (by rw [← a.eq i hc]; exact e)
    · have z := a.fresh i (Nat.le_of_not_lt hc) hi
      rw [e, h] at z; cases z
  there := fun x h => a.there x (b.there x h)
  fresh := fun i h1 h2 => by
    by_cases hc : i < n'
    · rw [b.eq i hc]; exact a.fresh i h1 hc
    · exact a.there _ (b.fresh i (Nat.le_of_not_lt hc) h2)

mutual
theorem RepV.mono (x : Ext K m n H m' n' H') : ∀ {d : D} {v : V}, RepV K H m n d v → RepV K H' m' n' d v
  | .non, _, h => by cases h; exact .non
  | .bl b, _, h => by cases h; exact .bl b
  | .int i, _, h => by cases h; exact .int i
  | .str s, _, h => by cases h; exact .str s
  | .tup ds, _, h => by
    cases h with
    | tup h1 h2 => exact .tup (x.tup _ _ h1) (RepL.mono x h2)
  | .rol ds, _, h => by
    cases h with
    | rol h1 h2 => exact .rol (x.ro _ _ h1) (RepL.mono x h2)
  | .rod ks ds, _, h => by
    cases h with
    | rod h1 h2 h3 h4 => exact .rod h1 h2 h3 (RepL.mono x h4)
  | .ref i, _, h => by
    cases h with
    | ref h1 => rw [← x.eq i h1]; exact .ref (Nat.lt_of_lt_of_le h1 x.le)
theorem RepL.mono (x : Ext K m n H m' n' H') : ∀ {ds : List D} {vs : List V}, RepL K H m n ds vs → RepL K H' m' n' ds vs
  | [], _, h => by cases h; exact .nil
  | d :: ds, _, h => by
    cases h with
    | cons h1 h2 => exact .cons (RepV.mono x h1) (RepL.mono x h2)
end

theorem RepL.length : ∀ {ds : List D} {vs : List V}, RepL K H m n ds vs → ds.length = vs.length
  | [], _, h => by cases h; rfl
  | d :: ds, _, h => by
    cases h with
    | cons h1 h2 => simp [RepL.length h2]
theorem RepL.get : ∀ {ds : List D} {vs : List V} {i : Nat} {d : D}, RepL K H m n ds vs → ds[i]? = some d → ∃ v, vs[i]? = some v ∧ RepV K H m n d v
  | [], _, _, _, _, e => by simp at e
  | d :: ds, _, 0, _, h, e => by
    cases h with
    | cons h1 h2 => simp at e; subst e; exact ⟨_, rfl, h1⟩
  | d :: ds, _, i + 1, x, h, e => by
    cases h with
    | cons h1 h2 =>
      obtain ⟨v, q1, q2⟩ := RepL.get (i := i) h2 (by simpa using e)
      exact ⟨v, by simpa using q1, q2⟩
theorem RepL.get' : ∀ {ds : List D} {vs : List V} {i : Nat} {v : V}, RepL K H m n ds vs → vs[i]? = some v → ∃ d, ds[i]? = some d ∧ RepV K H m n d v
  | [], _, i, _, h, e => by cases h; simp at e
  | d :: ds, _, 0, _, h, e => by
    cases h with
    | cons h1 h2 => simp at e; subst e; exact ⟨_, rfl, h1⟩
  | d :: ds, _, i + 1, x, h, e => by
    cases h with
    | cons h1 h2 =>
      obtain ⟨v, q1, q2⟩ := RepL.get' (i := i) h2 (by simpa using e)
      exact ⟨v, by simpa using q1, q2⟩
theorem RepL.append : ∀ {ds es : List D} {vs ws : List V}, RepL K H m n ds vs → RepL K H m n es ws → RepL K H m n (ds ++ es) (vs ++ ws)
  | [], _, _, _, h, q => by cases h; exact q
  | d :: ds, _, _, _, h, q => by
    cases h with
    | cons h1 h2 => exact .cons h1 (RepL.append h2 q)
theorem RepL.take : ∀ {ds : List D} {vs : List V} (k : Nat), RepL K H m n ds vs → RepL K H m n (ds.take k) (vs.take k)
  | _, _, 0, _ => .nil
  | [], _, k + 1, h => by cases h; exact .nil
  | d :: ds, _, k + 1, h => by
    cases h with
    | cons h1 h2 => exact .cons h1 (RepL.take k h2)
theorem RepL.drop : ∀ {ds : List D} {vs : List V} (k : Nat), RepL K H m n ds vs → RepL K H m n (ds.drop k) (vs.drop k)
  | _, _, 0, h => h
  | [], _, k + 1, h => by cases h; exact .nil
  | d :: ds, _, k + 1, h => by
    cases h with
    | cons h1 h2 => exact RepL.drop k h2
theorem RepL.set {x : D} {y : V} (r : RepV K H m n x y) : ∀ {ds : List D} {vs : List V} (k : Nat), RepL K H m n ds vs → RepL K H m n (ds.set k x) (vs.set k y)
  | [], _, _, h => by cases h; exact .nil
  | d :: ds, _, 0, h => by
    cases h with
    | cons h1 h2 => exact .cons r h2
  | d :: ds, _, k + 1, h => by
    cases h with
    | cons h1 h2 => exact .cons h1 (RepL.set r k h2)
theorem RepL.dropLast : ∀ {ds : List D} {vs : List V}, RepL K H m n ds vs → RepL K H m n ds.dropLast vs.dropLast := fun {ds vs} h => by
  rw [List.dropLast_eq_take, List.dropLast_eq_take, ← h.length]
  exact h.take _
theorem RepL.rep : ∀ {ds : List D} {vs : List V} (k : Nat), RepL K H m n ds vs → RepL K H m n (List.replicate k ds).flatten (List.replicate k vs).flatten
  | _, _, 0, _ => .nil
  | ds, vs, k + 1, h => by
    rw [List.replicate_succ, List.replicate_succ, List.flatten_cons, List.flatten_cons]
    exact h.append (h.rep k)
theorem RepL.cut {ds : List D} {vs : List V} (lo hi : Option Int) (h : RepL K H m n ds vs) : RepL K H m n (cutD ds lo hi) (cutV vs lo hi) := by
  unfold cutD cutV
  rw [h.length]
  exact (h.drop _).take _
theorem RepL.isEmpty {ds : List D} {vs : List V} (h : RepL K H m n ds vs) : ds.isEmpty = vs.isEmpty := by
  cases h <;> rfl
end

section
variable {K : PySem.W.Frag} {H : Hp} {m : Nat → Addr} {n : Nat}
theorem look_rel {k : Key} : ∀ {kvs : List (Key × D)} {ks : List (Key × V)}, kvs.map (·.1) = ks.map (·.1) → RepL K H m n (kvs.map (·.2)) (ks.map (·.2)) →
    (∀ d, lookK kvs k = some d → ∃ v, valV ks k = some v ∧ RepV K H m n d v) ∧ (lookK kvs k).isSome = (valV ks k).isSome
  | [], [], _, _ => ⟨fun d e => (by cases e), rfl⟩
  | p :: kvs, q :: ks, e, r => by
    have e' : p.1 :: kvs.map (·.1) = q.1 :: ks.map (·.1) := e
    injection e' with e1 e2
    have r' : RepL K H m n (p.2 :: kvs.map (·.2)) (q.2 :: ks.map (·.2)) := r
    cases r' with
    | cons r1 r2 =>
      by_cases hk : q.1 = k
      · have a1 : lookK (p :: kvs) k = some p.2 := by unfold lookK; rw [List.find?_cons, e1, decide_eq_true hk]; rfl
        rw [a1, valV_pos hk]
        exact ⟨fun d z => ⟨_, rfl, by cases z; exact r1⟩, rfl⟩
      · have a1 : lookK (p :: kvs) k = lookK kvs k := by unfold lookK; rw [List.find?_cons, e1, decide_eq_false hk]
        rw [a1, valV_neg hk]
        exact look_rel e2 r2
  | [], _ :: _, e, _ => by cases e
  | _ :: _, [], e, _ => by cases e
theorem any_rel {k : Key} : ∀ {kvs : List (Key × D)} {ks : List (Key × V)}, kvs.map (·.1) = ks.map (·.1) → (kvs.any fun kv => decide (kv.1 = k)) = ks.any fun kv => decide (kv.1 = k)
  | [], [], _ => rfl
  | p :: kvs, q :: ks, e => by
    have e' : p.1 :: kvs.map (·.1) = q.1 :: ks.map (·.1) := e
    injection e' with e1 e2
    rw [List.any_cons, List.any_cons, any_rel e2, e1]
  | [], _ :: _, e => by cases e
  | _ :: _, [], e => by cases e
theorem repl_rel {k : Key} {d : D} {v : V} (rv : RepV K H m n d v) : ∀ {kvs : List (Key × D)} {ks : List (Key × V)}, kvs.map (·.1) = ks.map (·.1) → RepL K H m n (kvs.map (·.2)) (ks.map (·.2)) →
    (kvs.map (fun kv => if kv.1 = k then (kv.1, d) else kv)).map (·.1) = (ks.map (fun kv => if kv.1 = k then (kv.1, v) else kv)).map (·.1) ∧
      RepL K H m n ((kvs.map (fun kv => if kv.1 = k then (kv.1, d) else kv)).map (·.2)) ((ks.map (fun kv => if kv.1 = k then (kv.1, v) else kv)).map (·.2))
  | [], [], _, _ => ⟨rfl, .nil⟩
  | p :: kvs, q :: ks, e, r => by
    have e' : p.1 :: kvs.map (·.1) = q.1 :: ks.map (·.1) := e
    injection e' with e1 e2
    have r' : RepL K H m n (p.2 :: kvs.map (·.2)) (q.2 :: ks.map (·.2)) := r
    cases r' with
    | cons r1 r2 =>
      obtain ⟨h1, h2⟩ := repl_rel (k := k) rv e2 r2
      simp only [List.map_cons]
      rw [h1, e1]
      by_cases hk : q.1 = k
      · rw [if_pos hk, if_pos hk]
        exact ⟨rfl, .cons rv h2⟩
      · rw [if_neg hk, if_neg hk]
        exact ⟨by rw [e1], .cons r1 h2⟩
  | [], _ :: _, e, _ => by cases e
  | _ :: _, [], e, _ => by cases e
theorem store_rel {k : Key} {d : D} {v : V} (rv : RepV K H m n d v) {kvs : List (Key × D)} {ks : List (Key × V)} (e : kvs.map (·.1) = ks.map (·.1)) (r : RepL K H m n (kvs.map (·.2)) (ks.map (·.2))) :
    (storeK kvs k d).map (·.1) = (putK ks k v).map (·.1) ∧ RepL K H m n ((storeK kvs k d).map (·.2)) ((putK ks k v).map (·.2)) := by
  unfold storeK putK
  rw [any_rel e]
  split
  · exact repl_rel rv e r
  · rw [List.map_append, List.map_append, List.map_append, List.map_append, e]
    exact ⟨rfl, r.append (.cons rv .nil)⟩
theorem merge_rel : ∀ {more : List (Key × D)} {mv : List (Key × V)} {kvs : List (Key × D)} {ks : List (Key × V)}, more.map (·.1) = mv.map (·.1) → RepL K H m n (more.map (·.2)) (mv.map (·.2)) → kvs.map (·.1) = ks.map (·.1) → RepL K H m n (kvs.map (·.2)) (ks.map (·.2)) →
    (mergeD kvs more).map (·.1) = (mergeK ks mv).map (·.1) ∧ RepL K H m n ((mergeD kvs more).map (·.2)) ((mergeK ks mv).map (·.2))
  | [], [], _, _, _, _, e, r => ⟨e, r⟩
  | p :: more, q :: mv, kvs, ks, e0, r0, e, r => by
    have e' : p.1 :: more.map (·.1) = q.1 :: mv.map (·.1) := e0
    injection e' with e1 e2
    have r' : RepL K H m n (p.2 :: more.map (·.2)) (q.2 :: mv.map (·.2)) := r0
    cases r' with
    | cons r1 r2 =>
      obtain ⟨pk, pv⟩ := p
      obtain ⟨qk, qv⟩ := q
      cases e1
      have z := store_rel (k := pk) r1 e r
      exact merge_rel (kvs := storeK kvs pk pv) (ks := putK ks pk qv) e2 r2 z.1 z.2
  | [], _ :: _, _, _, e, _, _, _ => by cases e
  | _ :: _, [], _, _, e, _, _, _ => by cases e
theorem zip_maps : ∀ {ks : List Key} {ds : List D}, ks.length = ds.length → (ks.zip ds).map (·.1) = ks ∧ (ks.zip ds).map (·.2) = ds
  | [], [], _ => ⟨rfl, rfl⟩
  | k :: ks, d :: ds, e => by
    obtain ⟨h1, h2⟩ := zip_maps (ks := ks) (ds := ds) (by simpa using e)
    simp only [List.zip_cons_cons, List.map_cons, h1, h2, and_self]
  | [], _ :: _, e => by cases e
  | _ :: _, [], e => by cases e
end

/-- an object -/
def RepO (K : PySem.W.Frag) (H : Hp) (m : Nat → Addr) (n : Nat) (a : Addr) : Ob → Prop
  | .lst ds => ∃ vs, H a = some (.lst vs) ∧ RepL K H m n ds vs
  | .dK kvs => ∃ ks : List (Key × V), H a = some (.dK ks) ∧ RepL K H m n (kvs.map (·.2)) (ks.map (·.2)) ∧ kvs.map (·.1) = ks.map (·.1)
/-- the heap -/
structure Rel (K : PySem.W.Frag) (m : Nat → Addr) (h : MH) (H : Hp) : Prop where
  inj : ∀ i j, i < h.n → j < h.n → m i = m j → i = j
  obj : ∀ i o, h.get i = some o → RepO K H m h.n (m i) o
  trk : ∀ i, i < h.n → H (m i) ≠ none
theorem MH.get_lt {h : MH} {i : Nat} {o : Ob} (e : h.get i = some o) : i < h.n := by
  unfold MH.get at e
  split at e
  · rename_i q
    exact Nat.le_of_ble_eq_true q
  · cases e
theorem MH.get_of {h : MH} {i : Nat} (hi : i < h.n) : h.get i = h.l[h.n - 1 - i]? := by
  unfold MH.get
  rw [show Nat.blt i h.n = true from Nat.ble_eq_true_of_le hi]
theorem MH.get_new_same {h : MH} {o : Ob} : (h.new o).get h.n = some o := by
  rw [MH.get_of (Nat.lt_succ_self _)]
  show (o :: h.l)[h.n + 1 - 1 - h.n]? = some o
  simp
theorem MH.get_new {h : MH} {o : Ob} {i : Nat} (hi : i < h.n) : (h.new o).get i = h.get i := by
  rw [MH.get_of (show i < (h.new o).n from Nat.lt_succ_of_lt hi), MH.get_of hi]
  show (o :: h.l)[h.n + 1 - 1 - i]? = h.l[h.n - 1 - i]?
  rw [show h.n + 1 - 1 - i = (h.n - 1 - i) + 1 by omega]
  simp
theorem MH.new_n {h : MH} {o : Ob} : (h.new o).n = h.n + 1 := rfl
theorem MH.put_n {h : MH} {i : Nat} {o : Ob} : (h.put i o).n = h.n := rfl
theorem MH.get_put_same {h : MH} {i : Nat} {o u : Ob} (e : h.get i = some u) : (h.put i o).get i = some o := by
  have hi := MH.get_lt e
  rw [MH.get_of hi] at e
  rw [MH.get_of (show i < (h.put i o).n from hi)]
  show (h.l.set (h.n - 1 - i) o)[h.n - 1 - i]? = some o
  obtain ⟨q, _⟩ := List.getElem?_eq_some_iff.mp e
  rw [List.getElem?_set_self q]
theorem MH.get_put_ne {h : MH} {i j : Nat} {o : Ob} (hi : i < h.n) (hj : j ≠ i) : (h.put i o).get j = h.get j := by
  by_cases q : j < h.n
  · rw [MH.get_of q, MH.get_of (show j < (h.put i o).n from q)]
    show (h.l.set (h.n - 1 - i) o)[h.n - 1 - j]? = h.l[h.n - 1 - j]?
    rw [List.getElem?_set_ne (by omega)]
  · unfold MH.get
    rw [show Nat.blt j h.n = false from by
      cases z : Nat.blt j h.n with
      | false => rfl
      | true => exact absurd (Nat.le_of_ble_eq_true z) q]
    rw [show Nat.blt j (h.put i o).n = false from by
      cases z : Nat.blt j (h.put i o).n with
      | false => rfl
      | true => exact absurd (Nat.le_of_ble_eq_true z) q]

section
variable {K : PySem.W.Frag} {H H' : Hp} {m m' : Nat → Addr} {h : MH} {n n' : Nat}
theorem sqT_upd {a p : Addr} {o : HO} {vs : List V} (hp : ∀ xs, H p ≠ some (.tup xs)) (hf : ∀ ob u, H p ≠ some (.frz ob u)) (q : SqT K H a vs) : SqT K (upd H p o) a vs := by
  rcases q with (q | ⟨ob, q⟩) | q
  · exact .inl (.inl (by rw [upd_ne (fun e => hp _ (e ▸ q))]; exact q))
  · exact .inl (.inr ⟨ob, by rw [upd_ne (fun e => hf _ _ (e ▸ q))]; exact q⟩)
  · exact .inr q
theorem sqR_upd {a p : Addr} {o : HO} {vs : List V} (hf : ∀ ob u, H p ≠ some (.frz ob u)) (q : SqR K H a vs) : SqR K (upd H p o) a vs := by
  rcases q with ⟨ob, q⟩ | q
  · exact .inl ⟨ob, by rw [upd_ne (fun e => hf _ _ (e ▸ q))]; exact q⟩
  · exact .inr q
/-- something new that is none of ours (a tuple) -/
theorem Ext.laid {p : Addr} {o : HO} (hp : H p = none) : Ext K m n H m n (upd H p o) where
  le := Nat.le_refl _
  eq := fun _ _ => rfl
  tup := fun a vs q => sqT_upd (fun xs e => by rw [hp] at e; cases e) (fun ob u e => by rw [hp] at e; cases e) q
  ro := fun a vs q => sqR_upd (fun ob u e => by rw [hp] at e; cases e) q
  frame := fun a u q _ => by rw [upd_ne (ne_of_none q hp)]; exact q
  there := fun a q => by
    by_cases e : a = p
    · rw [e]; exact hp
    · rw [upd_ne e] at q; exact q
  fresh := fun i h1 h2 => absurd h1 (Nat.not_le.mpr h2)
theorem RepO.mono {a : Addr} {o : Ob} (x : Ext K m n H m' n' H') (e : H' a = H a) (r : RepO K H m n a o) : RepO K H' m' n' a o := by
  cases o with
  | lst ds =>
    obtain ⟨vs, q1, q2⟩ := r
    exact ⟨vs, e.trans q1, q2.mono x⟩
  | dK kvs =>
    obtain ⟨ks, q1, q2, q3⟩ := r
    exact ⟨ks, e.trans q1, q2.mono x, q3⟩
theorem Rel.laid {p : Addr} {o : HO} (R : Rel K m h H) (hp : H p = none) : Rel K m h (upd H p o) :=
  ⟨R.inj, fun i u e => (R.obj i u e).mono (Ext.laid hp) (upd_ne fun q => R.trk i (MH.get_lt e) (q ▸ hp)), fun i hi q => by
    rw [upd_ne (fun (z : m i = p) => R.trk i hi (by rw [z]; exact hp))] at q
    exact R.trk i hi q⟩
/-- an object of ours is made -/
def mput (m : Nat → Addr) (k : Nat) (p : Addr) : Nat → Addr := fun i => if i = k then p else m i
theorem mput_same {k : Nat} {p : Addr} : mput m k p k = p := if_pos rfl
theorem mput_lt {k i : Nat} {p : Addr} (h : i < k) : mput m k p i = m i := if_neg (Nat.ne_of_lt h)
theorem Ext.new {p : Addr} {o : HO} (hp : H p = none) : Ext K m n H (mput m n p) (n + 1) (upd H p o) where
  le := Nat.le_succ _
  eq := fun i hi => mput_lt hi
  tup := (Ext.laid (K := K) (m := m) (n := n) hp).tup
  ro := (Ext.laid (K := K) (m := m) (n := n) hp).ro
  frame := (Ext.laid (K := K) (m := m) (n := n) hp).frame
  there := (Ext.laid (K := K) (m := m) (n := n) hp).there
  fresh := fun i h1 h2 => by
    have e : i = n := by omega
    subst e
    rw [mput_same]; exact hp
theorem Rel.new {p : Addr} {o : HO} {ob : Ob} (R : Rel K m h H) (hp : H p = none) (r : RepO K (upd H p o) (mput m h.n p) (h.n + 1) p ob) : Rel K (mput m h.n p) (h.new ob) (upd H p o) where
  inj := fun i j hi hj e => by
    have hi' : i < h.n + 1 := hi
    have hj' : j < h.n + 1 := hj
    by_cases a : i = h.n
    · by_cases b : j = h.n
      · omega
      · rw [a, mput_same, mput_lt (by omega)] at e
        exact absurd (e ▸ hp) (R.trk j (by omega))
    · by_cases b : j = h.n
      · rw [b, mput_same, mput_lt (by omega)] at e
        exact absurd (e.symm ▸ hp) (R.trk i (by omega))
      · rw [mput_lt (by omega), mput_lt (by omega)] at e
        exact R.inj i j (by omega) (by omega) e
  obj := fun i u e => by
    have hi : i < h.n + 1 := MH.get_lt e
    by_cases a : i = h.n
    · subst a
      rw [MH.get_new_same] at e
      cases e
      rw [mput_same]
      exact r
    · have hlt : i < h.n := by omega
      rw [MH.get_new hlt] at e
      rw [mput_lt hlt]
      exact (R.obj i u e).mono (Ext.new hp) (upd_ne fun q => R.trk i hlt (q ▸ hp))
  trk := fun i hi q => by
    have hi' : i < h.n + 1 := hi
    by_cases a : i = h.n
    · rw [a, mput_same, upd_same] at q; cases q
    · have hlt : i < h.n := by omega
      rw [mput_lt hlt, upd_ne (fun (z : m i = p) => R.trk i hlt (by rw [z]; exact hp))] at q
      exact R.trk i hlt q
/-- an object of ours is written -/
theorem Ext.put {i : Nat} {o u : HO} (hi : i < n) (hm : H (m i) = some u) (ht : ∀ xs, u ≠ .tup xs) (hf : ∀ ob x, u ≠ .frz ob x) : Ext K m n H m n (upd H (m i) o) where
  le := Nat.le_refl _
  eq := fun _ _ => rfl
  tup := fun a vs q => sqT_upd (fun xs e => by rw [hm] at e; exact ht xs (Option.some.inj e)) (fun ob x e => by rw [hm] at e; exact hf ob x (Option.some.inj e)) q
  ro := fun a vs q => sqR_upd (fun ob x e => by rw [hm] at e; exact hf ob x (Option.some.inj e)) q
  frame := fun a x q hn => by rw [upd_ne (fun e => hn i hi e.symm)]; exact q
  there := fun a q => by
    by_cases e : a = m i
    · rw [e, upd_same] at q; cases q
    · rw [upd_ne e] at q; exact q
  fresh := fun i h1 h2 => absurd h1 (Nat.not_le.mpr h2)
theorem Rel.put {i : Nat} {o u : HO} {ob ob0 : Ob} (R : Rel K m h H) (hg : h.get i = some ob0) (hm : H (m i) = some u) (ht : ∀ xs, u ≠ .tup xs) (hf : ∀ ob x, u ≠ .frz ob x)
    (r : RepO K (upd H (m i) o) m h.n (m i) ob) : Rel K m (h.put i ob) (upd H (m i) o) where
  inj := R.inj
  obj := fun j w e => by
    have hj : j < (h.put i ob).n := MH.get_lt e
    have hj : j < h.n := hj
    by_cases a : j = i
    · subst a
      rw [MH.get_put_same hg] at e
      cases e
      exact r
    · rw [MH.get_put_ne (MH.get_lt hg) a] at e
      show RepO K _ m h.n _ _
      exact (R.obj j w e).mono (Ext.put (MH.get_lt hg) hm ht hf) (upd_ne fun q => a (R.inj j i hj (MH.get_lt hg) q))
  trk := fun j hj q => R.trk j hj ((Ext.put (K := K) (m := m) (o := o) (MH.get_lt hg) hm ht hf).there _ q)
/-- a heap none of whose objects was written -/
theorem Rel.frame {m0 m1 : Nat → Addr} {n1 : Nat} (R : Rel K m h H) (x : Ext K m0 0 H m1 n1 H') : Rel K m h H' ∧ Ext K m h.n H m h.n H' := by
  have E : Ext K m h.n H m h.n H' := ⟨Nat.le_refl _, fun _ _ => rfl, x.tup, x.ro, fun a o e _ => x.frame a o e (fun i hi => absurd hi (Nat.not_lt_zero _)), x.there, fun i h1 h2 => absurd h1 (Nat.not_le.mpr h2)⟩
  refine ⟨⟨R.inj, fun i o e => (R.obj i o e).mono E ?_, fun i hi q => R.trk i hi (x.there _ q)⟩, E⟩
  cases q : H (m i) with
  | none => exact absurd q (R.trk i (MH.get_lt e))
  | some u => exact x.frame _ _ q (fun i hi => absurd hi (Nat.not_lt_zero _))
end
end MP
namespace MP
open PySem PySem.Spec PyProof.Rows L2

abbrev XT := Nat → Option (Addr × Option Str)
def RepX (K : PySem.W.Frag) (T : XT) (H : Hp) (m : Nat → Addr) (n : Nat) (x : Exn) (cl : Value) (dd : Option Addr) : Prop :=
  ∃ C f, T x.c = some (C, f) ∧ cl = .ref C ∧ match f with
    | none => True
    | some f => ∃ d v, dd = some d ∧ H d = some (.xd [(f, v)]) ∧ RepV K H m n x.d v
abbrev RepT (α β : Type) := Hp → (Nat → Addr) → Nat → α → β → Prop
abbrev rV (K : PySem.W.Frag) : RepT D V := fun H m n d v => RepV K H m n d v
abbrev rL (K : PySem.W.Frag) : RepT (List D) (List V) := fun H m n d v => RepL K H m n d v
abbrev rQ (α : Type) : RepT α α := fun _ _ _ a b => a = b
/-- the slots -/
def RepE (K : PySem.W.Frag) (H : Hp) (m : Nat → Addr) (n : Nat) (env : Env) (σ : L2.St) : Prop := env.length = σ.length ∧ ∀ (i : Nat) (d : D), env[i]? = some (some d) → ∃ v, σ[i]? = some (some v) ∧ RepV K H m n d v
section
variable (K : PySem.W.Frag) (T : XT) (W : WX) (σ : L2.St)
def Out {α β : Type} (rep : RepT α β) (m : Nat → Addr) (n : Nat) (H : Hp) (r : Res α) (Q : β → Hp → Prop) : Prop := match r with
  | .ok a h' => ∀ m' H' v, Ext K m n H m' h'.n H' → Rel K m' h' H' → rep H' m' h'.n a v → Q v H'
  | .ex x h' => ∀ m' H' cl dd, Ext K m n H m' h'.n H' → Rel K m' h' H' → RepX K T H' m' h'.n x cl dd → W cl dd σ H'
  | .bad => False
end
/-- the reading of what F reckons -/
def rd (K : PySem.W.Frag) (T : XT) (W : WX) {α β : Type} (rep : RepT α β) (F : Env → MH → Res α) : L2.St → Hp → (β → Hp → Prop) → Prop := fun σ H Q =>
  ∃ m env h, Rel K m h H ∧ RepE K H m h.n env σ ∧ Out K T W σ rep m h.n H (F env h) Q
section
variable {K : PySem.W.Frag} {T : XT} {W : WX} {σ : L2.St} {α β γ δ : Type} {rep : RepT α β} {rep2 : RepT γ δ} {m m1 : Nat → Addr} {n n1 : Nat} {H H1 : Hp} {Q : β → Hp → Prop} {Q2 : δ → Hp → Prop} {env : Env} {h : MH}
theorem Out.ext {r : Res α} (x : Ext K m n H m1 n1 H1) (o : Out K T W σ rep m n H r Q) : Out K T W σ rep m1 n1 H1 r Q := by
  cases r with
  | ok a h' => exact fun m' H' v x' R V => o m' H' v (x.trans x') R V
  | ex e h' => exact fun m' H' cl dd x' R V => o m' H' cl dd (x.trans x') R V
  | bad => exact o
theorem Out.step {r : Res α} {f : α → MH → Res γ} (o : Out K T W σ rep2 m n H (r.bind f) Q2)
    (k : ∀ a h1 m1 H1 v1, r = .ok a h1 → Ext K m n H m1 h1.n H1 → Rel K m1 h1 H1 → rep H1 m1 h1.n a v1 → Out K T W σ rep2 m1 h1.n H1 (f a h1) Q2 → Q v1 H1) : Out K T W σ rep m n H r Q := by
  cases r with
  | ok a h1 =>
    intro m1 H1 v1 x R V
    exact k a h1 m1 H1 v1 rfl x R V (Out.ext x o)
  | ex e h1 => exact o
  | bad => exact o
theorem Out.imp {r : Res α} {Q' : β → Hp → Prop} (o : Out K T W σ rep m n H r Q) (k : ∀ v H', Q v H' → Q' v H') : Out K T W σ rep m n H r Q' := by
  cases r with
  | ok a h' => exact fun m' H' v x' R V => k _ _ (o m' H' v x' R V)
  | ex e h' => exact o
  | bad => exact o
theorem Out.here {a : α} {v : β} (R : Rel K m h H) (V : rep H m h.n a v) (o : Out K T W σ rep m h.n H (.ok a h) Q) : Q v H := o m H v Ext.refl R V
theorem RepE.mono (x : Ext K m n H m1 n1 H1) (e : RepE K H m n env σ) : RepE K H1 m1 n1 env σ :=
  ⟨e.1, fun i d q => let ⟨v, q1, q2⟩ := e.2 i d q; ⟨v, q1, q2.mono x⟩⟩
theorem RepE.set {i : Nat} {d : D} {v : V} (e : RepE K H m n env σ) (r : RepV K H m n d v) : RepE K H m n (env.set i (some d)) (σ.set i (some v)) := by
  refine ⟨by simp [e.1], fun j x q => ?_⟩
  by_cases hj : i = j
  · subst hj
    by_cases hl : i < env.length
    · rw [List.getElem?_set_self hl] at q
      cases q
      exact ⟨v, by rw [List.getElem?_set_self (by rw [← e.1]; exact hl)], r⟩
    · rw [List.getElem?_eq_none (by simpa using hl)] at q
      cases q
  · rw [List.getElem?_set_ne hj] at q
    obtain ⟨u, q1, q2⟩ := e.2 j x q
    exact ⟨u, by rw [List.getElem?_set_ne hj]; exact q1, q2⟩
end

theorem PE.weak {X : Cx} {e : Expr} {t t' : TE} (h : PE X e t) (k : ∀ σ H Q, t' σ H Q → t σ H Q) : PE X e t' := ⟨fun pins s σ H Q I q => h.run pins s σ H Q I (k σ H Q q)⟩
theorem PT.weak {X : Cx} {e : Expr} {t t' : TT} (h : PT X e t) (k : ∀ σ H Q, t' σ H Q → t σ H Q) : PT X e t' := ⟨fun pins s σ H Q I q => h.run pins s σ H Q I (k σ H Q q)⟩
theorem PW.weak {X : Cx} {e : Expr} {t t' : TT} (h : PW X e t) (k : ∀ σ H Q, t' σ H Q → t σ H Q) : PW X e t' := ⟨fun wh pins s σ H Q I q => h.run wh pins s σ H Q I (k σ H Q q)⟩
theorem PA.weak {X : Cx} {e : List Expr} {t t' : TA} (h : PA X e t) (k : ∀ σ H Q, t' σ H Q → t σ H Q) : PA X e t' := ⟨fun pos pins s σ H Q I q => h.run pos pins s σ H Q I (k σ H Q q)⟩
theorem PS.weak {X : Cx} {e : Stmt} {t t' : TS} (h : PS X e t) (k : ∀ D σ H, t' D σ H → t D σ H) : PS X e t' := ⟨fun pins s σ H D I q => h.run pins s σ H D I (k D σ H q)⟩
theorem PSs.weak {X : Cx} {e : List Stmt} {t t' : TS} (h : PSs X e t) (k : ∀ D σ H, t' D σ H → t D σ H) : PSs X e t' := ⟨fun pins s σ H D I q => h.run pins s σ H D I (k D σ H q)⟩
theorem PG.weak {X : Cx} {e : Expr} {t t' : TG} (h : PG X e t) (k : ∀ v σ H Q, t' v σ H Q → t v σ H Q) : PG X e t' := ⟨fun pins s σ H v u Q I r q => h.run pins s σ H v u Q I r (k v σ H Q q)⟩
theorem PI.weak {X : Cx} {tg e : Expr} {t t' : TI} (h : PI X tg e t) (k : ∀ σ H Q, t' σ H Q → t σ H Q) : PI X tg e t' := ⟨fun pins s σ H Q I q => h.run pins s σ H Q I (k σ H Q q)⟩

section
variable {K : PySem.W.Frag} {T : XT} {W : WX} {σ : L2.St} {m : Nat → Addr} {H : Hp} {h : MH} {Q : VK} {X : Cx}
theorem newT_ok {ds : List D} {vs : List V} (R : Rel K m h H) (rl : RepL K H m h.n ds vs) (O : Out K T W σ (rV K) m h.n H (newT h ds) Q) : vs.length ≤ sizeLine ∧ ∀ p, H p = none → Q (.ref p) (upd H p (.tup vs)) := by
  unfold newT at O
  split at O
  · rename_i hl
    refine ⟨by rw [← rl.length]; exact hl, fun p hp => ?_⟩
    exact O m _ (.ref p) (Ext.laid hp) (R.laid hp) (.tup (SqT.of upd_same) (rl.mono (Ext.laid hp)))
  · exact O.elim
theorem newL_ok {ds : List D} {vs : List V} {d : Ob} (R : Rel K m h H) (rl : RepL K H m h.n ds vs) (O : Out K T W σ (rV K) m h.n H (.ok (.ref h.n) (h.new (.lst ds))) Q) : ∀ p, H p = none → Q (.ref p) (upd H p (.lst vs)) := fun p hp => by
  have x := Ext.new (K := K) (m := m) (n := h.n) (o := .lst vs) hp
  have q := O (mput m h.n p) (upd H p (.lst vs)) (.ref p) x (R.new hp ⟨vs, upd_same, rl.mono x⟩)
  refine q ?_
  have z : RepV K (upd H p (.lst vs)) (mput m h.n p) (h.n + 1) (.ref h.n) (.ref (mput m h.n p h.n)) := .ref (Nat.lt_succ_self _)
  rw [mput_same] at z
  exact z
theorem newLL_ok {ds : List D} {vs : List V} (R : Rel K m h H) (rl : RepL K H m h.n ds vs) (O : Out K T W σ (rV K) m h.n H (newL h ds) Q) : vs.length ≤ sizeLine ∧ ∀ p, H p = none → Q (.ref p) (upd H p (.lst vs)) := by
  unfold newL at O
  split at O
  · rename_i hl
    exact ⟨by rw [← rl.length]; exact hl, newL_ok (d := .lst []) R rl O⟩
  · exact O.elim
/-- a list of ours -/
theorem Rel.lst {i : Nat} {ds : List D} (R : Rel K m h H) (e : h.get i = some (.lst ds)) : ∃ vs, H (m i) = some (.lst vs) ∧ RepL K H m h.n ds vs := R.obj i _ e

def oAdd (K : PySem.W.Frag) : R2 := fun x y H Q => (rI0 (fun i j => .int (i + j))) x y H Q ∨ ((∃ i j, x = .str i ∧ y = .str j ∧ i.length + j.length ≤ sizeLine ∧ Q (.str (i ++ j)) H) ∨ (rCatA K x y H Q ∨ rCat x y H Q))
theorem o_add : OpR X (binaryOp .Add) (oAdd X.K) := OpR.or op_add (OpR.or op_add_str (OpR.or op_catA op_cat))
theorem t_add {a b : D} {x y : V} (R : Rel K m h H) (V1 : RepV K H m h.n a x) (V2 : RepV K H m h.n b y) (O : Out K T W σ (rV K) m h.n H (binD .add a b h) Q) : oAdd K x y H Q := by
  cases V1 with
  | int i =>
    cases V2 with
    | int j => exact .inl ⟨i, j, rfl, rfl, O.here R (.int _)⟩
    | _ => exact False.elim O
  | str s =>
    cases V2 with
    | str t =>
      have O' : Out K T W σ (rV K) m h.n H (if s.length + t.length ≤ sizeLine then .ok (.str (s ++ t)) h else .bad) Q := O
      split at O'
      · rename_i hl
        exact .inr (.inl ⟨s, t, rfl, rfl, hl, O'.here R (.str _)⟩)
      · exact O'.elim
    | _ => exact False.elim O
  | @tup p vs ds h1 h2 =>
    cases V2 with
    | @tup q ws es h3 h4 =>
      have O' : Out K T W σ (rV K) m h.n H (newT h (ds ++ es)) Q := O
      have hh := newT_ok R (h2.append h4) O'
      rw [List.length_append] at hh
      refine .inr (.inr (.inl ⟨p, q, vs, ws, rfl, rfl, h1, h3, hh.1, fun e => ?_, fun _ e => ?_, fun _ _ => hh.2⟩))
      · unfold newT at O'
        split at O'
        · refine O'.here R ?_
          subst e
          cases h2
          exact .tup h3 h4
        · exact O'.elim
      · unfold newT at O'
        split at O'
        · refine O'.here R ?_
          subst e
          cases h4
          rw [List.append_nil]
          exact .tup h1 h2
        · exact O'.elim
    | _ => exact False.elim O
  | @ref i hi =>
    cases V2 with
    | @ref j hj =>
      have O' : Out K T W σ (rV K) m h.n H (match h.get i, h.get j with
        | some (.lst xs), some (.lst ys) => newL h (xs ++ ys)
        | _, _ => .bad) Q := O
      split at O'
      · rename_i xs ys e1 e2
        obtain ⟨vs, q1, q2⟩ := R.lst e1
        obtain ⟨ws, q3, q4⟩ := R.lst e2
        have hh := newLL_ok R (q2.append q4) O'
        rw [List.length_append] at hh
        exact .inr (.inr (.inr ⟨m i, m j, vs, ws, rfl, rfl, q1, q3, hh⟩))
      · exact O'.elim
    | _ => exact False.elim O
  | _ => exact False.elim O
theorem t_sub {a b : D} {x y : V} (R : Rel K m h H) (V1 : RepV K H m h.n a x) (V2 : RepV K H m h.n b y) (O : Out K T W σ (rV K) m h.n H (binD .sub a b h) Q) : (rI0 (fun i j => .int (i - j))) x y H Q := by
  cases V1 with
  | int i =>
    cases V2 with
    | int j => exact ⟨i, j, rfl, rfl, O.here R (.int _)⟩
    | _ => exact False.elim O
  | _ => exact False.elim O
def oMul (K : PySem.W.Frag) : R2 := fun x y H Q => rI CMulW (fun i j => .int (i * j)) x y H Q ∨ (rRep x y H Q ∨ rRepT K x y H Q)
theorem o_mul : OpR X (binaryOp .Mult) (oMul X.K) := OpR.or op_mulW (OpR.or op_rep op_repT)
theorem t_mul {a b : D} {x y : V} (R : Rel K m h H) (V1 : RepV K H m h.n a x) (V2 : RepV K H m h.n b y) (O : Out K T W σ (rV K) m h.n H (binD .mul a b h) Q) : oMul K x y H Q := by
  cases V1 with
  | int i =>
    cases V2 with
    | int j =>
      have O' : Out K T W σ (rV K) m h.n H (if i.natAbs.log2 + j.natAbs.log2 < 1000000 then .ok (.int (i * j)) h else .bad) Q := O
      split at O'
      · rename_i hl
        exact .inl ⟨i, j, rfl, rfl, hl, O'.here R (.int _)⟩
      · exact O'.elim
    | _ => exact False.elim O
  | @tup p vs ds h1 h2 =>
    cases V2 with
    | int k =>
      have O' : Out K T W σ (rV K) m h.n H (if ds ≠ [] ∧ 2 ≤ k ∧ k ≤ 1000 ∧ ds.length ≤ 1000 then .ok (.tup (List.replicate k.toNat ds).flatten) h else .bad) Q := O
      split at O'
      · rename_i hl
        obtain ⟨l1, l2, l3, l4⟩ := hl
        refine .inr (.inr ⟨p, k, vs, rfl, rfl, h1, ?_, l2, l3, by rw [← h2.length]; exact l4, fun q hq => ?_⟩)
        · intro e
          subst e
          cases h2
          exact l1 rfl
        · exact O' m _ _ (Ext.laid hq) (R.laid hq) (.tup (SqT.of upd_same) ((h2.rep _).mono (Ext.laid hq)))
      · exact O'.elim
    | _ => exact False.elim O
  | @ref i hi =>
    cases V2 with
    | int k =>
      have O' : Out K T W σ (rV K) m h.n H (match h.get i with
        | some (.lst xs) => if -(2 ^ 63) ≤ k ∧ k < 2 ^ 63 ∧ xs.length * k.toNat ≤ sizeLine then .ok (.ref h.n) (h.new (.lst (List.replicate k.toNat xs).flatten)) else .bad
        | _ => .bad) Q := O
      split at O'
      · rename_i xs e1
        split at O'
        · rename_i hl
          obtain ⟨l1, l2, l3⟩ := hl
          obtain ⟨vs, q1, q2⟩ := R.lst e1
          exact .inr (.inl ⟨m i, k, vs, rfl, rfl, q1, l1, l2, by rw [← q2.length]; exact l3, newL_ok (d := .lst []) R (q2.rep _) O'⟩)
        · exact O'.elim
      · exact O'.elim
    | _ => exact False.elim O
  | _ => exact False.elim O
theorem t_fdiv {a b : D} {x y : V} (R : Rel K m h H) (V1 : RepV K H m h.n a x) (V2 : RepV K H m h.n b y) (O : Out K T W σ (rV K) m h.n H (binD .fdiv a b h) Q) : (rI CDivW (fun i j => .int (i / j))) x y H Q := by
  cases V1 with
  | int i =>
    cases V2 with
    | int j =>
      have O' : Out K T W σ (rV K) m h.n H (if 0 < j ∧ j.natAbs.log2 < 9000 then .ok (.int (i / j)) h else .bad) Q := O
      split at O'
      · rename_i hl
        exact ⟨i, j, rfl, rfl, hl, O'.here R (.int _)⟩
      · exact O'.elim
    | _ => exact False.elim O
  | _ => exact False.elim O
theorem t_mod {a b : D} {x y : V} (R : Rel K m h H) (V1 : RepV K H m h.n a x) (V2 : RepV K H m h.n b y) (O : Out K T W σ (rV K) m h.n H (binD .mod a b h) Q) : (rI (fun _ j => 0 < j) (fun i j => .int (i % j))) x y H Q := by
  cases V1 with
  | int i =>
    cases V2 with
    | int j =>
      have O' : Out K T W σ (rV K) m h.n H (if 0 < j then .ok (.int (i % j)) h else .bad) Q := O
      split at O'
      · rename_i hl
        exact ⟨i, j, rfl, rfl, hl, O'.here R (.int _)⟩
      · exact O'.elim
    | _ => exact False.elim O
  | _ => exact False.elim O
theorem t_pow {a b : D} {x y : V} (R : Rel K m h H) (V1 : RepV K H m h.n a x) (V2 : RepV K H m h.n b y) (O : Out K T W σ (rV K) m h.n H (binD .pow a b h) Q) : (rI CPow (fun i j => .int (i ^ j.toNat))) x y H Q := by
  cases V1 with
  | int i =>
    cases V2 with
    | int j =>
      have O' : Out K T W σ (rV K) m h.n H (if 0 ≤ j ∧ j ≤ 1000000 ∧ i.natAbs < 2 ^ 64 then .ok (.int (i ^ j.toNat)) h else .bad) Q := O
      split at O'
      · rename_i hl
        exact ⟨i, j, rfl, rfl, hl, O'.here R (.int _)⟩
      · exact O'.elim
    | _ => exact False.elim O
  | _ => exact False.elim O
/-- an operator's rule, whichever it is -/
theorem o_bin {op : Operator} {o : Bop} (e : bopC op = some o) : ∃ rr : R2, OpR X (binaryOp op) rr ∧
    ∀ {T : XT} {W : WX} {σ : L2.St} {m : Nat → Addr} {H : Hp} {h : MH} {Q : VK} {a b : D} {x y : V}, Rel X.K m h H → RepV X.K H m h.n a x → RepV X.K H m h.n b y → Out X.K T W σ (rV X.K) m h.n H (binD o a b h) Q → rr x y H Q := by
  cases op with
  | Add => cases e; exact ⟨_, o_add, t_add⟩
  | Sub => cases e; exact ⟨_, op_sub, t_sub⟩
  | Mult => cases e; exact ⟨_, o_mul, t_mul⟩
  | FloorDiv => cases e; exact ⟨_, op_fdivW, t_fdiv⟩
  | Mod => cases e; exact ⟨_, op_mod, t_mod⟩
  | Pow => cases e; exact ⟨_, op_pow, t_pow⟩
  | _ => cases e
end
end MP
namespace MP
open PySem PySem.Spec PyProof.Rows L2
section
variable {K : PySem.W.Frag} {m : Nat → Addr} {H : Hp} {h : MH}
theorem mapO_cons {α β : Type} {f : α → Option β} {x : α} {xs : List α} {ys : List β} (e : mapO f (x :: xs) = some ys) : ∃ y zs, ys = y :: zs ∧ f x = some y ∧ mapO f xs = some zs := by
  unfold mapO at e
  split at e
  · rename_i y q
    split at e
    · rename_i zs q2
      cases e
      exact ⟨y, zs, rfl, q, q2⟩
    · cases e
  · cases e
theorem mapO_nil {α β : Type} {f : α → Option β} {ys : List β} (e : mapO f [] = some ys) : ys = [] := by
  cases e; rfl
/-- the data that a value is -/
theorem dp_of (R : Rel K m h H) : ∀ (f : Nat) {d : D} {v : V} {p : PyData}, RepV K H m h.n d v → pd f h d = some p → Dp K H v p := by
  intro f
  induction f with
  | zero => intro d v p _ e; cases e
  | succ f ih =>
    have all : ∀ {ds : List D} {vs : List V} {ps : List PyData}, RepL K H m h.n ds vs → mapO (pd f h) ds = some ps → DpAll K H vs ps := by
      intro ds
      induction ds with
      | nil => intro vs ps r e; cases r; rw [mapO_nil e]; exact .nil
      | cons d ds ih2 =>
        intro vs ps r e
        cases r with
        | cons r1 r2 =>
          obtain ⟨y, zs, rfl, q1, q2⟩ := mapO_cons e
          exact .cons (ih r1 q1) (ih2 r2 q2)
    intro d v p V1 e
    cases V1 with
    | non => cases e; exact .non
    | bl b => cases e; exact .bl b
    | int i => cases e; exact .int i
    | str s => cases e; exact .str s
    | @tup a vs ds h1 h2 =>
      have e' : (mapO (pd f h) ds).map PyData.tuple = some p := e
      obtain ⟨ps, q, rfl⟩ := Option.map_eq_some_iff.mp e'
      exact .tup h1 (all h2 q)
    | rod _ _ _ _ => cases e
    | @rol a vs ds h1 h2 =>
      have e' : (mapO (pd f h) ds).map PyData.list = some p := e
      obtain ⟨ps, q, rfl⟩ := Option.map_eq_some_iff.mp e'
      exact .lst h1.l (all h2 q)
    | @ref i hi =>
      have e' : (match h.get i with
        | some (.lst ds) => (mapO (pd f h) ds).map PyData.list
        | _ => none) = some p := e
      split at e'
      · rename_i ds q0
        obtain ⟨ps, q, rfl⟩ := Option.map_eq_some_iff.mp e'
        obtain ⟨vs, q1, q2⟩ := R.lst q0
        exact .lst (SqL.of q1) (all q2 q)
      · cases e'
theorem dps_of (R : Rel K m h H) {f : Nat} : ∀ {ds : List D} {vs : List V} {ps : List PyData}, RepL K H m h.n ds vs → mapO (pd f h) ds = some ps → DpAll K H vs ps := by
  intro ds
  induction ds with
  | nil => intro vs ps r e; cases r; rw [mapO_nil e]; exact .nil
  | cons d ds ih2 =>
    intro vs ps r e
    cases r with
    | cons r1 r2 =>
      obtain ⟨y, zs, rfl, q1, q2⟩ := mapO_cons e
      exact .cons (dp_of R _ r1 q1) (ih2 r2 q2)
theorem fv_of {n : Nat} {d : D} {v x : V} (r : RepV K H m n d v) (e : fv d = some x) : v = x ∧ flatV v = true := by
  cases r with
  | non => cases e; exact ⟨rfl, rfl⟩
  | bl b => cases e; exact ⟨rfl, rfl⟩
  | int i => cases e; exact ⟨rfl, rfl⟩
  | str s => cases e; exact ⟨rfl, rfl⟩
  | tup _ _ => cases e
  | rol _ _ => cases e
  | rod _ _ _ _ => cases e
  | ref _ => cases e
theorem fvs_of {n : Nat} : ∀ {ds : List D} {vs xs : List V}, RepL K H m n ds vs → mapO fv ds = some xs → vs = xs ∧ vs.all flatV = true := by
  intro ds
  induction ds with
  | nil => intro vs xs r e; cases r; rw [mapO_nil e]; exact ⟨rfl, rfl⟩
  | cons d ds ih =>
    intro vs xs r e
    cases r with
    | cons r1 r2 =>
      obtain ⟨y, zs, rfl, q1, q2⟩ := mapO_cons e
      obtain ⟨e1, f1⟩ := fv_of r1 q1
      obtain ⟨e2, f2⟩ := ih r2 q2
      rw [e1, e2, List.all_cons, ← e1, ← e2, f1, f2]
      exact ⟨rfl, rfl⟩
theorem items_of (R : Rel K m h H) {d : D} {v : V} {ds : List D} (r : RepV K H m h.n d v) (e : items h d = some ds) : ∃ a vs, v = .ref a ∧ (SqL K H a vs ∨ SqT K H a vs) ∧ RepL K H m h.n ds vs := by
  cases r with
  | @tup a vs es h1 h2 => cases e; exact ⟨a, vs, rfl, .inr h1, h2⟩
  | @rol a vs es h1 h2 => cases e; exact ⟨a, vs, rfl, .inl h1.l, h2⟩
  | @ref i hi =>
    have e' : (match h.get i with
      | some (.lst ds) => some ds
      | _ => none) = some ds := e
    split at e'
    · rename_i es q0
      cases e'
      obtain ⟨vs, q1, q2⟩ := R.lst q0
      exact ⟨m i, vs, rfl, .inl (SqL.of q1), q2⟩
    · cases e'
  | _ => cases e
theorem itemsR_of (R : Rel K m h H) {i : Nat} {ds : List D} (e : items h (.ref i) = some ds) : i < h.n ∧ ∃ vs, H (m i) = some (.lst vs) ∧ RepL K H m h.n ds vs := by
  have e' : (match h.get i with
    | some (.lst ds) => some ds
    | _ => none) = some ds := e
  split at e'
  · rename_i es q0
    cases e'
    exact ⟨MH.get_lt q0, R.lst q0⟩
  · cases e'
end

/-- a dict of ours, or of the module -/
def DK (K : PySem.W.Frag) (H : Hp) (a : Addr) (ks : List (Key × V)) : Prop := Rd H a (.dK ks) ∨ RoD K a ks
section
variable {K : PySem.W.Frag} {m : Nat → Addr} {H : Hp} {h : MH}
theorem dkvs_of (R : Rel K m h H) {d : D} {v : V} {kvs : List (Key × D)} (r : RepV K H m h.n d v) (e : dkvs h d = some kvs) : ∃ a ks, v = .ref a ∧ DK K H a ks ∧ kvs.map (·.1) = ks.map (·.1) ∧ RepL K H m h.n (kvs.map (·.2)) (ks.map (·.2)) := by
  cases r with
  | @rod a ks kv vs ds h1 h2 h3 h4 =>
    cases e
    have hl : ks.length = ds.length := by rw [h4.length, ← h3, ← h2, List.length_map, List.length_map]
    obtain ⟨z1, z2⟩ := zip_maps hl
    exact ⟨a, kv, rfl, .inr h1, by rw [z1, h2], by rw [z2, h3]; exact h4⟩
  | @ref i hi =>
    have e' : (match h.get i with
      | some (.dK kvs) => some kvs
      | _ => none) = some kvs := e
    split at e'
    · rename_i es q0
      cases e'
      obtain ⟨ks, q1, q2, q3⟩ := R.obj i _ q0
      exact ⟨m i, ks, rfl, .inl (.inl q1), q3, q2⟩
    · cases e'
  | _ => cases e
theorem keyD_of {n : Nat} {d : D} {v : V} {k : Key} (r : RepV K H m n d v) (e : keyD d = some k) : v = kV k := by
  cases r <;> first | (cases e; rfl) | cases e
end
section
variable {X : Cx} {pins : List (Addr × Obj)} {σ : L2.St} {H : Hp} {s : Shared}
theorem dk_any {a : Addr} {ks : List (Key × V)} (I : Inv X pins σ H s) (e : DK X.K H a ks) : ks.length ≤ sizeLine ∧ (a == sysModules) = false ∧ ∃ vs, KV ks vs ∧ s.heap.DictOf (mixKind X.prog X.w) a vs := by
  rcases e with e | ⟨o, vs, hl, hs, hz, kv, hd⟩
  · exact dk_rd I.hok e
  · obtain ⟨es, ep, q⟩ := hd X.prog X.w
    exact ⟨hz, hs, vs, kv, o, es, ep, I.kIn _ _ hl, q⟩
def rIxD (K : PySem.W.Frag) : R2 := fun x y H Q => ∃ a ks k v, x = .ref a ∧ DK K H a ks ∧ y = kV k ∧ valV ks k = some v ∧ Q v H
theorem ix_dict : IxR X (rIxD X.K) := by
  intro value slice pins s σ H x y v u Q I rx ry h hs
  obtain ⟨a, ks, k, z, rfl, hd, rfl, hv, q⟩ := h
  cases rx
  obtain ⟨_, _, vs, rel, dd⟩ := dk_any I hd
  have hT : s.TypeIs (.ref a) "dict" := dd.typeIs
  obtain ⟨w', hw, rw'⟩ := RelO.some_of (v := z) (o := valueAt vs k) (by rw [← hv]; exact rel.val k)
  exact tail_any hT PySem.F.slot_dict_getitem.lookup (wpAny_getItem_of (kV_is ry) dd.mapOf hw ⟨z, H, I.tok _, rw', q⟩) hs
def rInK (K : PySem.W.Frag) (b : Bool) : R2 := fun x y H Q => ∃ a ks k, y = .ref a ∧ DK K H a ks ∧ x = kV k ∧ Q (.bl (if b then !(valV ks k).isSome else (valV ks k).isSome)) H
theorem op_inK : OpR X (compareOp .In) (rInK X.K false) := by
  intro pins s σ H x y v u Q I rx ry h
  obtain ⟨a, ks, k, rfl, hd, rfl, q⟩ := h
  cases ry
  obtain ⟨_, hs, vs, rel, dd⟩ := dk_any I hd
  refine wpAny_in_of (kV_is rx) hs dd.mapOf ?_
  rw [← (rel.val k).isSome_eq]
  exact ⟨.bl (valV ks k).isSome, H, I.tok _, rfl, q⟩
theorem op_notInK : OpR X (compareOp .NotIn) (rInK X.K true) := by
  intro pins s σ H x y v u Q I rx ry h
  obtain ⟨a, ks, k, rfl, hd, rfl, q⟩ := h
  cases ry
  obtain ⟨_, hs, vs, rel, dd⟩ := dk_any I hd
  refine wpAny_notIn_of (kV_is rx) hs dd.mapOf ?_
  rw [← (rel.val k).isSome_eq]
  exact ⟨.bl (!(valV ks k).isSome), H, I.tok _, rfl, q⟩
def rSetK : V → V → V → Hp → (Hp → Prop) → Prop := fun o i v H Q => ∃ a ks k, o = .ref a ∧ i = kV k ∧ H a = some (.dK ks) ∧ ks.length < sizeLine ∧ Q (upd H a (.dK (putK ks k v)))
theorem set_dict (hu : X.A.units + 1 < cLine) : PSet X rSetK := by
  intro pins s σ H o i v ov iv u Q I ro ri rv h
  obtain ⟨a, ks, k, rfl, rfl, ha, hl, q⟩ := h
  cases ro
  exact d_setItem hu I (DPut.k ha hl) ri rv fun s' I' => ⟨_, I', q⟩
end
section
variable {K : PySem.W.Frag} {T : XT} {W : WX} {σ : L2.St} {m : Nat → Addr} {H : Hp} {h : MH} {Q : VK} {X : Cx}
def oEq (K : PySem.W.Frag) : R2 := fun x y H Q => rEq x y H Q ∨ rEqD K x y H Q
theorem o_eq (hu : X.A.units + 64 < cLine) : OpR X (compareOp .Eq) (oEq X.K) := OpR.or op_eq (op_eqD hu)
def oNe (K : PySem.W.Frag) : R2 := fun x y H Q => rNe x y H Q ∨ rNeD K x y H Q
theorem o_ne (hu : X.A.units + 64 < cLine) : OpR X (compareOp .NotEq) (oNe X.K) := OpR.or op_ne (op_neD hu)
theorem pdEq_of {a b : D} {x y : V} {r : Bool} (R : Rel K m h H) (V1 : RepV K H m h.n a x) (V2 : RepV K H m h.n b y) (e : pdEq h a b = some r) : ∃ d e, Dp K H x d ∧ Dp K H y e ∧ SeqAt.shaped d = true ∧ SeqAt.shaped e = true ∧ PyData.eqv d e = r := by
  unfold pdEq at e
  split at e
  · rename_i p q e1 e2
    split at e
    · rename_i hs
      rw [Bool.and_eq_true] at hs
      cases e
      exact ⟨p, q, dp_of R _ V1 e1, dp_of R _ V2 e2, hs.1, hs.2, rfl⟩
    · cases e
  · cases e
theorem eqD_cases {a b : D} {r : Bool} (e : eqD h a b = some r) : (∃ x y, fv a = some x ∧ fv b = some y ∧ scal x y = true ∧ decide (x = y) = r) ∨ pdEq h a b = some r := by
  unfold eqD at e
  split at e
  · rename_i i j
    cases e
    exact .inl ⟨_, _, rfl, rfl, rfl, by simp⟩
  · rename_i i j
    cases e
    exact .inl ⟨_, _, rfl, rfl, rfl, by simp⟩
  · rename_i i j
    cases e
    exact .inl ⟨_, _, rfl, rfl, rfl, by simp⟩
  · cases e
    exact .inl ⟨_, _, rfl, rfl, rfl, by simp⟩
  · exact .inr e
theorem t_eq {a b : D} {x y : V} {r : Bool} (R : Rel K m h H) (V1 : RepV K H m h.n a x) (V2 : RepV K H m h.n b y) (e : eqD h a b = some r) (q : Q (.bl r) H) : oEq K x y H Q := by
  rcases eqD_cases e with ⟨x', y', e1, e2, s, er⟩ | e
  · obtain ⟨rfl, _⟩ := fv_of V1 e1
    obtain ⟨rfl, _⟩ := fv_of V2 e2
    exact .inl ⟨s, by rw [er]; exact q⟩
  · obtain ⟨d, e2, h1, h2, h3, h4, h5⟩ := pdEq_of R V1 V2 e
    exact .inr ⟨d, e2, h1, h2, h3, h4, by rw [h5]; exact q⟩
theorem t_ne {a b : D} {x y : V} {r : Bool} (R : Rel K m h H) (V1 : RepV K H m h.n a x) (V2 : RepV K H m h.n b y) (e : (eqD h a b).map (!·) = some r) (q : Q (.bl r) H) : oNe K x y H Q := by
  obtain ⟨r', e', rfl⟩ := Option.map_eq_some_iff.mp e
  rcases eqD_cases e' with ⟨x', y', e1, e2, s, er⟩ | e
  · obtain ⟨rfl, _⟩ := fv_of V1 e1
    obtain ⟨rfl, _⟩ := fv_of V2 e2
    exact .inl ⟨s, by rw [er]; exact q⟩
  · obtain ⟨d, e2, h1, h2, h3, h4, h5⟩ := pdEq_of R V1 V2 e
    exact .inr ⟨d, e2, h1, h2, h3, h4, by rw [h5]; exact q⟩
theorem isNon_of {n : Nat} {a : D} {x : V} (V1 : RepV K H m n a x) : decide (x = .non) = isNon a := by
  cases V1 <;> rfl
def oIn (K : PySem.W.Frag) : R2 := fun x y H Q => rInK K false x y H Q ∨ (rIn K false x y H Q ∨ rInD K x y H Q)
theorem o_in (hu : X.A.units + 65 < cLine) : OpR X (compareOp .In) (oIn X.K) := OpR.or op_inK (OpR.or op_in_seq (op_inD hu))
def oNotIn (K : PySem.W.Frag) : R2 := fun x y H Q => rInK K true x y H Q ∨ (rIn K true x y H Q ∨ rNotInD K x y H Q)
theorem o_notIn (hu : X.A.units + 65 < cLine) : OpR X (compareOp .NotIn) (oNotIn X.K) := OpR.or op_notInK (OpR.or op_notIn_seq (op_notInD hu))
theorem inD_of {a b : D} {x y : V} {r : Bool} (R : Rel K m h H) (V1 : RepV K H m h.n a x) (V2 : RepV K H m h.n b y) (e : inD h a b = some r) : (∃ p ks k, y = .ref p ∧ DK K H p ks ∧ x = kV k ∧ (valV ks k).isSome = r) ∨
    (∃ p xs, y = .ref p ∧ (SqL K H p xs ∨ SqT K H p xs) ∧ flatV x = true ∧ xs.all flatV = true ∧ inV x xs = r) ∨
      ∃ d ds, Dp K H x d ∧ Dp K H y (.list ds) ∧ SeqAt.shaped d = true ∧ SeqAt.shaped (.list ds) = true ∧ (ds.any fun z => PyData.eqv z d) = r := by
  unfold inD at e
  split at e
  · split at e
    · rename_i kvs k e1 e2
      cases e
      obtain ⟨a, ks, hy, hd, q1, q2⟩ := dkvs_of R V2 e1
      exact .inl ⟨a, ks, k, hy, hd, keyD_of V1 e2, (look_rel q1 q2).2.symm⟩
    · cases e
  · rename_i ds hi
    refine .inr ?_
    split at e
    · rename_i x' xs e1 e2
      cases e
      obtain ⟨p, vs, hy, hs, hr⟩ := items_of R V2 hi
      obtain ⟨rfl, f1⟩ := fv_of V1 e1
      obtain ⟨rfl, f2⟩ := fvs_of hr e2
      exact .inl ⟨p, vs, hy, hs, f1, f2, rfl⟩
    · split at e
      · rename_i i
        split at e
        · rename_i d es e1 e2
          split at e
          · rename_i hs
            rw [Bool.and_eq_true] at hs
            cases e
            obtain ⟨hi', vs, q1, q2⟩ := itemsR_of R hi
            cases V2
            exact .inr ⟨d, es, dp_of R _ V1 e1, .lst (SqL.of q1) (dps_of R q2 e2), hs.1, hs.2, rfl⟩
          · cases e
        · cases e
      · cases e
theorem t_in {a b : D} {x y : V} {r : Bool} (R : Rel K m h H) (V1 : RepV K H m h.n a x) (V2 : RepV K H m h.n b y) (e : inD h a b = some r) (q : Q (.bl r) H) : oIn K x y H Q := by
  rcases inD_of R V1 V2 e with ⟨p, ks, k, h1, h2, h3, h4⟩ | ⟨p, xs, h1, h2, h3, h4, h5⟩ | ⟨d, ds, h1, h2, h3, h4, h5⟩
  · exact .inl ⟨p, ks, k, h1, h2, h3, by simp only [Bool.false_eq_true, if_false]; rw [h4]; exact q⟩
  · exact .inr (.inl ⟨p, xs, h1, h2, h3, h4, by simp only [Bool.false_eq_true, if_false]; rw [h5]; exact q⟩)
  · refine .inr (.inr ?_)
    exact ⟨d, ds, h1, h2, h3, h4, by rw [h5]; exact q⟩
theorem t_notIn {a b : D} {x y : V} {r : Bool} (R : Rel K m h H) (V1 : RepV K H m h.n a x) (V2 : RepV K H m h.n b y) (e : (inD h a b).map (!·) = some r) (q : Q (.bl r) H) : oNotIn K x y H Q := by
  obtain ⟨r', e', rfl⟩ := Option.map_eq_some_iff.mp e
  rcases inD_of R V1 V2 e' with ⟨p, ks, k, h1, h2, h3, h4⟩ | ⟨p, xs, h1, h2, h3, h4, h5⟩ | ⟨d, ds, h1, h2, h3, h4, h5⟩
  · exact .inl ⟨p, ks, k, h1, h2, h3, by simp only [if_true]; rw [h4]; exact q⟩
  · exact .inr (.inl ⟨p, xs, h1, h2, h3, h4, by simp only [if_true]; rw [h5]; exact q⟩)
  · refine .inr (.inr ?_)
    exact ⟨d, ds, h1, h2, h3, h4, by rw [h5]; exact q⟩
/-- a comparison's rule, whichever it is -/
theorem o_cmp {op : CmpOp} {o : Cop} (hu : X.A.units + 65 < cLine) (e : copC op = some o) : ∃ rr : R2, OpR X (compareOp op) rr ∧
    ∀ {m : Nat → Addr} {H : Hp} {h : MH} {Q : VK} {a b : D} {x y : V} {r : Bool}, Rel X.K m h H → RepV X.K H m h.n a x → RepV X.K H m h.n b y → cmpD o a b h = some r → Q (.bl r) H → rr x y H Q := by
  have hu' : X.A.units + 64 < cLine := by omega
  have intsH : ∀ {c : Cop} {f : Int → Int → Bool}, (∀ (a b : D) (h : MH) (r : Bool), cmpD c a b h = some r → ∃ i j, a = .int i ∧ b = .int j ∧ f i j = r) →
      ∀ {m : Nat → Addr} {H : Hp} {h : MH} {Q : VK} {a b : D} {x y : V} {r : Bool}, Rel X.K m h H → RepV X.K H m h.n a x → RepV X.K H m h.n b y → cmpD c a b h = some r → Q (.bl r) H → (rI0 fun i j => .bl (f i j)) x y H Q := by
    intro c f hf m H h Q a b x y r R V1 V2 e q
    obtain ⟨i, j, rfl, rfl, rfl⟩ := hf a b h r e
    cases V1
    cases V2
    exact ⟨i, j, rfl, rfl, q⟩
  have nonsH : ∀ {c : Cop} {f : Bool → Bool}, (∀ (a b : D) (h : MH) (r : Bool), cmpD c a b h = some r → b = .non ∧ f (isNon a) = r) →
      ∀ {m : Nat → Addr} {H : Hp} {h : MH} {Q : VK} {a b : D} {x y : V} {r : Bool}, Rel X.K m h H → RepV X.K H m h.n a x → RepV X.K H m h.n b y → cmpD c a b h = some r → Q (.bl r) H → (fun x y H Q => y = V.non ∧ Q (.bl (f (decide (x = .non)))) H) x y H Q := by
    intro c f hf m H h Q a b x y r R V1 V2 e q
    obtain ⟨rfl, rfl⟩ := hf a b h r e
    cases V2
    exact ⟨rfl, by rw [isNon_of V1]; exact q⟩
  cases op with
  | Eq => cases e; exact ⟨_, o_eq hu', t_eq⟩
  | NotEq => cases e; exact ⟨_, o_ne hu', t_ne⟩
  | Lt => cases e; exact ⟨_, op_lt, intsH (fun a b h r e => by cases a <;> cases b <;> first | (cases e; exact ⟨_, _, rfl, rfl, rfl⟩) | cases e)⟩
  | LtE => cases e; exact ⟨_, op_le, intsH (fun a b h r e => by cases a <;> cases b <;> first | (cases e; exact ⟨_, _, rfl, rfl, rfl⟩) | cases e)⟩
  | Gt => cases e; exact ⟨_, op_gt, intsH (fun a b h r e => by cases a <;> cases b <;> first | (cases e; exact ⟨_, _, rfl, rfl, rfl⟩) | cases e)⟩
  | GtE => cases e; exact ⟨_, op_ge, intsH (fun a b h r e => by cases a <;> cases b <;> first | (cases e; exact ⟨_, _, rfl, rfl, rfl⟩) | cases e)⟩
  | Is => cases e; exact ⟨_, op_isN, nonsH (f := fun b => b) (fun a b h r e => by cases a <;> cases b <;> first | (cases e; exact ⟨rfl, rfl⟩) | cases e)⟩
  | IsNot => cases e; exact ⟨_, op_notN, nonsH (f := fun b => !b) (fun a b h r e => by cases a <;> cases b <;> first | (cases e; exact ⟨rfl, rfl⟩) | cases e)⟩
  | In => cases e; exact ⟨_, o_in hu, t_in⟩
  | NotIn => cases e; exact ⟨_, o_notIn hu, t_notIn⟩
theorem t_truth {a : D} {x : V} {r : Bool} (R : Rel K m h H) (V1 : RepV K H m h.n a x) (e : truth h a = some r) : TruV K x H r := by
  cases V1 with
  | non => cases e; rfl
  | bl b => cases e; rfl
  | int i => cases e; rfl
  | str s =>
    have e' : (if s.length ≤ sizeLine then some ((s.length : Int) != 0) else none) = some r := e
    split at e'
    · rename_i hl
      cases e'
      exact ⟨hl, rfl⟩
    · cases e'
  | @tup p vs ds h1 h2 => cases e; exact .inr (.inl ⟨vs, h1, by rw [h2.isEmpty]⟩)
  | @rol p vs ds h1 h2 => cases e; exact .inl ⟨vs, h1.l, by rw [h2.isEmpty]⟩
  | @ref i hi =>
    have e' : (match h.get i with
      | some (.lst ds) => some (!ds.isEmpty)
      | some (.dK kvs) => some (!kvs.isEmpty)
      | none => none) = some r := e
    split at e'
    · rename_i ds q0
      cases e'
      obtain ⟨vs, q1, q2⟩ := R.lst q0
      exact .inl ⟨vs, SqL.of q1, by rw [q2.isEmpty]⟩
    · rename_i kvs q0
      cases e'
      obtain ⟨ks, q1, q2, q3⟩ := R.obj i _ q0
      refine .inr (.inr ⟨ks, q1, ?_⟩)
      cases kvs <;> cases ks <;> first | rfl | cases q3
    · cases e'
  | rod _ _ _ _ => cases e
def rIxA (K : PySem.W.Frag) : R2 := fun x y H Q => rIx K x y H Q ∨ rIxD K x y H Q
theorem ixR_ok : IxR X (rIxA X.K) := IxR.or ix_seq ix_dict
theorem atI_of {n : Nat} {ds : List D} {vs : List V} {i : Int} {d : D} (r : RepL K H m n ds vs) (e : atI ds i = some d) : ∃ v, atI vs i = some v ∧ RepV K H m n d v := by
  unfold atI at e ⊢
  rw [← r.length]
  cases q : ixN ds.length i with
  | none => rw [q] at e; cases e
  | some j =>
    rw [q] at e
    exact r.get e
theorem t_ix {a b d : D} {x y : V} (R : Rel K m h H) (V1 : RepV K H m h.n a x) (V2 : RepV K H m h.n b y) (e : ixD h a b = some d) (q : ∀ v, RepV K H m h.n d v → Q v H) : rIxA K x y H Q := by
  unfold ixD at e
  split at e
  · rename_i s i
    cases V1
    cases V2
    split at e
    · rename_i hl
      split at e
      · rename_i c hc
        cases e
        refine .inl ?_
        exact .inr (.inr ⟨s, i, c, rfl, rfl, hl, hc, q _ (.str _)⟩)
      · cases e
    · cases e
  · rename_i i hne
    cases V2
    split at e
    · rename_i ds hi
      obtain ⟨p, vs, rfl, hs, hr⟩ := items_of R V1 hi
      obtain ⟨v, h1, h2⟩ := atI_of hr e
      refine .inl ?_
      rcases hs with hs | hs
      · exact .inl ⟨p, vs, i, v, rfl, rfl, hs, h1, q v h2⟩
      · exact .inr (.inl ⟨p, vs, i, v, rfl, rfl, hs, h1, q v h2⟩)
    · split at e
      · rename_i kvs hk
        obtain ⟨p, ks, rfl, hd, q1, q2⟩ := dkvs_of R V1 hk
        obtain ⟨v, h1, h2⟩ := (look_rel q1 q2).1 d e
        exact .inr ⟨p, ks, .inl i, v, rfl, hd, rfl, h1, q v h2⟩
      · cases e
  · cases V2
    split at e
    · rename_i kvs hk
      obtain ⟨p, ks, rfl, hd, q1, q2⟩ := dkvs_of R V1 hk
      obtain ⟨v, h1, h2⟩ := (look_rel q1 q2).1 d e
      exact .inr ⟨p, ks, .inr _, v, rfl, hd, rfl, h1, q v h2⟩
    · cases e
  · cases e
def rSl (K : PySem.W.Frag) : V → Option Int → Option Int → Hp → VK → Prop := fun x lo hi H Q => rSlA K x lo hi H Q ∨ rSlL K x lo hi H Q
theorem sl_ok : SlR X (rSl X.K) := SlR.or sl_tupA sl_list
theorem t_sl {a : D} {x : V} {lo hi : Option Int} (R : Rel K m h H) (V1 : RepV K H m h.n a x) (O : Out K T W σ (rV K) m h.n H (slD h a lo hi) Q) : rSl K x lo hi H Q := by
  cases V1 with
  | @tup p vs ds h1 h2 =>
    refine .inl ⟨p, vs, rfl, h1, fun e => ?_, fun _ q hq => ?_⟩
    · have z : cutD ds lo hi = ds := by
        unfold cutD
        rw [h2.length, e.1, e.2, Nat.sub_zero, List.drop_zero, ← h2.length, List.take_length]
      have O' : Out K T W σ (rV K) m h.n H (.ok (.tup (cutD ds lo hi)) h) Q := O
      rw [z] at O'
      exact O'.here R (.tup h1 h2)
    · have O' : Out K T W σ (rV K) m h.n H (.ok (.tup (cutD ds lo hi)) h) Q := O
      exact O' m _ _ (Ext.laid hq) (R.laid hq) (.tup (SqT.of upd_same) ((h2.cut lo hi).mono (Ext.laid hq)))
  | @rol p vs ds h1 h2 => exact .inr ⟨p, vs, rfl, h1.l, newL_ok (d := .lst []) R (h2.cut lo hi) O⟩
  | @ref i hi' =>
    have O' : Out K T W σ (rV K) m h.n H (match h.get i with
      | some (.lst ds) => .ok (.ref h.n) (h.new (.lst (cutD ds lo hi)))
      | _ => .bad) Q := O
    split at O'
    · rename_i ds q0
      obtain ⟨vs, q1, q2⟩ := R.lst q0
      exact .inr ⟨m i, vs, rfl, SqL.of q1, newL_ok (d := .lst []) R (q2.cut lo hi) O'⟩
    · exact O'.elim
  | _ => exact False.elim O
def tyN : Ty → String
  | .int => "int"
  | .bool => "bool"
  | .str => "str"
  | .tuple => "tuple"
  | .list => "list"
  | .dict => "dict"
theorem ty_of {a : D} {x : V} {t : Ty} {r : Bool} (R : Rel K m h H) (V1 : RepV K H m h.n a x) (e : isiD t a h = some r) : ∃ u : String, TyX K H x (.type u) ∧ kitB u (tyN t) = some r := by
  cases V1 with
  | non => cases t <;> (cases e; exact ⟨"NoneType", .base .non, by decide +kernel⟩)
  | bl b => cases t <;> (cases e; exact ⟨"bool", .base (.bl b), by decide +kernel⟩)
  | int b => cases t <;> (cases e; exact ⟨"int", .base (.int b), by decide +kernel⟩)
  | str b => cases t <;> (cases e; exact ⟨"str", .base (.str b), by decide +kernel⟩)
  | @tup p vs ds h1 h2 =>
    have z : TyX K H (.ref p) (.type "tuple") := by
      rcases h1 with (h1 | ⟨o, h1⟩) | ⟨o, its, n, k1, k2, _⟩
      · exact .base (.tup h1)
      · exact .fTuple h1
      · exact .kTuple k1 k2
    cases t <;> (cases e; exact ⟨"tuple", z, by decide +kernel⟩)
  | @rol p vs ds h1 h2 =>
    have z : TyX K H (.ref p) (.type "list") := by
      rcases h1 with ⟨o, h1⟩ | ⟨o, its, n, k1, k2, _⟩
      · exact .base (.frz h1)
      · exact .kList k1 k2
    cases t <;> (cases e; exact ⟨"list", z, by decide +kernel⟩)
  | rod _ _ _ _ => cases t <;> cases e
  | @ref i hi =>
    cases q : h.get i with
    | none => cases t <;> (simp only [isiD, q] at e; cases e)
    | some o =>
      cases o with
      | lst ds =>
        obtain ⟨vs, q1, q2⟩ := R.lst q
        cases t <;> (simp only [isiD, q] at e; cases e; exact ⟨"list", .base (.lst q1), by decide +kernel⟩)
      | dK kvs =>
        obtain ⟨ks, q1, _⟩ := R.obj i _ q
        cases t <;> (simp only [isiD, q] at e; cases e; exact ⟨"dict", .base (.dK q1), by decide +kernel⟩)
end
end MP
namespace MP
open PySem PySem.Spec PyProof.Rows L2
section
variable {K : PySem.W.Frag} {m : Nat → Addr} {H : Hp} {h : MH}
theorem ints_of {n : Nat} : ∀ {ds : List D} {vs : List V} {ns : List Int}, RepL K H m n ds vs → mapO asInt ds = some ns → vs = ns.map V.int := by
  intro ds
  induction ds with
  | nil => intro vs ns r e; cases r; rw [mapO_nil e]; rfl
  | cons d ds ih =>
    intro vs ns r e
    cases r with
    | cons r1 r2 =>
      obtain ⟨y, zs, rfl, q1, q2⟩ := mapO_cons e
      cases r1 <;> first | (cases q1; rw [ih r2 q2]; rfl) | cases q1
theorem bls_of {n : Nat} : ∀ {ds : List D} {vs : List V} {ns : List Bool}, RepL K H m n ds vs → mapO asBl ds = some ns → vs = ns.map V.bl := by
  intro ds
  induction ds with
  | nil => intro vs ns r e; cases r; rw [mapO_nil e]; rfl
  | cons d ds ih =>
    intro vs ns r e
    cases r with
    | cons r1 r2 =>
      obtain ⟨y, zs, rfl, q1, q2⟩ := mapO_cons e
      cases r1 <;> first | (cases q1; rw [ih r2 q2]; rfl) | cases q1
theorem maxF (xs : List Int) : ∀ x : Int, (xs.foldl (fun a b => if b > a then b else a) x = x ∨ xs.foldl (fun a b => if b > a then b else a) x ∈ xs) ∧ x ≤ xs.foldl (fun a b => if b > a then b else a) x ∧ ∀ y ∈ xs, y ≤ xs.foldl (fun a b => if b > a then b else a) x := by
  induction xs with
  | nil => intro x; exact ⟨.inl rfl, Int.le_refl _, fun y hy => by cases hy⟩
  | cons z xs ih =>
    intro x
    obtain ⟨h1, h2, h3⟩ := ih (if z > x then z else x)
    rw [List.foldl_cons]
    refine ⟨?_, ?_, fun y hy => ?_⟩
    · rcases h1 with h1 | h1
      · rw [h1]
        split
        · exact .inr (List.mem_cons_self ..)
        · exact .inl rfl
      · exact .inr (List.mem_cons_of_mem _ h1)
    · refine Int.le_trans ?_ h2
      split <;> omega
    · rcases List.mem_cons.mp hy with e | hy
      · subst e
        refine Int.le_trans ?_ h2
        split <;> omega
      · exact h3 y hy
theorem maxI_ok {ns : List Int} {k j : Int} (e : maxI ns = some k) (h1 : j ∈ ns) (h2 : ∀ y, y ∈ ns → y ≤ j) : j = k := by
  cases ns with
  | nil => cases e
  | cons x xs =>
    have e' : xs.foldl (fun a b => if b > a then b else a) x = k := Option.some.inj e
    obtain ⟨q1, q2, q3⟩ := maxF xs x
    rw [e'] at q1 q2 q3
    have m1 : k ∈ x :: xs := by
      rcases q1 with q | q
      · rw [q]; exact List.mem_cons_self ..
      · exact List.mem_cons_of_mem _ q
    have := h2 k m1
    have : j ≤ k := by
      rcases List.mem_cons.mp h1 with e | e
      · omega
      · exact q3 j e
    omega
theorem RepL.one {n : Nat} {d : D} {vs : List V} (r : RepL K H m n [d] vs) : ∃ v, vs = [v] ∧ RepV K H m n d v := by
  cases r with
  | cons r1 r2 => cases r2; exact ⟨_, rfl, r1⟩
theorem RepL.two {n : Nat} {d e : D} {vs : List V} (r : RepL K H m n [d, e] vs) : ∃ v w, vs = [v, w] ∧ RepV K H m n d v ∧ RepV K H m n e w := by
  cases r with
  | cons r1 r2 =>
    obtain ⟨w, rfl, r3⟩ := r2.one
    exact ⟨_, w, rfl, r1, r3⟩
end
def biF : Bi → Value
  | .len => .builtin "len"
  | .int => .type "int"
  | .abs => .builtin "abs"
  | .max => .builtin "max"
  | .min => .builtin "min"
  | .tuple => .type "tuple"
  | .list => .type "list"
  | .sum => .builtin "sum"
  | .all => .builtin "all"
  | .any => .builtin "any"
  | .repr => .builtin "repr"
abbrev RL := List V → Hp → VK → Prop
/-- what a built-in's rule must answer -/
def BiT (K : PySem.W.Frag) (b : Bi) (rr : RL) : Prop := ∀ {T : XT} {W : WX} {σ : L2.St} {m : Nat → Addr} {H : Hp} {h : MH} {Q : VK} {ds : List D} {vs : List V},
  Rel K m h H → RepL K H m h.n ds vs → Out K T W σ (rV K) m h.n H (biD b ds h) Q → rr vs H Q
section
variable {K : PySem.W.Frag} {X : Cx}
theorem bad_of {α β : Type} {T : XT} {W : WX} {σ : L2.St} {rep : RepT α β} {m : Nat → Addr} {H : Hp} {n : Nat} {Q : β → Hp → Prop} {P : Prop} {r : Res α} (e : r = .bad) (O : Out K T W σ rep m n H r Q) : P := by
  subst e; exact O.elim
theorem biD_two {b : Bi} {x y : D} {ds : List D} {h : MH} (hb : (match b with | .max => false | .min => false | _ => true) = true) : biD b (x :: y :: ds) h = .bad := by
  cases b <;> first | contradiction | (cases x <;> rfl)
def rLenA (K : PySem.W.Frag) : RL := fun xs H Q => (∃ x n, xs = [x] ∧ LenV K x H n ∧ Q (.int n) H) ∨ ∃ a kvs, xs = [V.ref a] ∧ H a = some (.dK kvs) ∧ Q (.int kvs.length) H
theorem cr_lenD : CallR X (.builtin "len") (fun xs H Q => ∃ a kvs, xs = [V.ref a] ∧ H a = some (.dK kvs) ∧ Q (.int kvs.length) H) := by
  intro pins s σ H xs us Q I r h
  obtain ⟨a, kvs, rfl, ha, q⟩ := h
  obtain ⟨u, rfl, ru⟩ := vals1 r
  cases ru
  exact d_len I (.inl ha) fun t s' I' => ⟨.int kvs.length, H, I', ⟨t, rfl⟩, q⟩
theorem t_len : BiT K .len (rLenA K) := by
  intro T W σ m H h Q ds vs R rl O
  match ds, rl, O with
  | [.tup es], rl, O =>
    obtain ⟨v, rfl, r1⟩ := rl.one
    cases r1 with
    | tup h1 h2 => exact .inl ⟨_, _, rfl, .inr ⟨_, h1, h2.length⟩, O.here R (.int _)⟩
  | [.rol es], rl, O =>
    obtain ⟨v, rfl, r1⟩ := rl.one
    cases r1 with
    | rol h1 h2 => exact .inl ⟨_, _, rfl, .inl ⟨_, h1.l, h2.length⟩, O.here R (.int _)⟩
  | [.str s], rl, O =>
    obtain ⟨v, rfl, r1⟩ := rl.one
    cases r1
    have O' : Out K T W σ (rV K) m h.n H (if s.length ≤ sizeLine then .ok (.int s.length) h else .bad) Q := O
    split at O'
    · rename_i hl
      exact .inl ⟨_, _, rfl, ⟨hl, rfl⟩, O'.here R (.int _)⟩
    · exact O'.elim
  | [.ref i], rl, O =>
    obtain ⟨v, rfl, r1⟩ := rl.one
    cases r1
    have O' : Out K T W σ (rV K) m h.n H (match h.get i with
      | some (.lst ds) => .ok (.int ds.length) h
      | some (.dK kvs) => .ok (.int kvs.length) h
      | none => .bad) Q := O
    split at O'
    · rename_i es q0
      obtain ⟨ws, q1, q2⟩ := R.lst q0
      exact .inl ⟨_, _, rfl, .inl ⟨_, SqL.of q1, q2.length⟩, O'.here R (.int _)⟩
    · rename_i kvs q0
      obtain ⟨ks, q1, q2, q3⟩ := R.obj i _ q0
      have hl : ks.length = kvs.length := by
        have := congrArg List.length q3
        simpa using this.symm
      exact .inr ⟨_, ks, rfl, q1, by rw [hl]; exact O'.here R (.int _)⟩
    · exact O'.elim
  | [], _, O => exact O.elim
  | [.rod _ _], _, O => exact O.elim
  | [.non], _, O => exact O.elim
  | [.bl _], _, O => exact O.elim
  | [.int _], _, O => exact O.elim
  | _ :: _ :: _, _, O => exact bad_of (biD_two (by decide)) O
theorem t_int : BiT K .int (fun xs H Q => (∃ i, xs = [.int i] ∧ Q (.int i) H) ∨ ∃ k, xs = [.bl k] ∧ Q (.int (if k then 1 else 0)) H) := by
  intro T W σ m H h Q ds vs R rl O
  match ds, rl, O with
  | [.int i], rl, O =>
    obtain ⟨v, rfl, r1⟩ := rl.one
    cases r1
    exact .inl ⟨_, rfl, O.here R (.int _)⟩
  | [.bl i], rl, O =>
    obtain ⟨v, rfl, r1⟩ := rl.one
    cases r1
    exact .inr ⟨_, rfl, O.here R (.int _)⟩
  | [], _, O => exact O.elim
  | [.non], _, O => exact O.elim
  | [.str _], _, O => exact O.elim
  | [.tup _], _, O => exact O.elim
  | [.rol _], _, O => exact O.elim
  | [.ref _], _, O => exact O.elim
  | [.rod _ _], _, O => exact O.elim
  | _ :: _ :: _, _, O => exact bad_of (biD_two (by decide)) O
theorem t_abs : BiT K .abs (fun xs H Q => ∃ i, xs = [.int i] ∧ Q (.int (if i < 0 then -i else i)) H) := by
  intro T W σ m H h Q ds vs R rl O
  match ds, rl, O with
  | [.int i], rl, O =>
    obtain ⟨v, rfl, r1⟩ := rl.one
    cases r1
    exact ⟨_, rfl, O.here R (.int _)⟩
  | [], _, O => exact O.elim
  | [.bl _], _, O => exact O.elim
  | [.non], _, O => exact O.elim
  | [.str _], _, O => exact O.elim
  | [.tup _], _, O => exact O.elim
  | [.rol _], _, O => exact O.elim
  | [.ref _], _, O => exact O.elim
  | [.rod _ _], _, O => exact O.elim
  | _ :: _ :: _, _, O => exact bad_of (biD_two (by decide)) O
theorem biD2 {b : Bi} {ds : List D} {h : MH} (hb : b = .max ∨ b = .min) : biD b ds h = .bad ∨ (∃ i j, ds = [.int i, .int j]) ∨ ∃ i, ds = [.ref i] := by
  rcases hb with rfl | rfl
  · unfold biD
    split <;> first | contradiction | exact .inl rfl | exact .inr (.inl ⟨_, _, rfl⟩) | exact .inr (.inr ⟨_, rfl⟩)
  · unfold biD
    split <;> first | contradiction | exact .inl rfl | exact .inr (.inl ⟨_, _, rfl⟩) | exact .inr (.inr ⟨_, rfl⟩)
theorem t_max : BiT K .max (fun xs H Q => (∃ i j, xs = [.int i, .int j] ∧ Q (.int (if j > i then j else i)) H) ∨ rMax K xs H Q) := by
  intro T W σ m H h Q ds vs R rl O
  rcases biD2 (b := .max) (ds := ds) (h := h) (.inl rfl) with e | ⟨i, j, rfl⟩ | ⟨i, rfl⟩
  · exact bad_of e O
  · obtain ⟨v, w, rfl, r1, r2⟩ := rl.two
    cases r1
    cases r2
    exact .inl ⟨_, _, rfl, O.here R (.int _)⟩
  · obtain ⟨v, rfl, r1⟩ := rl.one
    cases r1
    have O' : Out K T W σ (rV K) m h.n H (match items h (.ref i) with
      | some ds => (match mapO asInt ds with
        | some ns => (match maxI ns with
          | some m => .ok (.int m) h
          | none => .bad)
        | none => .bad)
      | none => .bad) Q := O
    split at O'
    · rename_i es e1
      split at O'
      · rename_i ns e2
        split at O'
        · rename_i k e3
          obtain ⟨_, ws, q1, q2⟩ := itemsR_of R e1
          rw [ints_of q2 e2] at q1
          refine .inr ⟨_, ns, rfl, SqL.of q1, ?_, fun j hj hm => ?_⟩
          · cases ns with
            | nil => cases e3
            | cons _ _ => exact Nat.succ_pos _
          · rw [maxI_ok e3 hj hm]
            exact O'.here R (.int _)
        · exact O'.elim
      · exact O'.elim
    · exact O'.elim
theorem t_min : BiT K .min (fun xs H Q => ∃ i j, xs = [.int i, .int j] ∧ Q (.int (if j < i then j else i)) H) := by
  intro T W σ m H h Q ds vs R rl O
  rcases biD2 (b := .min) (ds := ds) (h := h) (.inr rfl) with e | ⟨i, j, rfl⟩ | ⟨i, rfl⟩
  · exact bad_of e O
  · obtain ⟨v, w, rfl, r1, r2⟩ := rl.two
    cases r1
    cases r2
    exact ⟨_, _, rfl, O.here R (.int _)⟩
  · exact O.elim
theorem t_tuple : BiT K .tuple (fun xs H Q => ∃ p ys, xs = [.ref p] ∧ ((SqL K H p ys ∧ ∀ l, H l = none → Q (.ref l) (upd H l (.tup ys))) ∨ (SqT K H p ys ∧ Q (.ref p) H))) := by
  intro T W σ m H h Q ds vs R rl O
  match ds, rl, O with
  | [.tup es], rl, O =>
    obtain ⟨v, rfl, r1⟩ := rl.one
    cases r1 with
    | tup h1 h2 => exact ⟨_, _, rfl, .inr ⟨h1, O.here R (.tup h1 h2)⟩⟩
  | [.rol es], rl, O =>
    obtain ⟨v, rfl, r1⟩ := rl.one
    cases r1 with
    | rol h1 h2 => exact ⟨_, _, rfl, .inl ⟨h1.l, fun l hl => O m _ _ (Ext.laid hl) (R.laid hl) (.tup (SqT.of upd_same) (h2.mono (Ext.laid hl)))⟩⟩
  | [.ref i], rl, O =>
    obtain ⟨v, rfl, r1⟩ := rl.one
    cases r1
    have O' : Out K T W σ (rV K) m h.n H (match h.get i with
      | some (.lst ds) => .ok (.tup ds) h
      | _ => .bad) Q := O
    split at O'
    · rename_i es q0
      obtain ⟨ws, q1, q2⟩ := R.lst q0
      exact ⟨_, _, rfl, .inl ⟨SqL.of q1, fun l hl => O' m _ _ (Ext.laid hl) (R.laid hl) (.tup (SqT.of upd_same) (q2.mono (Ext.laid hl)))⟩⟩
    · exact O'.elim
  | [], _, O => exact O.elim
  | [.non], _, O => exact O.elim
  | [.bl _], _, O => exact O.elim
  | [.int _], _, O => exact O.elim
  | [.str _], _, O => exact O.elim
  | [.rod _ _], _, O => exact O.elim
  | _ :: _ :: _, _, O => exact bad_of (biD_two (by decide)) O
theorem t_list : BiT K .list (fun xs H Q => ∃ p ys, xs = [.ref p] ∧ (SqL K H p ys ∨ SqT K H p ys) ∧ ∀ l, H l = none → Q (.ref l) (upd H l (.lst ys))) := by
  intro T W σ m H h Q ds vs R rl O
  match ds, rl, O with
  | [.tup es], rl, O =>
    obtain ⟨v, rfl, r1⟩ := rl.one
    cases r1 with
    | tup h1 h2 => exact ⟨_, _, rfl, .inr h1, newL_ok (d := .lst []) R h2 O⟩
  | [.rol es], rl, O =>
    obtain ⟨v, rfl, r1⟩ := rl.one
    cases r1 with
    | rol h1 h2 => exact ⟨_, _, rfl, .inl h1.l, newL_ok (d := .lst []) R h2 O⟩
  | [.ref i], rl, O =>
    obtain ⟨v, rfl, r1⟩ := rl.one
    cases r1
    have O' : Out K T W σ (rV K) m h.n H (match h.get i with
      | some (.lst ds) => .ok (.ref h.n) (h.new (.lst ds))
      | _ => .bad) Q := O
    split at O'
    · rename_i es q0
      obtain ⟨ws, q1, q2⟩ := R.lst q0
      exact ⟨_, _, rfl, .inl (SqL.of q1), newL_ok (d := .lst []) R q2 O'⟩
    · exact O'.elim
  | [], _, O => exact O.elim
  | [.non], _, O => exact O.elim
  | [.bl _], _, O => exact O.elim
  | [.int _], _, O => exact O.elim
  | [.str _], _, O => exact O.elim
  | [.rod _ _], _, O => exact O.elim
  | _ :: _ :: _, _, O => exact bad_of (biD_two (by decide)) O
theorem biDr {b : Bi} {ds : List D} {h : MH} (hb : b = .sum ∨ b = .all ∨ b = .any) : biD b ds h = .bad ∨ ∃ i, ds = [.ref i] := by
  rcases hb with rfl | rfl | rfl <;> unfold biD <;> split <;> first | contradiction | exact .inl rfl | exact .inr ⟨_, rfl⟩
theorem t_sum : BiT K .sum (rSum K) := by
  intro T W σ m H h Q ds vs R rl O
  rcases biDr (b := .sum) (ds := ds) (h := h) (.inl rfl) with e | ⟨i, rfl⟩
  · exact bad_of e O
  · obtain ⟨v, rfl, r1⟩ := rl.one
    cases r1
    have O' : Out K T W σ (rV K) m h.n H (match items h (.ref i) with
      | some ds => (match mapO asInt ds with
        | some ns => .ok (.int ns.sum) h
        | none => .bad)
      | none => .bad) Q := O
    split at O'
    · rename_i es e1
      split at O'
      · rename_i ns e2
        obtain ⟨_, ws, q1, q2⟩ := itemsR_of R e1
        rw [ints_of q2 e2] at q1
        exact ⟨_, ns, rfl, SqL.of q1, O'.here R (.int _)⟩
      · exact O'.elim
    · exact O'.elim
theorem t_all : BiT K .all (rAll K) := by
  intro T W σ m H h Q ds vs R rl O
  rcases biDr (b := .all) (ds := ds) (h := h) (.inr (.inl rfl)) with e | ⟨i, rfl⟩
  · exact bad_of e O
  · obtain ⟨v, rfl, r1⟩ := rl.one
    cases r1
    have O' : Out K T W σ (rV K) m h.n H (match items h (.ref i) with
      | some ds => (match mapO asBl ds with
        | some bs => .ok (.bl (bs.all id)) h
        | none => .bad)
      | none => .bad) Q := O
    split at O'
    · rename_i es e1
      split at O'
      · rename_i ns e2
        obtain ⟨_, ws, q1, q2⟩ := itemsR_of R e1
        rw [bls_of q2 e2] at q1
        exact ⟨_, ns, rfl, SqL.of q1, O'.here R (.bl _)⟩
      · exact O'.elim
    · exact O'.elim
theorem t_any : BiT K .any (rAny K) := by
  intro T W σ m H h Q ds vs R rl O
  rcases biDr (b := .any) (ds := ds) (h := h) (.inr (.inr rfl)) with e | ⟨i, rfl⟩
  · exact bad_of e O
  · obtain ⟨v, rfl, r1⟩ := rl.one
    cases r1
    have O' : Out K T W σ (rV K) m h.n H (match items h (.ref i) with
      | some ds => (match mapO asBl ds with
        | some bs => .ok (.bl (bs.any id)) h
        | none => .bad)
      | none => .bad) Q := O
    split at O'
    · rename_i es e1
      split at O'
      · rename_i ns e2
        obtain ⟨_, ws, q1, q2⟩ := itemsR_of R e1
        rw [bls_of q2 e2] at q1
        exact ⟨_, ns, rfl, SqL.of q1, O'.here R (.bl _)⟩
      · exact O'.elim
    · exact O'.elim
def rRepr (K : PySem.W.Frag) : RL := fun xs H Q => ∃ x d, xs = [x] ∧ Dp K H x d ∧ d.showable = true ∧ d.hasDict = false ∧ d.depth ≤ 100 ∧ d.shown.length ≤ sizeLine ∧ Q (.str d.shown) H
theorem cr_repr (gd : X.A.guards = some []) (hu : X.A.units + 102 < cLine) : CallR X (.builtin "repr") (rRepr X.K) := by
  intro pins s σ H vs us Q I r h
  obtain ⟨x, d, rfl, hd, h1, h2, h3, h4, q⟩ := h
  cases hd with
  | non =>
    obtain ⟨u, rfl, ru⟩ := vals1 r
    cases ru
    exact PySem.P.repr_of_none ⟨.str "None", H, I.tok _, ⟨_, rfl⟩, q⟩
  | bl b =>
    obtain ⟨u, rfl, ru⟩ := vals1 r
    cases ru
    exact PySem.P.repr_of_bool ⟨.str _, H, I.tok _, ⟨_, rfl⟩, q⟩
  | int i =>
    obtain ⟨u, rfl, t, rfl⟩ := vals1 r
    exact PySem.P.repr_of_int (of_decide_eq_true h1) ⟨.str _, H, I.tok _, ⟨_, rfl⟩, q⟩
  | str y =>
    obtain ⟨u, rfl, t, rfl⟩ := vals1 r
    exact PySem.P.repr_of_str ⟨.str _, H, I.tok _, ⟨_, rfl⟩, q⟩ h4
  | lst a b =>
    rw [Vals.ref1 r]
    obtain ⟨as, rr⟩ := Dp.reads I _ _ _ (.lst a b) rfl
    exact PySem.repr_of_reads' rr h1 (PySem.PyData.noDict_hsm h2) gd (by omega) (fun _ _ e => e) (fun h' u tk hk => ⟨.str _, H, I.kept hk, ⟨_, rfl⟩, q⟩) h4
  | tup a b =>
    rw [Vals.ref1 r]
    obtain ⟨as, rr⟩ := Dp.reads I _ _ _ (.tup a b) rfl
    exact PySem.repr_of_reads' rr h1 (PySem.PyData.noDict_hsm h2) gd (by omega) (fun _ _ e => e) (fun h' u tk hk => ⟨.str _, H, I.kept hk, ⟨_, rfl⟩, q⟩) h4
theorem t_repr : BiT K .repr (rRepr K) := by
  intro T W σ m H h Q ds vs R rl O
  have z : biD .repr ds h = .bad ∨ ∃ d, ds = [d] := by
    match ds with
    | [] => exact .inl rfl
    | [d] => exact .inr ⟨d, rfl⟩
    | _ :: _ :: _ => exact .inl (biD_two (by decide))
  rcases z with e | ⟨d, rfl⟩
  · exact bad_of e O
  · obtain ⟨v, rfl, r1⟩ := rl.one
    have e0 : biD .repr [d] h = (match reprD h d with
      | some s => .ok (.str s) h
      | none => .bad) := by cases d <;> rfl
    rw [e0] at O
    split at O
    · rename_i s hs
      unfold reprD at hs
      split at hs
      · rename_i p hp
        split at hs
        · rename_i hh
          cases hs
          exact ⟨v, p, rfl, dp_of R _ r1 hp, hh.1, hh.2.1, hh.2.2.1, hh.2.2.2, O.here R (.str _)⟩
        · cases hs
      · cases hs
    · exact O.elim
/-- a built-in's rule, whichever it is -/
theorem o_bi (hc : X.calm = true) (gd : X.A.guards = some []) (hu : X.A.units + 102 < cLine) (b : Bi) : ∃ rr : RL, CallR X (biF b) rr ∧ BiT X.K b rr := by
  cases b with
  | len => exact ⟨_, CallR.or call_len cr_lenD, t_len⟩
  | int => exact ⟨_, call_int1, t_int⟩
  | abs => exact ⟨_, call_abs, t_abs⟩
  | max => exact ⟨_, CallR.or (call_max2 hc) (cr_max hc), t_max⟩
  | min => exact ⟨_, call_min2 hc, t_min⟩
  | tuple => exact ⟨_, call_tuple_of, t_tuple⟩
  | list => exact ⟨_, call_list_of, t_list⟩
  | sum => exact ⟨_, cr_sum hc, t_sum⟩
  | all => exact ⟨_, cr_all hc, t_all⟩
  | any => exact ⟨_, cr_any hc, t_any⟩
  | repr => exact ⟨_, cr_repr gd hu, t_repr⟩
def MeT (K : PySem.W.Frag) (k : Me) (rr : V → List V → Hp → VK → Prop) : Prop := ∀ {T : XT} {W : WX} {σ : L2.St} {m : Nat → Addr} {H : Hp} {h : MH} {Q : VK} {d : D} {ds : List D} {v : V} {vs : List V},
  Rel K m h H → RepV K H m h.n d v → RepL K H m h.n ds vs → Out K T W σ (rV K) m h.n H (meD k d ds h) Q → rr v vs H Q
theorem t_append : MeT K .append rAppend := by
  intro T W σ m H h Q d ds v vs R r1 rl O
  have z : meD .append d ds h = .bad ∨ ∃ i e, d = .ref i ∧ ds = [e] := by
    unfold meD
    split <;> first | contradiction | exact .inl rfl | exact .inr ⟨_, _, rfl, rfl⟩
  rcases z with e | ⟨i, e, rfl, rfl⟩
  · exact bad_of e O
  · obtain ⟨w, rfl, r2⟩ := rl.one
    cases r1
    have O' : Out K T W σ (rV K) m h.n H (match h.get i with
      | some (.lst ds) => if ds.length < sizeLine then .ok .non (h.put i (.lst (ds ++ [e]))) else .bad
      | _ => .bad) Q := O
    split at O'
    · rename_i es q0
      split at O'
      · rename_i hl
        obtain ⟨ws, q1, q2⟩ := R.lst q0
        have x := Ext.put (K := K) (m := m) (n := h.n) (o := .lst (ws ++ [w])) (MH.get_lt q0) q1 (fun _ z => by cases z) (fun _ _ z => by cases z)
        exact ⟨m i, ws, w, rfl, rfl, q1, by rw [← q2.length]; exact hl, O' m _ _ x (R.put q0 q1 (fun _ z => by cases z) (fun _ _ z => by cases z) ⟨_, upd_same, (q2.append (.cons r2 .nil)).mono x⟩) .non⟩
      · exact O'.elim
    · exact O'.elim
theorem t_pop : MeT K .pop rPop := by
  intro T W σ m H h Q d ds v vs R r1 rl O
  have z : meD .pop d ds h = .bad ∨ ∃ i, d = .ref i ∧ ds = [] := by
    unfold meD
    split <;> first | contradiction | exact .inl rfl | exact .inr ⟨_, rfl, rfl⟩
  rcases z with e | ⟨i, rfl, rfl⟩
  · exact bad_of e O
  · cases rl
    cases r1
    have O' : Out K T W σ (rV K) m h.n H (match h.get i with
      | some (.lst ds) => (match ds[ds.length - 1]? with
        | some d => .ok d (h.put i (.lst ds.dropLast))
        | none => .bad)
      | _ => .bad) Q := O
    split at O'
    · rename_i es q0
      split at O'
      · rename_i e he
        obtain ⟨ws, q1, q2⟩ := R.lst q0
        obtain ⟨w, w1, w2⟩ := q2.get he
        have x := Ext.put (K := K) (m := m) (n := h.n) (o := .lst ws.dropLast) (MH.get_lt q0) q1 (fun _ z => by cases z) (fun _ _ z => by cases z)
        exact ⟨m i, ws, w, rfl, rfl, q1, by rw [← q2.length]; exact w1, O' m _ _ x (R.put q0 q1 (fun _ z => by cases z) (fun _ _ z => by cases z) ⟨_, upd_same, q2.dropLast.mono x⟩) (w2.mono x)⟩
      · exact O'.elim
    · exact O'.elim
theorem t_extend : MeT K .extend rExtend := by
  intro T W σ m H h Q d ds v vs R r1 rl O
  have z : meD .extend d ds h = .bad ∨ ∃ i j, d = .ref i ∧ ds = [.ref j] := by
    unfold meD
    split <;> first | contradiction | exact .inl rfl | exact .inr ⟨_, _, rfl, rfl⟩
  rcases z with e | ⟨i, j, rfl, rfl⟩
  · exact bad_of e O
  · obtain ⟨w, rfl, r2⟩ := rl.one
    cases r1
    cases r2
    have O' : Out K T W σ (rV K) m h.n H (match h.get i, h.get j with
      | some (.lst ds), some (.lst es) => if ds.length + es.length ≤ sizeLine then .ok .non (h.put i (.lst (ds ++ es))) else .bad
      | _, _ => .bad) Q := O
    split at O'
    · rename_i es fs q0 q0'
      split at O'
      · rename_i hl
        obtain ⟨ws, q1, q2⟩ := R.lst q0
        obtain ⟨zs, q3, q4⟩ := R.lst q0'
        have x := Ext.put (K := K) (m := m) (n := h.n) (o := .lst (ws ++ zs)) (MH.get_lt q0) q1 (fun _ z => by cases z) (fun _ _ z => by cases z)
        exact ⟨m i, m j, ws, zs, rfl, rfl, q1, q3, by rw [← q2.length, ← q4.length]; exact hl, O' m _ _ x (R.put q0 q1 (fun _ z => by cases z) (fun _ _ z => by cases z) ⟨_, upd_same, (q2.append q4).mono x⟩) .non⟩
      · exact O'.elim
    · exact O'.elim
theorem meD_ref {k : Me} {d : D} {ds : List D} {h : MH} (hb : k = .append ∨ k = .pop ∨ k = .extend) : meD k d ds h = .bad ∨ ∃ i es, d = .ref i ∧ h.get i = some (.lst es) := by
  have z : ∀ k d ds h, meD k d ds h = .bad ∨ ∃ i es, d = .ref i ∧ h.get i = some (.lst es) := by
    intro k d ds h
    unfold meD
    split
    · split
      · exact .inr ⟨_, _, rfl, by assumption⟩
      · exact .inl rfl
    · split
      · exact .inr ⟨_, _, rfl, by assumption⟩
      · exact .inl rfl
    · split
      · exact .inr ⟨_, _, rfl, by assumption⟩
      · exact .inl rfl
    · exact .inl rfl
  exact z k d ds h
end
end MP
namespace MP
open PySem PySem.Spec PyProof.Rows L2
structure FnG (pr : Program) (wd : World) (K : PySem.W.Frag) (mg : PySem.Str → Option Value) (bs : Heap) (k : Nat) (f : Addr) (fd : FuncData) (ps : List PySem.Str) (sp : Sp) : Prop where
  len : ∀ vs H Q E, sp vs H Q E → vs.length = ps.length
  run : ∀ (B : Around) (out : List PySem.Env) (t : Shared) (H : Hp) (ar : Args) (us : List Value) (vs : List V) (Q : VK) (E : XK), Room k B → B.guards = some [] → Env0 pr wd K mg bs B out t H → BindsTo t fd ar (ps.zip us) → Vals vs us → sp vs H Q E →
    codeAny (model pr wd) B (.call (.ref f) ar) (CR (L2.CX pr wd) out pr wd H t Q E) t
theorem FnG.mk0 {pr : Program} {wd : World} {K : PySem.W.Frag} {mg : PySem.Str → Option Value} {bs : Heap} {k : Nat} {f : Addr} {fd : FuncData} {ps : List PySem.Str} {sp : Sp} (no : ∀ vs H Q E, sp vs H Q E → False) : FnG pr wd K mg bs k f fd ps sp :=
  ⟨fun vs H Q E z => (no vs H Q E z).elim, fun _ _ _ H _ _ vs Q E _ _ _ _ _ z => (no vs H Q E z).elim⟩
section
variable {X : Cx} {n : Nat} {fa : Addr} {fd : FuncData} {ps : List PySem.Str} {sp : Sp} {E : L2.St → XK} {x : PySem.Str} {p pos : Pos}
/-- the call of such a def -/
theorem run_G {pn : List (Addr × Obj)} {σ : L2.St} {H : Hp} {t : Shared} {Q : VK} {us : List Value} {vs : List V} (F : FnG X.prog X.w X.K X.mg X.base n fa fd ps sp) (hr : Room n X.A) (gd : X.A.guards = some []) (hb : Binds X.K fd ps [])
    (hx : PassesAt (L2.CX X.prog X.w) X σ (E σ)) (I : Inv X pn σ H t) (rv : Vals vs us) (z : sp vs H Q (E σ)) : wpAny (model X.prog X.w) X.A (call (.ref fa) us) (EP X pn σ Q) X.xe t := by
  have el : (us ++ []).length = ps.length := by rw [List.append_nil, ← rv.length]; exact F.len _ _ _ _ z
  have bb := hb t us I.kIn el
  rw [List.append_nil] at bb
  refine wpAny_call (codeAny_mono (F.run X.A X.stack t H ⟨us, []⟩ us vs Q (E σ) hr gd I.env0 bb rv z) fun out t2 hq => ?_)
  match out, hq with
  | .error e, hq => exact hx pn H t e t2 I hq
  | .ok (.ret u), hq => exact I.after hq
  | .ok .next, hq => exact False.elim hq
  | .ok .brk, hq => exact False.elim hq
  | .ok .cont, hq => exact False.elim hq
theorem pe_G0 (F : FnG X.prog X.w X.K X.mg X.base n fa fd ps sp) (hr : Room n X.A) (gd : X.A.guards = some []) (hg : Gl X x) (hm : X.mg x = some (.ref fa)) (hk : PySem.W.keepIn X.K (.ref fa) = true) (hb : Binds X.K fd ps []) (hx : ∀ σ, PassesAt (L2.CX X.prog X.w) X σ (E σ))
    (hdb : (x == ("__debug__" : PySem.Str)) = false) : PE X (.Call (.Name x p) [] [] pos) (tCallS sp E tNil) :=
  ⟨fun pn t σ H Q I z => wpAny_Call_Name_kw (ld_glob I hg hm (PySem.W.callWith_K0 I.kIn hk (run_G F hr gd hb (hx σ) I .nil z)) hdb)⟩
theorem pe_G {a : Expr} {es : List Expr} {ta : TA} (F : FnG X.prog X.w X.K X.mg X.base n fa fd ps sp) (hr : Room n X.A) (gd : X.A.guards = some []) (hg : Gl X x) (hm : X.mg x = some (.ref fa)) (hk : PySem.W.keepIn X.K (.ref fa) = true) (hb : Binds X.K fd ps []) (hx : ∀ σ, PassesAt (L2.CX X.prog X.w) X σ (E σ))
    (hdb : (x == ("__debug__" : PySem.Str)) = false) (ha : PA X (a :: es) ta) (hst : starEach (a :: es) X.env = (false, eval a X.env) :: starEach es X.env) (hpl : (backTo pos (starEach es X.env)).any (·.1) = false) : PE X (.Call (.Name x p) (a :: es) [] pos) (tCallS sp E ta) :=
  ⟨fun pn t σ H Q I z => wpAny_Call_Name_kw (ld_glob I hg hm (PySem.W.callWith_K (h₀ := X.base) I.ok.mod.kin hk
    (thn (ha.run pos pn t σ H _ I z) fun us t1 ⟨vs, H1, I1, rv, q⟩ => ⟨I1.kIn, run_G F hr gd hb (hx σ) I1 rv q⟩) hst hpl) hdb)⟩
end
section
variable {pr : Program} {wd : World} {K : PySem.W.Frag} {mg : PySem.Str → Option Value} {bs : Heap} {k : Nat} {f : Addr} {sp : Sp} {N ps : List PySem.Str}
/-- a def by its body -/
theorem body_G {nm qn : PySem.Str} {prm : Arguments} {bd : List Stmt} {sc : Scope} {kws : List (PySem.Str × V)} {fd : FuncData} (F : FunD K nm qn prm bd sc [] kws f fd) (S : FnScope N ps sc) (len : ∀ vs H Q E, sp vs H Q E → vs.length = ps.length)
    (hbody : ∀ (cd : Value) (B : Around) (out : List PySem.Env) (t : Shared) (H : Hp) (vs : List V) (Q : VK) (E : XK), Room k (B.deeper (envOfC qn sc t.heap.objs.size f cd)) → B.guards = some [] → sp vs H Q E →
      ∃ rd, PSs (cxOf (L2.CX pr wd) pr wd K mg bs N qn sc f cd B out t H E) bd rd ∧ rd { nx := fun _ H' => Q .non H', rt := Q } (L2.start N vs) H) : FnG pr wd K mg bs (k + 1) f fd ps sp := by
  obtain ⟨oc, od, dV, kV, doc, pm, an, cd, ct, osl, rfl, lk, hcd, _, _⟩ := F.ex
  refine ⟨len, fun B out t H ar us vs Q E hr gd e0 hb rv z => ?_⟩
  have el := len _ _ _ _ z
  have KX : K.In t.heap := e0.mod.kin.keeps fun c o e => (e0.bs c o e).1
  have nl : t.heap.NoLimit := e0.mod.nolimit.keeps fun c o e => (e0.bs c o e).1
  have kinds : ∀ y ∈ ps.zip us, sc.names.lookup y.1 = some .local ∨ (sc.names.lookup y.1 = some .cell ∧ ((cellsFrom (t.heap.objs.size + 1) sc.names []).lookup y.1).isSome = true) := by
    rintro ⟨n, v⟩ hy
    rcases S.par n (List.of_mem_zip hy).1 with a | a
    · exact .inl a
    · exact .inr ⟨a, PySem.W.cellsFrom_some _ _ _ (.inl a)⟩
  refine codeAny_call_function hr.depth (KX _ _ lk) rfl S.co S.gen rfl (PySem.W.codeRec_of KX hcd) (hb _ _ _ _ ?_)
  refine wpAny_newFunctionEnv_cells S.kind kinds fun en hen t1 xx => ?_
  subst hen
  refine ⟨nl.keeps xx.toInCall.keep, codeAny_func ?_⟩
  obtain ⟨rd, hrd, hq⟩ := hbody cd B out t H vs Q E (hr.deeper _) gd z
  refine wpAny_mono (hrd.run [] t1 (L2.start N vs) H _ (inv_start S hr.hd e0 el rv xx) hq) (fun fl t2 hs => ?_) fun _ _ hs => hs
  match fl, hs with
  | .ret u, ⟨v, σ2, H2, J, r2, q⟩ => exact ⟨v, H2, J.os, J.bare, J.base, J.hok, r2, q⟩
  | .next, ⟨σ2, H2, J, q⟩ => exact ⟨V.non, H2, J.os, J.bare, J.base, J.hok, rfl, q⟩
  | .brk, ⟨_, _, _, q⟩ => exact False.elim q
  | .cont, ⟨_, _, _, q⟩ => exact False.elim q
end
end MP
namespace MP
open PySem PySem.Spec PyProof.Rows L2
abbrev FT := Nat → List D → MH → Res D
def spF (K : PySem.W.Frag) (T : XT) (f : FT) (np i : Nat) : Sp := fun vs H Q E =>
  vs.length = np ∧ ∃ m h ds, Rel K m h H ∧ RepL K H m h.n ds vs ∧ Out K T (fun cl dd _ H => E cl dd H) [] (rV K) m h.n H (f i ds h) Q
structure Glob (g : GT) (P : Prog) (T : XT) (f : FT) (k : Nat) (prog : Program) (w : World) (K : PySem.W.Frag) (mg : Str → Option Value) (base : Heap) : Prop where
  free : ∀ x, g.free.contains x = true → mg x = none
  con : ∀ x i d, g.cons.lookup x = some i → P.cons[i]? = some d → ∃ v u, mg x = some u ∧ RelV v u ∧ ∀ H m n, RepV K H m n d v
  fn : ∀ x i, g.fns.lookup x = some i → ∃ fa fd ps, mg x = some (.ref fa) ∧ PySem.W.keepIn K (.ref fa) = true ∧ Binds K fd ps [] ∧
    (∀ ds h, f i ds h = .bad ∨ ds.length = ps.length) ∧ FnG prog w K mg base k fa fd ps (spF K T f ps.length i)
structure Good (g : GT) (P : Prog) (T : XT) (f : FT) (k : Nat) (X : Cx) (c : MP.Ctx) (W : WX) : Prop where
  calm : X.calm = true
  N : X.N = c.N
  nd : X.N.Nodup
  sc : X.env.scope = c.sc
  fn : ∀ x, c.fn x = true → X.fn x = true
  room : Room k X.A
  gd : X.A.guards = some []
  tk : Takes X W
  gl : Glob g P T f k X.prog X.w X.K X.mg X.base
structure SndE (g : GT) (P : Prog) (T : XT) (f : FT) (k : Nat) (r : Rec) : Prop where
  e : ∀ {X : Cx} {c : MP.Ctx} {W : WX}, Good g P T f k X c W → ∀ {n : Nat} {src : Expr} {x : Ex}, cE g n c src = some x → PE X src (rd X.K T W (rV X.K) (r.e x))
  t : ∀ {X : Cx} {c : MP.Ctx} {W : WX}, Good g P T f k X c W → ∀ {n : Nat} {src : Expr} {x : Ex}, cE g n c src = some x → PT X src (rd X.K T W (rQ Bool) (r.t x))
section
theorem star_ns {e : Expr} {es : List Expr} {env : PySem.Env} (h : notStar e = true) : starEach (e :: es) env = (false, eval e env) :: starEach es env := by
  cases e <;> first | rfl | cases h
theorem star_pl {pos : Pos} {env : PySem.Env} : ∀ {es : List Expr}, es.all notStar = true → (backTo pos (starEach es env)).any (·.1) = false
  | [], _ => rfl
  | e :: es, h => by
    rw [List.all_cons, Bool.and_eq_true] at h
    rw [star_ns h.1]
    show (false || (backTo pos (starEach es env)).any (·.1)) = false
    rw [star_pl h.2]
    rfl
theorem star_few {pos : Pos} {env : PySem.Env} : ∀ {es : List Expr}, es.all notStar = true → (backTo pos (starEach es env)).all (fun x => !x.1) = true
  | [], _ => rfl
  | e :: es, h => by
    rw [List.all_cons, Bool.and_eq_true] at h
    rw [star_ns h.1]
    show (!false && (backTo pos (starEach es env)).all (fun x => !x.1)) = true
    rw [star_few h.2]
    rfl
theorem plain_ix {b : Expr} (h : notSlice b = true) : PlainIx b := by
  intro o i
  cases b <;> first | rfl | cases h
theorem marks_of {op : CmpOp} {b : Expr} (h : notSet b = true) : behindInMarks op b = false := by
  cases b <;> first | rfl | cases h
theorem folded_of {b : Expr} {env : PySem.Env} (h : notSet b = true) (x : Value) : foldedSetIterable b env x = pure x := by
  cases b <;> first | rfl | cases h
theorem base_of {o : Expr} {env : PySem.Env} {name : Str} {t : Sem Value} (h : plainO o = true) : attributeBase o name env t = t := by
  cases o <;> first | rfl | cases h
end
section
variable {g : GT} {P : Prog} {T : XT} {f : FT} {k : Nat} {X : Cx} {c : MP.Ctx} {W : WX} {r : Rec}
theorem Good.nm (G : Good g P T f k X c W) {x : Str} {i : Nat} (h : nmC c x = some i) : X.N[i]? = some x ∧ Vis X.env.scope x ∧ (x == ("__debug__" : Str)) = false ∧ (x == ("__classdict__" : Str)) = false := by
  unfold nmC at h
  rw [← G.sc, ← G.N] at h
  split at h
  · split at h
    · cases h
    · rename_i e z
      rw [Bool.or_eq_true, not_or, Bool.not_eq_true, Bool.not_eq_true] at z
      exact ⟨ixOf_ok h, .inl e, z.1, z.2⟩
  · split at h
    · cases h
    · rename_i e z
      rw [Bool.or_eq_true, not_or, Bool.not_eq_true, Bool.not_eq_true] at z
      exact ⟨ixOf_ok h, .inr (.inl e), z.1, z.2⟩
  · split at h
    · cases h
    · rename_i e z
      rw [Bool.or_eq_true, not_or, Bool.not_eq_true, Bool.not_eq_true] at z
      exact ⟨ixOf_ok h, .inr (.inr e), z.1, z.2⟩
  · cases h
theorem Good.tg (G : Good g P T f k X c W) {x : Str} {i : Nat} (h : tgC c x = some i) : X.N[i]? = some x ∧ Loc X.env.scope x ∧ (X.fn x = true ∨ X.env.scope.names.lookup x = some .local) := by
  unfold tgC at h
  rw [← G.sc, ← G.N] at h
  split at h
  · rename_i e
    exact ⟨ixOf_ok h, .inl e, .inr e⟩
  · split at h
    · rename_i e z
      exact ⟨ixOf_ok h, .inr e, .inl (G.fn x z)⟩
    · cases h
  · cases h
theorem Good.glb (G : Good g P T f k X c W) {x : Str} (h : isGl c x = true) : Gl X x ∧ (x == ("__debug__" : Str)) = false := by
  unfold isGl at h
  rw [← G.sc] at h
  split at h
  · rename_i e
    exact ⟨e, by simpa using h⟩
  · cases h
theorem Good.free (G : Good g P T f k X c W) {x : Str} (h : isFree g c x = true) : Gl X x ∧ X.mg x = none ∧ (x == ("__debug__" : Str)) = false ∧ x ≠ ("__name__" : Str) := by
  unfold isFree at h
  rw [Bool.and_eq_true, Bool.and_eq_true, Bool.not_eq_true'] at h
  obtain ⟨q1, q2⟩ := G.glb h.1
  exact ⟨q1, G.gl.free x h.2.1, q2, fun e => by rw [e] at h; exact absurd h.2.2 (by decide)⟩
theorem Good.units (G : Good g P T f k X c W) : X.A.units + 65 < cLine := by have := G.room.un; omega
theorem Good.blk (G : Good g P T f k X c W) {s : Shared} {H : Hp} {scope : Scope} {cl : List (Str × Addr)} {C : Addr} {fp : List Addr} : Good g P T f k (X.blk s H scope (compEnvC scope cl C X.env) fp) (blkX c scope) (fun _ _ _ _ => False) where
  calm := G.calm
  N := G.N
  nd := G.nd
  sc := by show relS scope X.env.scope = relS scope c.sc; rw [G.sc]
  fn := fun x h => h
  room := G.room
  gd := G.gd
  tk := takes0
  gl := G.gl
variable (S : SndE g P T f k r) (G : Good g P T f k X c W)
include S G
theorem pa_of {n : Nat} : ∀ {es : List Expr} {xs : List Ex}, es.all notStar = true → mapO (cE g n c) es = some xs → PA X es (rd X.K T W (rL X.K) (evL r xs)) := by
  intro es
  induction es with
  | nil =>
    intro xs _ e
    rw [mapO_nil e]
    refine PA.weak (pa_nil) ?_
    rintro σ H Q ⟨m, env, h, R, E, O⟩
    exact O.here R .nil
  | cons a es ih =>
    intro xs hs e
    rw [List.all_cons, Bool.and_eq_true] at hs
    obtain ⟨y, ys, rfl, e1, e2⟩ := mapO_cons e
    refine PA.weak (pa_cons (S.e G e1) (ih hs.2 e2) (star_ns hs.1)) ?_
    rintro σ H Q ⟨m, env, h, R, E, O⟩
    exact ⟨m, env, h, R, E, Out.step O fun a h1 m1 H1 v1 _ xx R1 V1 O1 => ⟨m1, env, h1, R1, E.mono xx, Out.step O1 fun as h2 m2 H2 vs2 _ xx2 R2 V2 O2 => O2.here R2 (.cons (V1.mono xx2) V2)⟩⟩
theorem pas_of {n : Nat} : ∀ {es : List Expr} {xs : List Ex}, mapO (fun e => cE g n c (unS e)) es = some xs → PA X es (rd X.K T W (rL X.K) (evS r (es.map isS) xs)) := by
  intro es
  induction es with
  | nil =>
    intro xs e
    rw [mapO_nil e]
    refine PA.weak (pa_nil) ?_
    rintro σ H Q ⟨m, env, h, R, E, O⟩
    exact O.here R .nil
  | cons a es ih =>
    intro xs e
    obtain ⟨y, ys, rfl, e1, e2⟩ := mapO_cons e
    by_cases hs : notStar a = true
    · have e3 : unS a = a := by cases a <;> first | rfl | cases hs
      have e4 : isS a = false := by cases a <;> first | rfl | cases hs
      rw [e3] at e1
      refine PA.weak (pa_cons (S.e G e1) (ih e2) (star_ns hs)) ?_
      rintro σ H Q ⟨m, env, h, R, E, O⟩
      rw [List.map_cons, e4] at O
      exact ⟨m, env, h, R, E, Out.step O fun a h1 m1 H1 v1 _ xx R1 V1 O1 => ⟨m1, env, h1, R1, E.mono xx, Out.step O1 fun as h2 m2 H2 vs2 _ xx2 R2 V2 O2 => O2.here R2 (.cons (V1.mono xx2) V2)⟩⟩
    · obtain ⟨b, p, rfl⟩ : ∃ b p, a = .Starred b p := by cases a <;> first | exact ⟨_, _, rfl⟩ | exact absurd rfl hs
      refine PA.weak (StX.pa_star (S.e G e1) (ih e2)) ?_
      rintro σ H Q ⟨m, env, h, R, E, O⟩
      have O : Out X.K T W σ (rL X.K) m h.n H ((r.e y env h).bind fun d h => match items h d with
        | some ds => (evS r (es.map isS) ys env h).bind fun xs h => .ok (ds ++ xs) h
        | none => .bad) Q := O
      refine ⟨m, env, h, R, E, Out.step O fun a h1 m1 H1 v1 _ xx R1 V1 O1 => ?_⟩
      split at O1
      · rename_i ds hi
        obtain ⟨p, vs, rfl, hq, hl⟩ := items_of R1 V1 hi
        exact ⟨p, vs, rfl, hq.symm, m1, env, h1, R1, E.mono xx, Out.step O1 fun as h2 m2 H2 vs2 _ xx2 R2 V2 O2 => O2.here R2 ((hl.mono xx2).append V2)⟩
      · exact O1.elim
end
end MP
namespace MP
open PySem PySem.Spec PyProof.Rows L2
section
variable {g : GT} {P : Prog} {T : XT} {f : FT} {k : Nat} {X : Cx} {c : MP.Ctx} {W : WX} {r : Rec}
theorem mapO_two {α β : Type} {f : α → Option β} {x y : α} {xs : List α} {zs : List β} (e : mapO f (x :: y :: xs) = some zs) : ∃ a b cs, zs = a :: b :: cs ∧ f x = some a ∧ mapO f (y :: xs) = some (b :: cs) := by
  obtain ⟨a, bs, rfl, e1, e2⟩ := mapO_cons e
  obtain ⟨b, cs, rfl, e3, e4⟩ := mapO_cons e2
  exact ⟨a, b, cs, rfl, e1, e2⟩
variable (S : SndE g P T f k r) (G : Good g P T f k X c W)
include S G
theorem sp_of {i np : Nat} {σ : L2.St} {m : Nat → Addr} {H : Hp} {h : MH} {ds : List D} {vs : List V} {Q : VK} (hn : f i ds h = .bad ∨ ds.length = np) (R : Rel X.K m h H) (V : RepL X.K H m h.n ds vs) (O : Out X.K T W σ (rV X.K) m h.n H (f i ds h) Q) : spF X.K T f np i vs H Q (WE W σ) := by
  rcases hn with e | e
  · exact bad_of e O
  · exact ⟨V.length.symm.trans e, m, h, ds, R, V, O⟩
theorem pe_and_of {n : Nat} {pos : Pos} : ∀ {es : List Expr} {a : Expr} {xs : List Ex}, mapO (cE g n c) (a :: es) = some xs → PE X (.BoolOp .And (a :: es) pos) (rd X.K T W (rV X.K) (fun env h => andV r true env xs h)) := by
  intro es
  induction es with
  | nil =>
    intro a xs e
    obtain ⟨y, ys, rfl, e1, e2⟩ := mapO_cons e
    rw [mapO_nil e2]
    exact PE.weak (pe_one (S.e G e1)) fun σ H Q q => q
  | cons b es ih =>
    intro a xs e
    obtain ⟨y, z, zs, rfl, e1, e2⟩ := mapO_two e
    refine PE.weak (pe_andT (S.e G e1) (ih e2)) ?_
    rintro σ H Q ⟨m, env, h, R, E, O⟩
    refine ⟨m, env, h, R, E, Out.step O fun d h1 m1 H1 v1 _ x1 R1 V1 O1 => ?_⟩
    split at O1
    · rename_i b ht
      refine ⟨b, t_truth R1 V1 ht, ?_⟩
      cases b with
      | true => exact ⟨m1, env, h1, R1, E.mono x1, O1⟩
      | false => exact O1.here R1 V1
    · exact O1.elim
theorem pe_or_of {n : Nat} {pos : Pos} : ∀ {es : List Expr} {a : Expr} {xs : List Ex}, mapO (cE g n c) (a :: es) = some xs → PE X (.BoolOp .Or (a :: es) pos) (rd X.K T W (rV X.K) (fun env h => andV r false env xs h)) := by
  intro es
  induction es with
  | nil =>
    intro a xs e
    obtain ⟨y, ys, rfl, e1, e2⟩ := mapO_cons e
    rw [mapO_nil e2]
    exact PE.weak (pe_one (S.e G e1)) fun σ H Q q => q
  | cons b es ih =>
    intro a xs e
    obtain ⟨y, z, zs, rfl, e1, e2⟩ := mapO_two e
    refine PE.weak (pe_orT (S.e G e1) (ih e2)) ?_
    rintro σ H Q ⟨m, env, h, R, E, O⟩
    refine ⟨m, env, h, R, E, Out.step O fun d h1 m1 H1 v1 _ x1 R1 V1 O1 => ?_⟩
    split at O1
    · rename_i b ht
      refine ⟨b, t_truth R1 V1 ht, ?_⟩
      cases b with
      | false => exact ⟨m1, env, h1, R1, E.mono x1, O1⟩
      | true => exact O1.here R1 V1
    · exact O1.elim
theorem pw_and_of {n : Nat} {pos : Pos} : ∀ {es : List Expr} {a : Expr} {xs : List Ex}, mapO (cE g n c) (a :: es) = some xs → PW X (.BoolOp .And (a :: es) pos) (rd X.K T W (rQ Bool) (fun env h => evT.go r.t env true xs h)) := by
  intro es
  induction es with
  | nil =>
    intro a xs e
    obtain ⟨y, ys, rfl, e1, e2⟩ := mapO_cons e
    rw [mapO_nil e2]
    exact PW.weak (pw_and1 (S.t G e1)) fun σ H Q q => q
  | cons b es ih =>
    intro a xs e
    obtain ⟨y, z, zs, rfl, e1, e2⟩ := mapO_two e
    refine PW.weak (pw_and (S.t G e1) (ih e2)) ?_
    rintro σ H Q ⟨m, env, h, R, E, O⟩
    refine ⟨m, env, h, R, E, Out.step O fun d h1 m1 H1 v1 _ x1 R1 V1 O1 => ?_⟩
    cases V1
    cases d with
    | true => exact ⟨m1, env, h1, R1, E.mono x1, O1⟩
    | false => exact O1.here R1 rfl
theorem pw_or_of {n : Nat} {pos : Pos} : ∀ {es : List Expr} {a : Expr} {xs : List Ex}, mapO (cE g n c) (a :: es) = some xs → PW X (.BoolOp .Or (a :: es) pos) (rd X.K T W (rQ Bool) (fun env h => evT.go r.t env false xs h)) := by
  intro es
  induction es with
  | nil =>
    intro a xs e
    obtain ⟨y, ys, rfl, e1, e2⟩ := mapO_cons e
    rw [mapO_nil e2]
    exact PW.weak (pw_or1 (S.t G e1)) fun σ H Q q => q
  | cons b es ih =>
    intro a xs e
    obtain ⟨y, z, zs, rfl, e1, e2⟩ := mapO_two e
    refine PW.weak (pw_or (S.t G e1) (ih e2)) ?_
    rintro σ H Q ⟨m, env, h, R, E, O⟩
    refine ⟨m, env, h, R, E, Out.step O fun d h1 m1 H1 v1 _ x1 R1 V1 O1 => ?_⟩
    cases V1
    cases d with
    | false => exact ⟨m1, env, h1, R1, E.mono x1, O1⟩
    | true => exact O1.here R1 rfl
theorem po_of {n : Nat} {e : Option Expr} {x : Option Ex} (h : cO (cE g n c) e = some x) : PO X e (rd X.K T W (rQ (Option Int)) (evO r x)) := by
  cases e with
  | none =>
    cases h
    refine ⟨fun pins s σ H Q I q => po_none.run pins s σ H Q I ?_⟩
    obtain ⟨m, env, h, R, E, O⟩ := q
    exact O.here R rfl
  | some e =>
    obtain ⟨y, e1, rfl⟩ := Option.map_eq_some_iff.mp h
    refine ⟨fun pins s σ H Q I q => (po_some (S.e G e1)).run pins s σ H Q I ?_⟩
    obtain ⟨m, env, h, R, E, O⟩ := q
    refine ⟨m, env, h, R, E, Out.step O fun d h1 m1 H1 v1 _ x1 R1 V1 O1 => ?_⟩
    cases V1 with
    | int i => exact ⟨i, rfl, O1.here R1 rfl⟩
    | _ => exact False.elim O1
theorem pe_name_of {x : Str} {pos : Pos} {y : Ex} (h : (match nmC c x with
      | some i => some (Ex.var i)
      | none => match isGl c x, g.cons.lookup x with
        | true, some k => some (.glo k)
        | _, _ => none) = some y) : PE X (.Name x pos) (rd X.K T W (rV X.K) (stepE P r f y)) := by
  split at h
  · rename_i i e
    cases h
    obtain ⟨q1, q2, q3, q4⟩ := G.nm e
    refine PE.weak (pe_var q1 q2 q3 q4) ?_
    rintro σ H Q ⟨m, env, h, R, E, O⟩
    have O : Out X.K T W σ (rV X.K) m h.n H (match env[i]? with
      | some (some d) => .ok d h
      | _ => .bad) Q := O
    split at O
    · rename_i d hd
      obtain ⟨v, w1, w2⟩ := E.2 i d hd
      exact ⟨v, w1, O.here R w2⟩
    · exact O.elim
  · split at h
    · rename_i e1 e2
      cases h
      obtain ⟨q1, q2⟩ := G.glb e1
      rename_i kk
      cases hc : P.cons[kk]? with
      | none =>
        refine ⟨fun pins s σ H Q I q => ?_⟩
        obtain ⟨m, env, h, R, E, O⟩ := q
        have O : Out X.K T W σ (rV X.K) m h.n H (match P.cons[kk]? with
          | some d => .ok d h
          | none => .bad) Q := O
        rw [hc] at O
        exact O.elim
      | some d =>
        obtain ⟨v, u, w1, w2, w3⟩ := G.gl.con x _ d e2 hc
        refine PE.weak (pe_glob q1 w1 w2 q2) ?_
        rintro σ H Q ⟨m, env, h, R, E, O⟩
        have O : Out X.K T W σ (rV X.K) m h.n H (match P.cons[kk]? with
          | some d => .ok d h
          | none => .bad) Q := O
        rw [hc] at O
        exact O.here R (w3 _ _ _)
    · cases h
theorem pe_cmp_of {n : Nat} {op : CmpOp} {o : Cop} {a b : Expr} {x y : Ex} {pos : Pos} (hs : notSet b = true) (e : copC op = some o) (e1 : cE g n c a = some x) (e2 : cE g n c b = some y) : PE X (.Compare a [op] [b] pos) (rd X.K T W (rV X.K) (stepE P r f (.cmp o x y))) := by
  obtain ⟨rr, o1, o2⟩ := o_cmp (X := X) G.units e
  refine PE.weak (pe_cmpR o1 (S.e G e1) (S.e G e2) (marks_of hs)) ?_
  rintro σ H Q ⟨m, env, h, R, E, O⟩
  refine ⟨m, env, h, R, E, Out.step O fun d h1 m1 H1 v1 _ x1 R1 V1 O1 => ⟨m1, env, h1, R1, E.mono x1, Out.step O1 fun d2 h2 m2 H2 v2 _ x2 R2 V2 O2 => ?_⟩⟩
  split at O2
  · rename_i b hb
    exact o2 R2 (V1.mono x2) V2 hb (O2.here R2 (.bl _))
  · exact O2.elim
theorem pt_cmp_of {n : Nat} {op : CmpOp} {o : Cop} {a b : Expr} {x y : Ex} {pos : Pos} (hs : notSet b = true) (e : copC op = some o) (e1 : cE g n c a = some x) (e2 : cE g n c b = some y) : PT X (.Compare a [op] [b] pos) (rd X.K T W (rQ Bool) (evT r r.t (.cmp o x y))) := by
  obtain ⟨rr, o1, o2⟩ := o_cmp (X := X) G.units e
  refine PT.weak (pt_cmpR o1 (S.e G e1) (S.e G e2) (marks_of hs)) ?_
  rintro σ H Q ⟨m, env, h, R, E, O⟩
  refine ⟨m, env, h, R, E, Out.step O fun d h1 m1 H1 v1 _ x1 R1 V1 O1 => ⟨m1, env, h1, R1, E.mono x1, Out.step O1 fun d2 h2 m2 H2 v2 _ x2 R2 V2 O2 => ?_⟩⟩
  split at O2
  · rename_i b hb
    exact o2 R2 (V1.mono x2) V2 hb ⟨b, rfl, O2.here R2 rfl⟩
  · exact O2.elim
theorem last_of {op op' : CmpOp} {b d : Expr} (h : (notSet b && notSet d) = true) : lastMarks [op, op'] [b, d] = false := by
  rw [Bool.and_eq_true] at h
  show lastMarks [op'] [d] = false
  exact marks_of h.2
theorem pe_chain_of {n : Nat} {op op' : CmpOp} {o p : Cop} {a b d : Expr} {x y z : Ex} {pos : Pos} (hs : (notSet b && notSet d) = true) (e : copC op = some o) (e' : copC op' = some p) (e1 : cE g n c a = some x) (e2 : cE g n c b = some y) (e3 : cE g n c d = some z) : PE X (.Compare a [op, op'] [b, d] pos) (rd X.K T W (rV X.K) (stepE P r f (.chain o p x y z))) := by
  obtain ⟨rr, o1, o2⟩ := o_cmp (X := X) G.units e
  obtain ⟨rr', o1', o2'⟩ := o_cmp (X := X) G.units e'
  refine PE.weak (pe_chain o1 o1' (S.e G e1) (S.e G e2) (S.e G e3) (last_of S G hs)) ?_
  rintro σ H Q ⟨m, env, h, R, E, O⟩
  refine ⟨m, env, h, R, E, Out.step O fun d h1 m1 H1 v1 _ x1 R1 V1 O1 => ⟨m1, env, h1, R1, E.mono x1, Out.step O1 fun d2 h2 m2 H2 v2 _ x2 R2 V2 O2 => ?_⟩⟩
  split at O2
  · rename_i hb
    refine o2 R2 (V1.mono x2) V2 hb ⟨true, rfl, ?_⟩
    exact ⟨m2, env, h2, R2, (E.mono x1).mono x2, Out.step O2 fun d3 h3 m3 H3 v3 _ x3 R3 V3 O3 => by
      split at O3
      · rename_i b hb
        exact o2' R3 (V2.mono x3) V3 hb (O3.here R3 (.bl _))
      · exact O3.elim⟩
  · rename_i hb
    exact o2 R2 (V1.mono x2) V2 hb ⟨false, rfl, O2.here R2 (.bl _)⟩
  · exact O2.elim
theorem pt_chain_of {n : Nat} {op op' : CmpOp} {o p : Cop} {a b d : Expr} {x y z : Ex} {pos : Pos} (hs : (notSet b && notSet d) = true) (e : copC op = some o) (e' : copC op' = some p) (e1 : cE g n c a = some x) (e2 : cE g n c b = some y) (e3 : cE g n c d = some z) : PT X (.Compare a [op, op'] [b, d] pos) (rd X.K T W (rQ Bool) (evT r r.t (.chain o p x y z))) := by
  obtain ⟨rr, o1, o2⟩ := o_cmp (X := X) G.units e
  obtain ⟨rr', o1', o2'⟩ := o_cmp (X := X) G.units e'
  refine PT.weak (pt_chain o1 o1' (S.e G e1) (S.e G e2) (S.e G e3) (last_of S G hs)) ?_
  rintro σ H Q ⟨m, env, h, R, E, O⟩
  refine ⟨m, env, h, R, E, Out.step O fun d h1 m1 H1 v1 _ x1 R1 V1 O1 => ⟨m1, env, h1, R1, E.mono x1, Out.step O1 fun d2 h2 m2 H2 v2 _ x2 R2 V2 O2 => ?_⟩⟩
  split at O2
  · rename_i hb
    refine o2 R2 (V1.mono x2) V2 hb ⟨true, rfl, ?_⟩
    exact ⟨m2, env, h2, R2, (E.mono x1).mono x2, Out.step O2 fun d3 h3 m3 H3 v3 _ x3 R3 V3 O3 => by
      split at O3
      · rename_i b hb
        exact o2' R3 (V2.mono x3) V3 hb ⟨b, rfl, O3.here R3 rfl⟩
      · exact O3.elim⟩
  · rename_i hb
    exact o2 R2 (V1.mono x2) V2 hb ⟨false, rfl, false, rfl, O2.here R2 rfl⟩
  · exact O2.elim
theorem pe_call_of {n : Nat} {x : Str} {i : Nat} {es : List Expr} {xs : List Ex} {p pos : Pos} (hg : isGl c x = true) (hl : g.fns.lookup x = some i) (hs : es.all notStar = true) (e : mapO (cE g n c) es = some xs) : PE X (.Call (.Name x p) es [] pos) (rd X.K T W (rV X.K) (stepE P r f (.call i xs))) := by
  obtain ⟨q1, q2⟩ := G.glb hg
  obtain ⟨fa, fd, ps, w1, w2, w3, w4, w5⟩ := G.gl.fn x i hl
  cases es with
  | nil =>
    rw [mapO_nil e]
    refine PE.weak (pe_G0 w5 G.room G.gd q1 w1 w2 w3 (E := WE W) (fun σ => passAt G.tk σ) q2) ?_
    rintro σ H Q ⟨m, env, h, R, E, O⟩
    exact sp_of S G (w4 [] h) R .nil O
  | cons a es =>
    rw [List.all_cons, Bool.and_eq_true] at hs
    refine PE.weak (pe_G (ta := rd X.K T W (rL X.K) (evL r xs)) (E := WE W) w5 G.room G.gd q1 w1 w2 w3 (fun σ => passAt G.tk σ) q2 (pa_of S G (by rw [List.all_cons, Bool.and_eq_true]; exact hs) e) (star_ns hs.1) (star_pl hs.2)) ?_
    rintro σ H Q ⟨m, env, h, R, E, O⟩
    exact ⟨m, env, h, R, E, Out.step O fun ds h1 m1 H1 vs _ x1 R1 V1 O1 => sp_of S G (w4 ds h1) R1 V1 O1⟩
theorem bi_boot {x : Str} {b : Bi} (h : biC x = some b) : bootBuiltins x = some (biF b) := by
  unfold biC at h
  repeat' split at h
  all_goals first
    | (cases h; rename_i e; rw [eq_of_beq e]; rfl)
    | cases h
theorem pe_bi_of {n : Nat} {x : Str} {b : Bi} {a : Expr} {es : List Expr} {xs : List Ex} {p pos : Pos} (hf : isFree g c x = true) (hb : biC x = some b) (hs : (a :: es).all notStar = true) (e : mapO (cE g n c) (a :: es) = some xs) : PE X (.Call (.Name x p) (a :: es) [] pos) (rd X.K T W (rV X.K) (stepE P r f (.bi b xs))) := by
  obtain ⟨q1, q2, q3, q4⟩ := G.free hf
  obtain ⟨rr, o1, o2⟩ := o_bi (X := X) G.calm G.gd (by have := G.room.un; omega) b
  have hs' := hs
  rw [List.all_cons, Bool.and_eq_true] at hs'
  have z : PE X (.Call (.Name x p) (a :: es) [] pos) (tCB rr (rd X.K T W (rL X.K) (evL r xs))) := by
    have hbt := bi_boot S G hb
    cases hv : biF b with
    | builtin id => rw [hv] at o1 hbt; exact pe_callB o1 q1 q2 hbt (pa_of S G hs e) q4 q3 (star_ns hs'.1) (star_pl hs'.2)
    | type id => rw [hv] at o1 hbt; exact pe_callTy o1 q1 q2 hbt (pa_of S G hs e) q4 q3 (star_ns hs'.1) (star_pl hs'.2)
    | _ => cases b <;> cases hv
  refine PE.weak z ?_
  rintro σ H Q ⟨m, env, h, R, E, O⟩
  exact ⟨m, env, h, R, E, Out.step O fun ds h1 m1 H1 vs _ x1 R1 V1 O1 => o2 R1 V1 O1⟩
theorem ty_boot {x : Str} {t : Ty} (h : tyC x = some t) : bootBuiltins x = some (.type (tyN t)) := by
  unfold tyC at h
  repeat' split at h
  all_goals first
    | (cases h; rename_i e; rw [eq_of_beq e]; rfl)
    | cases h
theorem pe_isi_of {n : Nat} {x : Str} {t : Str} {ty : Ty} {a : Expr} {y : Ex} {p p2 pos : Pos} (hx : (x == ("isinstance" : Str)) = true) (hf : isFree g c x = true) (hf2 : isFree g c t = true) (ht : tyC t = some ty) (hs : notStar a = true) (e : cE g n c a = some y) : PE X (.Call (.Name x p) [a, .Name t p2] [] pos) (rd X.K T W (rV X.K) (stepE P r f (.isi ty y))) := by
  obtain ⟨q1, q2, q3, q4⟩ := G.free hf
  obtain ⟨w1, w2, w3, w4⟩ := G.free hf2
  have hv : bootBuiltins x = some (.builtin "isinstance") := by rw [eq_of_beq hx]; rfl
  have hn : PE X (.Name t p2) (tC (.ty (tyN ty))) := pe_bltn w1 w2 (ty_boot S G ht) rfl w4 w3
  have ha : PA X [a, .Name t p2] (tCons (rd X.K T W (rV X.K) (r.e y)) (tCons (tC (.ty (tyN ty))) tNil)) := pa_cons (S.e G e) (pa_cons hn pa_nil) (star_ns hs)
  refine PE.weak (pe_callB call_isi q1 q2 hv ha q4 q3 (star_ns hs) (star_pl (es := [.Name t p2]) rfl)) ?_
  rintro σ H Q ⟨m, env, h, R, E, O⟩
  refine ⟨m, env, h, R, E, Out.step O fun d h1 m1 H1 v _ x1 R1 V1 O1 => ?_⟩
  split at O1
  · rename_i b hb
    obtain ⟨u, z1, z2⟩ := ty_of R1 V1 hb
    exact ⟨v, .ty (tyN ty), .type u, .type (tyN ty), b, rfl, .ty _, z1, kit_ty z2, O1.here R1 (.bl _)⟩
  · exact O1.elim
end
end MP
namespace HT
open PySem PyProof.Rows
section
variable {prog : Program} {w : World} {A : Around} {E : Value → Shared → Prop} {s : Shared}
theorem sliceApplied_step {sl : Addr} {vl vu vs : Value} {lo hi : Option Int} {c : Int} {n : Nat} {Q : Int × Int × Nat → Shared → Prop} (hs : s.heap.IsSliceOf sl vl vu vs) (pl : IsPart vl lo) (pu : IsPart vu hi) (ps : IsPart vs (some c)) (h0 : c ≠ 0)
    (h : Q ((Builtin.Slice.sliceAdjust lo hi c n).1, c, Builtin.Slice.slicePlaces (Builtin.Slice.sliceAdjust lo hi c n).1 (Builtin.Slice.sliceAdjust lo hi c n).2 c) s) : wpAny (model prog w) A (Builtin.Slice.sliceApplied (.ref sl) (pure (n : Int))) Q E s := by
  obtain ⟨os, hos, hcs, hds⟩ := id hs
  unfold Builtin.Slice.sliceApplied Builtin.Slice.sliceFields
  refine wpAny_bind (wpAny_bind (wpAny_field hos hds (x := vl) rfl (wpAny_bind (wpAny_field hos hds (x := vu) rfl (wpAny_bind (wpAny_field hos hds (x := vs) rfl (wpAny_pure ?_)))))))
  refine wpAny_bind (slicePart_ ps ?_)
  show wpAny _ _ (if (c == 0) = true then _ else _) _ _ s
  rw [if_neg (by simpa using h0)]
  refine wpAny_bind (slicePart_ pl (wpAny_bind (slicePart_ pu (wpAny_bind (wpAny_pure ?_)))))
  exact wpAny_pure h
theorem getItem_tuple_step {t sl : Addr} {items : Array Value} {vl vu vs : Value} {lo hi : Option Int} {c : Int} {Q : Value → Shared → Prop} (ht : IsTup s.heap t items) (hs : s.heap.IsSliceOf sl vl vu vs) (pl : IsPart vl lo) (pu : IsPart vu hi) (ps : IsPart vs (some c)) (h0 : c ≠ 0) (h1 : c ≠ 1)
    (h : Q (.ref s.heap.objs.size) { s with heap := s.heap.push { cls := .type "tuple", data := .seq (MP.pick items.toList (MP.stepT items.size lo hi c)).toArray } })
    (hsz : (MP.pick items.toList (MP.stepT items.size lo hi c)).length ≤ sizeLine) : wpAny (model prog w) A (getItem (.ref t) (.ref sl)) Q E s := by
  have htake : sizeOk (.seq (MP.pick items.toList (MP.stepT items.size lo hi c)).toArray) := by
    show (MP.pick items.toList (MP.stepT items.size lo hi c)).toArray.size ≤ sizeLine
    rw [List.size_toArray]
    exact hsz
  obtain ⟨os, hos, hcs, hds⟩ := id hs
  have hTs : s.TypeIs (.ref sl) "slice" := ⟨os, hos, hcs⟩
  unfold getItem
  try with_reducible refine wpAny_holding ?_
  first | refine wpAny_bind (wpAny_pure ?_) | skip
  refine wpAny_bind (wpAny_sequenceKey ht.typeIs (by decide) ?_)
  refine wpAny_bind (wpAny_callSpecial?_slot (name := Str.ofString "__getitem__") ht.typeIs PyProof.Rows.slot_tuple_getitem
    (wpAny_call_entry PyProof.Rows.slot_tuple_getitem ht.typeIs entry_tuple_getitem ?_ (args_tuple_getitem _ _)))
  show wpAny _ _ (Builtin.Tuple.tupleItemsOf (.ref t) >>= _) _ _ s
  refine wpAny_bind (tupleItemsOf_ ht ?_)
  refine wpAny_bind (wpAny_typeOf hTs ?_)
  rw [if_pos (by decide)]
  refine wpAny_bind (sliceApplied_step hs pl pu ps h0 ?_)
  have hno : ¬ (((Builtin.Slice.sliceAdjust lo hi c items.size).1 == 0 && c == 1 && (Builtin.Slice.slicePlaces (Builtin.Slice.sliceAdjust lo hi c items.size).1 (Builtin.Slice.sliceAdjust lo hi c items.size).2 c) == items.size) = true) := by
    intro q
    rw [Bool.and_eq_true, Bool.and_eq_true] at q
    exact h1 (eq_of_beq q.1.2)
  show wpAny _ _ (if ((Builtin.Slice.sliceAdjust lo hi c items.size).1 == 0 && c == 1 && (Builtin.Slice.slicePlaces (Builtin.Slice.sliceAdjust lo hi c items.size).1 (Builtin.Slice.sliceAdjust lo hi c items.size).2 c) == items.size) = true then _ else _) _ _ s
  rw [if_neg hno]
  have e : ((List.range (Builtin.Slice.slicePlaces (Builtin.Slice.sliceAdjust lo hi c items.size).1 (Builtin.Slice.sliceAdjust lo hi c items.size).2 c)).filterMap fun (k : Nat) => items[((Builtin.Slice.sliceAdjust lo hi c items.size).1 + (k : Int) * c).toNat]?) = MP.pick items.toList (MP.stepT items.size lo hi c) := by
    unfold MP.pick MP.stepT
    rw [List.filterMap_map]
    congr 1
    funext k
    simp
  rw [e]
  first
    | exact wpAny_bind (m := Builtin.Tuple.tupleExact _) (wpAny_newObj_type (wpAny_pure ⟨_, rfl, wpAny_pure h⟩) htake)
    | exact wpAny_bind (m := Builtin.Tuple.tupleExact _) (wpAny_newObj_type (wpAny_bind (wpAny_pure (wpAny_pure ⟨_, rfl, wpAny_pure h⟩))) htake)
    | exact wpAny_bind (wpAny_bind (m := Builtin.Tuple.tupleExact _) (wpAny_newObj_type (wpAny_pure (wpAny_pure ⟨_, rfl, wpAny_pure h⟩)) htake))
    | exact wpAny_bind (wpAny_bind (m := Builtin.Tuple.tupleExact _) (wpAny_newObj_type (wpAny_pure ⟨_, rfl, wpAny_pure h⟩) htake))
end
end HT
namespace MP
open PySem PySem.Spec PyProof.Rows L2
theorem Vals.pick {vs : List V} {us : List Value} (r : Vals vs us) : ∀ is : List Nat, Vals (MP.pick vs is) (MP.pick us is)
  | [] => .nil
  | i :: is => by
    have hl := r.length
    by_cases hi : i < vs.length
    · have hi' : i < us.length := by omega
      have e1 : MP.pick vs (i :: is) = vs[i] :: MP.pick vs is := by unfold MP.pick; rw [List.filterMap_cons_some (List.getElem?_eq_getElem hi)]
      have e2 : MP.pick us (i :: is) = us[i] :: MP.pick us is := by unfold MP.pick; rw [List.filterMap_cons_some (List.getElem?_eq_getElem hi')]
      rw [e1, e2]
      refine .cons ?_ (Vals.pick r is)
      have := r.drop i
      rw [List.drop_eq_getElem_cons hi, List.drop_eq_getElem_cons hi'] at this
      cases this with
      | cons a _ => exact a
    · have hi' : ¬ i < us.length := by omega
      have e1 : MP.pick vs (i :: is) = MP.pick vs is := by unfold MP.pick; rw [List.filterMap_cons_none (List.getElem?_eq_none (by omega))]
      have e2 : MP.pick us (i :: is) = MP.pick us is := by unfold MP.pick; rw [List.filterMap_cons_none (List.getElem?_eq_none (by omega))]
      rw [e1, e2]
      exact Vals.pick r is
theorem RepL.pick {K : PySem.W.Frag} {H : Hp} {m : Nat → Addr} {n : Nat} {ds : List D} {vs : List V} (r : RepL K H m n ds vs) : ∀ is : List Nat, RepL K H m n (MP.pick ds is) (MP.pick vs is)
  | [] => .nil
  | i :: is => by
    cases q : ds[i]? with
    | some d =>
      obtain ⟨v, q1, q2⟩ := r.get q
      have e1 : MP.pick ds (i :: is) = d :: MP.pick ds is := by unfold MP.pick; rw [List.filterMap_cons_some q]
      have e2 : MP.pick vs (i :: is) = v :: MP.pick vs is := by unfold MP.pick; rw [List.filterMap_cons_some q1]
      rw [e1, e2]
      exact .cons q2 (RepL.pick r is)
    | none =>
      have q1 : vs[i]? = none := by
        have := List.getElem?_eq_none_iff.mp q
        exact List.getElem?_eq_none (by rw [← r.length]; exact this)
      have e1 : MP.pick ds (i :: is) = MP.pick ds is := by unfold MP.pick; rw [List.filterMap_cons_none q]
      have e2 : MP.pick vs (i :: is) = MP.pick vs is := by unfold MP.pick; rw [List.filterMap_cons_none q1]
      rw [e1, e2]
      exact RepL.pick r is
/-- a[lo:hi:st], by values -/
def rSlr (K : PySem.W.Frag) (x : V) (lo hi : Option Int) (c : Int) (H : Hp) (Q : VK) : Prop := c ≠ 0 ∧ c ≠ 1 ∧ ((∃ a xs, x = .ref a ∧ SqT K H a xs ∧ (MP.pick xs (stepT xs.length lo hi c)).length ≤ sizeLine ∧ ∀ p, H p = none → Q (.ref p) (upd H p (.tup (MP.pick xs (stepT xs.length lo hi c))))) ∨
  ∃ a xs, x = .ref a ∧ SqL K H a xs ∧ (MP.pick xs (stepL xs.length lo hi c)).length ≤ sizeLine ∧ ∀ p, H p = none → Q (.ref p) (upd H p (.lst (MP.pick xs (stepL xs.length lo hi c)))))
theorem pe_slr {X : Cx} {e st : Expr} {lo hi : Option Expr} {te ts : TE} {tl th : TO} {p3 pos : Pos} (he : PE X e te) (hl : PO X lo tl) (hu : PO X hi th) (hs : PE X st ts) :
    PE X (.Subscript e (.Slice lo hi (some st) p3) pos) (fun σ H Q => te σ H fun x H1 => tl σ H1 fun l H2 => th σ H2 fun u H3 => ts σ H3 fun y H4 => ∃ c, y = .int c ∧ rSlr X.K x l u c H4 Q) := by
  refine ⟨fun pins s σ H Q I h => ?_⟩
  refine Subscript_ (thn (he.run pins s σ H _ I h) fun v s1 ⟨x, H1, I1, r1, q1⟩ => ?_)
  have hst : PO X (some st) (tPart ts) := po_some hs
  refine wpAny_Slice (thn (hl.run pins s1 σ H1 _ I1 q1) fun vl s2 ⟨l, H2, I2, pl, q2⟩ => thn (hu.run pins s2 σ H2 _ I2 q2) fun vu s3 ⟨u, H3, I3, pu, q3⟩ => ?_)
  refine thn (hst.run pins s3 σ H3 (fun o H4 => ∃ c, o = some c ∧ rSlr X.K x l u c H4 Q) I3 ?_) fun vs s4 ⟨o, H4, I4, ps, q4⟩ => ?_
  · have : ts σ H3 (fun y H4 => ∃ i, y = .int i ∧ ∃ c, some i = some c ∧ rSlr X.K x l u c H4 Q) := by
      have e : (fun (y : V) (H4 : Hp) => ∃ c, y = .int c ∧ rSlr X.K x l u c H4 Q) = fun y H4 => ∃ i, y = .int i ∧ ∃ c, some i = some c ∧ rSlr X.K x l u c H4 Q := by
        funext y H4
        apply propext
        constructor
        · rintro ⟨c, a, b⟩; exact ⟨c, a, c, rfl, b⟩
        · rintro ⟨i, a, c, b, d⟩; cases b; exact ⟨i, a, d⟩
      rw [← e]
      exact q3
    exact this
  obtain ⟨c, rfl, h0, h1, q⟩ := q4
  have I5 : Inv X pins σ H4 { s4 with heap := s4.heap.push { cls := .type "slice", data := .fields #[vl, vu, vs] } } := I4.kept (t' := s4.toks) fun b ob q => Heap.get?_push_of_some _ q
  show wpAny (model X.prog X.w) X.A (subscriptTail e (.Slice lo hi (some st) p3) v (.ref s4.heap.objs.size)) (EP X pins σ Q) X.xe { s4 with heap := s4.heap.push { cls := .type "slice", data := .fields #[vl, vu, vs] } }
  rcases q with ⟨a, xs, rfl, hx, hlen, q⟩ | ⟨a, xs, rfl, hx, hlen, q⟩
  · cases r1
    obtain ⟨its, r, ht, hz⟩ := I5.tuple hx
    have hl2 := r.length
    have hsz : its.toArray.size = xs.length := by rw [List.size_toArray]; exact hl2.symm
    refine tail_any (ops := [.ref a, .ref s4.heap.objs.size]) ht.typeIs (PyProof.Rows.slot_tuple_getitem.lookup) ?_ (by with_unfolding_all rfl)
    have rp : Vals (MP.pick xs (stepT xs.length l u c)) (MP.pick its.toArray.toList (stepT its.toArray.size l u c)) := by
      rw [hsz]
      exact Vals.pick r _
    refine HT.getItem_tuple_step ht (Heap.IsSliceOf.new _ vl vu vs) pl pu ps h0 h1 ?_ (by rw [← rp.length]; exact hlen)
    refine ⟨.ref _, _, I5.laid (t' := s4.toks) (o := .tup (MP.pick xs (stepT xs.length l u c))) (fun b ob q => Heap.get?_push_of_some _ q) (Nat.le_refl _) ?_, rfl, q _ (I5.hok.fresh (Nat.le_refl _))⟩
    exact ⟨hlen, _, rp, IsTup.new _ _⟩
  · cases r1
    obtain ⟨its, r, ht, hz⟩ := I5.list hx
    have hl2 := r.length
    have hsz : its.toArray.size = xs.length := by rw [List.size_toArray]; exact hl2.symm
    refine tail_any (ops := [.ref a, .ref s4.heap.objs.size]) ht.isList.typeIs (PySem.slot_list_getitem.lookup) ?_ (by with_unfolding_all rfl)
    refine wpAny_getItem_list_slice ht.isList (Heap.IsSliceOf.new _ vl vu vs) pl pu ps (fun e => h0 (Option.some.inj e)) ?_ (by rw [hsz]; exact hz)
    have e : slicePick its.toArray l u (some c) = (MP.pick its (stepL xs.length l u c)).toArray := by
      unfold slicePick MP.pick stepL
      rw [hsz]
      simp
    rw [e]
    refine ⟨.ref _, _, I5.laid (t' := s4.toks) (o := .lst (MP.pick xs (stepL xs.length l u c))) (fun b ob q => Heap.get?_push_of_some _ q) (Nat.le_refl _) ?_, rfl, q _ (I5.hok.fresh (Nat.le_refl _))⟩
    exact ⟨hlen, _, 0, Vals.pick r _, Heap.get?_push_size _ rfl⟩
theorem t_slr {K : PySem.W.Frag} {T : XT} {W : WX} {σ : L2.St} {m : Nat → Addr} {H : Hp} {h : MH} {Q : VK} {a : D} {x : V} {lo hi : Option Int} {c : Int} (R : Rel K m h H) (V1 : RepV K H m h.n a x) (O : Out K T W σ (rV K) m h.n H (slrD h a lo hi c) Q) : rSlr K x lo hi c H Q := by
  unfold slrD at O
  split at O
  · rename_i hc
    refine ⟨hc.1, hc.2, ?_⟩
    cases V1 with
    | @tup p vs ds h1 h2 =>
      have rp := RepL.pick h2 (stepT ds.length lo hi c)
      have hh := newT_ok R rp O
      rw [h2.length] at hh
      exact .inl ⟨p, vs, rfl, h1, hh⟩
    | @rol p vs ds h1 h2 =>
      have rp := RepL.pick h2 (stepL ds.length lo hi c)
      have hh := newLL_ok R rp O
      rw [h2.length] at hh
      exact .inr ⟨p, vs, rfl, h1.l, hh⟩
    | @ref i hi' =>
      have O' : Out K T W σ (rV K) m h.n H (match h.get i with
        | some (.lst ds) => newL h (MP.pick ds (stepL ds.length lo hi c))
        | _ => .bad) Q := O
      split at O'
      · rename_i ds q0
        obtain ⟨vs, q1, q2⟩ := R.lst q0
        have rp := RepL.pick q2 (stepL ds.length lo hi c)
        have hh := newLL_ok R rp O'
        rw [q2.length] at hh
        exact .inr ⟨m i, vs, rfl, SqL.of q1, hh⟩
      · exact O'.elim
    | _ => exact False.elim O
  · exact O.elim
end MP
namespace MP
open PySem PySem.Spec PyProof.Rows L2
/-- what walks stands for what we walk -/
def RepJ (K : PySem.W.Frag) : RepT Wk It := fun H m n w J => match w with
  | .tup ds => ∃ a vs, SqT K H a vs ∧ RepL K H m n ds vs ∧ J = Itt K a
  | .rol ds => ∃ a vs, SqR K H a vs ∧ RepL K H m n ds vs ∧ J = Itl K a
  | .lst i => i < n ∧ J = Itl K (m i)
  | .rng lo c k => (c = 1 ∧ J = Itr lo k) ∨ J = Itc lo c k
  | .enumL i => i < n ∧ J = Ite K (m i)
  | .zipL i j => i < n ∧ j < n ∧ J = Itz K (m i) (m j)
  | .zipT ds es => ∃ a b vs ws, SqT K H a vs ∧ RepL K H m n ds vs ∧ SqT K H b ws ∧ RepL K H m n es ws ∧ J = RZ.ItzT K a b
  | .revL i k => i < n ∧ J = Itv K (m i) k
  | .revT ds => ∃ a vs, SqT K H a vs ∧ RepL K H m n ds vs ∧ J = RT.ItvT K a vs.length
  | .revR ds => ∃ a vs, SqR K H a vs ∧ RepL K H m n ds vs ∧ J = Itv K a vs.length
section
variable {K : PySem.W.Frag} {m m' : Nat → Addr} {H H' : Hp} {h : MH} {n n' : Nat}
theorem RepJ.mono (x : Ext K m n H m' n' H') {w : Wk} {J : It} (r : RepJ K H m n w J) : RepJ K H' m' n' w J := by
  cases w with
  | tup ds => obtain ⟨a, vs, h1, h2, h3⟩ := r; exact ⟨a, vs, x.tup _ _ h1, h2.mono x, h3⟩
  | rol ds => obtain ⟨a, vs, h1, h2, h3⟩ := r; exact ⟨a, vs, x.ro _ _ h1, h2.mono x, h3⟩
  | lst i => obtain ⟨h1, h2⟩ := r; exact ⟨Nat.lt_of_lt_of_le h1 x.le, by rw [x.eq i h1]; exact h2⟩
  | rng lo c k => exact r
  | enumL i => obtain ⟨h1, h2⟩ := r; exact ⟨Nat.lt_of_lt_of_le h1 x.le, by rw [x.eq i h1]; exact h2⟩
  | zipL i j => obtain ⟨h1, h2, h3⟩ := r; exact ⟨Nat.lt_of_lt_of_le h1 x.le, Nat.lt_of_lt_of_le h2 x.le, by rw [x.eq i h1, x.eq j h2]; exact h3⟩
  | zipT ds es => obtain ⟨a, b, vs, ws, h1, h2, h3, h4, h5⟩ := r; exact ⟨a, b, vs, ws, x.tup _ _ h1, h2.mono x, x.tup _ _ h3, h4.mono x, h5⟩
  | revL i k => obtain ⟨h1, h2⟩ := r; exact ⟨Nat.lt_of_lt_of_le h1 x.le, by rw [x.eq i h1]; exact h2⟩
  | revT ds => obtain ⟨a, vs, h1, h2, h3⟩ := r; exact ⟨a, vs, x.tup _ _ h1, h2.mono x, h3⟩
  | revR ds => obtain ⟨a, vs, h1, h2, h3⟩ := r; exact ⟨a, vs, x.ro _ _ h1, h2.mono x, h3⟩
theorem get_at {ds : List D} {vs : List V} {i : Nat} (r : RepL K H m n ds vs) : (∀ d, ds[i]? = some d → ∃ v, vs[i]? = some v ∧ RepV K H m n d v) ∧ (ds[i]? = none → vs.length ≤ i) :=
  ⟨fun d e => r.get e, fun e => by rw [← r.length]; exact List.getElem?_eq_none_iff.mp e⟩
theorem stop_at {α : Type} {ds : List α} {i : Nat} (e : ds[i]? = none) : ds.length ≤ i := List.getElem?_eq_none_iff.mp e
/-- the turn of a walk -/
theorem walk_at (R : Rel K m h H) {w : Wk} {J : It} {i : Nat} (r : RepJ K H m h.n w J) :
    (w.at h i = some none → J.stop i H) ∧ ∀ d, w.at h i = some (some d) → J.go i H ∧ ∀ x H', J.yld i H x H' → Ext K m h.n H m h.n H' ∧ Rel K m h H' ∧ RepV K H' m h.n d x := by
  cases w with
  | tup ds =>
    obtain ⟨a, vs, h1, h2, rfl⟩ := r
    refine ⟨fun e => ⟨vs, h1, by rw [← h2.length]; exact stop_at (Option.some.inj e)⟩, fun d e => ?_⟩
    obtain ⟨v, q1, q2⟩ := h2.get (Option.some.inj e)
    refine ⟨⟨vs, v, h1, q1⟩, ?_⟩
    rintro x H' ⟨rfl, y⟩
    have := y vs h1
    rw [q1] at this
    cases this
    exact ⟨.refl, R, q2⟩
  | rol ds =>
    obtain ⟨a, vs, h1, h2, rfl⟩ := r
    refine ⟨fun e => ⟨vs, h1.l, by rw [← h2.length]; exact stop_at (Option.some.inj e)⟩, fun d e => ?_⟩
    obtain ⟨v, q1, q2⟩ := h2.get (Option.some.inj e)
    refine ⟨⟨vs, v, h1.l, q1⟩, ?_⟩
    rintro x H' ⟨rfl, y⟩
    have := y vs h1.l
    rw [q1] at this
    cases this
    exact ⟨.refl, R, q2⟩
  | lst j =>
    obtain ⟨hj, rfl⟩ := r
    have e0 : ∀ z, (Wk.lst j).at h i = some z → ∃ ds, items h (.ref j) = some ds ∧ ds[i]? = z := fun z e => Option.map_eq_some_iff.mp e
    refine ⟨fun e => ?_, fun d e => ?_⟩
    · obtain ⟨ds, e1, e2⟩ := e0 _ e
      obtain ⟨_, vs, q1, q2⟩ := itemsR_of R e1
      exact ⟨vs, SqL.of q1, by rw [← q2.length]; exact stop_at e2⟩
    · obtain ⟨ds, e1, e2⟩ := e0 _ e
      obtain ⟨_, vs, q1, q2⟩ := itemsR_of R e1
      obtain ⟨v, q3, q4⟩ := q2.get e2
      refine ⟨⟨vs, v, SqL.of q1, q3⟩, ?_⟩
      rintro x H' ⟨rfl, y⟩
      have := y vs (SqL.of q1)
      rw [q3] at this
      cases this
      exact ⟨.refl, R, q4⟩
  | rng lo c k =>
    have e0 : ∀ z, (Wk.rng lo c k).at h i = some z → (if i < k then some (D.int (lo + i * c)) else none) = z := fun z e => Option.some.inj e
    refine ⟨fun e => ?_, fun d e => ?_⟩
    · have e := e0 _ e
      have hk : ¬ i < k := fun q => by rw [if_pos q] at e; cases e
      rcases r with ⟨_, rfl⟩ | rfl
      · exact Nat.le_of_not_lt hk
      · exact Nat.le_of_not_lt hk
    · have e := e0 _ e
      by_cases hk : i < k
      · rw [if_pos hk] at e
        cases e
        rcases r with ⟨rfl, rfl⟩ | rfl
        · refine ⟨hk, ?_⟩
          rintro x H' ⟨rfl, rfl⟩
          rw [Int.mul_one]
          exact ⟨.refl, R, .int _⟩
        · refine ⟨hk, ?_⟩
          rintro x H' ⟨rfl, rfl⟩
          exact ⟨.refl, R, .int _⟩
      · rw [if_neg hk] at e
        cases e
  | enumL j =>
    obtain ⟨hj, rfl⟩ := r
    have e0 : ∀ z, (Wk.enumL j).at h i = some z → ∃ ds, items h (.ref j) = some ds ∧ (ds[i]?.map fun d => D.tup [.int i, d]) = z := fun z e => Option.map_eq_some_iff.mp e
    refine ⟨fun e => ?_, fun d e => ?_⟩
    · obtain ⟨ds, e1, e2⟩ := e0 _ e
      obtain ⟨_, vs, q1, q2⟩ := itemsR_of R e1
      exact ⟨vs, SqL.of q1, by rw [← q2.length]; exact stop_at (Option.map_eq_none_iff.mp e2)⟩
    · obtain ⟨ds, e1, e2⟩ := e0 _ e
      obtain ⟨d', e3, rfl⟩ := Option.map_eq_some_iff.mp e2
      obtain ⟨_, vs, q1, q2⟩ := itemsR_of R e1
      obtain ⟨v, q3, q4⟩ := q2.get e3
      refine ⟨⟨vs, v, SqL.of q1, q3⟩, ?_⟩
      rintro x H' ⟨T, x', rfl, hT, rfl, y⟩
      have := y vs (SqL.of q1)
      rw [q3] at this
      cases this
      exact ⟨.laid hT, R.laid hT, .tup (SqT.of upd_same) (.cons (.int _) (.cons (q4.mono (.laid hT)) .nil))⟩
  | zipL j l =>
    obtain ⟨hj, hl, rfl⟩ := r
    have e0 : ∀ z, (Wk.zipL j l).at h i = some z → ∃ ds es, items h (.ref j) = some ds ∧ items h (.ref l) = some es ∧ (match ds[i]?, es[i]? with
        | some d, some e => some (D.tup [d, e])
        | _, _ => none) = z := fun z e => by
      have e' : (match items h (.ref j), items h (.ref l) with
        | some ds, some es => some (match ds[i]?, es[i]? with
          | some d, some e => some (D.tup [d, e])
          | _, _ => none)
        | _, _ => none) = some z := e
      split at e'
      · exact ⟨_, _, by assumption, by assumption, Option.some.inj e'⟩
      · cases e'
    refine ⟨fun e => ?_, fun d e => ?_⟩
    · obtain ⟨ds, es, e1, e2, e3⟩ := e0 _ e
      obtain ⟨_, vs, q1, q2⟩ := itemsR_of R e1
      obtain ⟨_, ws, q3, q4⟩ := itemsR_of R e2
      refine ⟨vs, ws, SqL.of q1, SqL.of q3, ?_⟩
      rw [← q2.length, ← q4.length]
      cases z1 : ds[i]? with
      | none => exact .inl (stop_at z1)
      | some d =>
        cases z2 : es[i]? with
        | none => exact .inr (stop_at z2)
        | some d => rw [z1, z2] at e3; cases e3
    · obtain ⟨ds, es, e1, e2, e3⟩ := e0 _ e
      obtain ⟨_, vs, q1, q2⟩ := itemsR_of R e1
      obtain ⟨_, ws, q3, q4⟩ := itemsR_of R e2
      cases z1 : ds[i]? with
      | none => rw [z1] at e3; cases e3
      | some d1 =>
        cases z2 : es[i]? with
        | none => rw [z1, z2] at e3; cases e3
        | some d2 =>
          rw [z1, z2] at e3
          cases e3
          obtain ⟨v, v1, v2⟩ := q2.get z1
          obtain ⟨w, w1, w2⟩ := q4.get z2
          refine ⟨⟨vs, ws, v, w, SqL.of q1, SqL.of q3, v1, w1⟩, ?_⟩
          rintro x H' ⟨T, x', y', rfl, hT, rfl, y1, y2⟩
          have a1 := y1 vs (SqL.of q1)
          rw [v1] at a1
          cases a1
          have a2 := y2 ws (SqL.of q3)
          rw [w1] at a2
          cases a2
          exact ⟨.laid hT, R.laid hT, .tup (SqT.of upd_same) (.cons (v2.mono (.laid hT)) (.cons (w2.mono (.laid hT)) .nil))⟩
  | zipT ds es =>
    obtain ⟨a, b, vs, ws, h1, h2, h3, h4, rfl⟩ := r
    have e0 : ∀ z, (Wk.zipT ds es).at h i = some z → (match ds[i]?, es[i]? with
        | some d, some e => some (D.tup [d, e])
        | _, _ => none) = z := fun z e => Option.some.inj e
    refine ⟨fun e => ?_, fun d e => ?_⟩
    · have e3 := e0 _ e
      refine ⟨vs, ws, h1, h3, ?_⟩
      rw [← h2.length, ← h4.length]
      cases z1 : ds[i]? with
      | none => exact .inl (stop_at z1)
      | some d =>
        cases z2 : es[i]? with
        | none => exact .inr (stop_at z2)
        | some d => rw [z1, z2] at e3; cases e3
    · have e3 := e0 _ e
      cases z1 : ds[i]? with
      | none => rw [z1] at e3; cases e3
      | some d1 =>
        cases z2 : es[i]? with
        | none => rw [z1, z2] at e3; cases e3
        | some d2 =>
          rw [z1, z2] at e3
          cases e3
          obtain ⟨v, v1, v2⟩ := h2.get z1
          obtain ⟨w, w1, w2⟩ := h4.get z2
          refine ⟨⟨vs, ws, v, w, h1, h3, v1, w1⟩, ?_⟩
          rintro x H' ⟨T, x', y', rfl, hT, rfl, y1, y2⟩
          have a1 := y1 vs h1
          rw [v1] at a1
          cases a1
          have a2 := y2 ws h3
          rw [w1] at a2
          cases a2
          exact ⟨.laid hT, R.laid hT, .tup (SqT.of upd_same) (.cons (v2.mono (.laid hT)) (.cons (w2.mono (.laid hT)) .nil))⟩
  | revL j k =>
    obtain ⟨hj, rfl⟩ := r
    have e0 : ∀ z, (Wk.revL j k).at h i = some z → (k ≤ i ∧ z = none) ∨ (i < k ∧ ∃ ds d, items h (.ref j) = some ds ∧ ds[k - 1 - i]? = some d ∧ z = some d) := fun z e => by
      have e' : (match Nat.blt i k with
        | false => some none
        | true => match items h (.ref j) with
          | some ds => match ds[k - 1 - i]? with
            | some d => some (some d)
            | none => none
          | none => none) = some z := e
      split at e'
      · rename_i hb
        refine .inl ⟨?_, (Option.some.inj e').symm⟩
        by_cases q : i < k
        · rw [show Nat.blt i k = true from Nat.ble_eq_true_of_le q] at hb; cases hb
        · exact Nat.le_of_not_lt q
      · rename_i hb
        split at e'
        · split at e'
          · exact .inr ⟨Nat.le_of_ble_eq_true hb, _, _, by assumption, by assumption, (Option.some.inj e').symm⟩
          · cases e'
        · cases e'
    refine ⟨fun e => ?_, fun d e => ?_⟩
    · rcases e0 _ e with ⟨q, _⟩ | ⟨_, ds, d, _, _, q⟩
      · exact q
      · cases q
    · rcases e0 _ e with ⟨_, q⟩ | ⟨hk, ds, d, e1, e2, q⟩
      · cases q
      · cases q
        obtain ⟨_, vs, q1, q2⟩ := itemsR_of R e1
        obtain ⟨v, v1, v2⟩ := q2.get e2
        refine ⟨⟨hk, vs, v, SqL.of q1, v1⟩, ?_⟩
        rintro x H' ⟨rfl, y⟩
        have a1 := y vs (SqL.of q1)
        rw [v1] at a1
        cases a1
        exact ⟨.refl, R, v2⟩
  | revT ds =>
    obtain ⟨a, vs, h1, h2, rfl⟩ := r
    have e0 : ∀ z, (Wk.revT ds).at h i = some z → (if i < ds.length then ds[ds.length - 1 - i]? else none) = z := fun z e => Option.some.inj e
    refine ⟨fun e => ?_, fun d e => ?_⟩
    · have e := e0 _ e
      show vs.length ≤ i
      rw [← h2.length]
      split at e
      · rename_i hk
        have := stop_at e
        omega
      · omega
    · have e := e0 _ e
      split at e
      · rename_i hk
        obtain ⟨v, v1, v2⟩ := h2.get e
        rw [h2.length] at hk v1
        refine ⟨⟨hk, vs, v, h1, v1⟩, ?_⟩
        rintro x H' ⟨rfl, y⟩
        have a1 := y vs h1
        rw [v1] at a1
        cases a1
        exact ⟨.refl, R, v2⟩
      · cases e
  | revR ds =>
    obtain ⟨a, vs, h1, h2, rfl⟩ := r
    have e0 : ∀ z, (Wk.revR ds).at h i = some z → (if i < ds.length then ds[ds.length - 1 - i]? else none) = z := fun z e => Option.some.inj e
    refine ⟨fun e => ?_, fun d e => ?_⟩
    · have e := e0 _ e
      show vs.length ≤ i
      rw [← h2.length]
      split at e
      · rename_i hk
        have := stop_at e
        omega
      · omega
    · have e := e0 _ e
      split at e
      · rename_i hk
        obtain ⟨v, v1, v2⟩ := h2.get e
        rw [h2.length] at hk v1
        refine ⟨⟨hk, vs, v, h1.l, v1⟩, ?_⟩
        rintro x H' ⟨rfl, y⟩
        have a1 := y vs h1.l
        rw [v1] at a1
        cases a1
        exact ⟨.refl, R, v2⟩
      · cases e
end
section
variable {g : GT} {P : Prog} {T : XT} {f : FT} {k : Nat} {X : Cx} {c : MP.Ctx} {W : WX} {r : Rec} {tg : Expr}
/-- a list or a tuple, walked -/
def iSeq (K : PySem.W.Frag) (tl : TE) : TI := fun σ H R => tl σ H fun x H1 => ∃ a, x = .ref a ∧ (((∃ xs, SqL K H1 a xs) ∧ R (Itl K a) H1) ∨ ((∃ xs, SqT K H1 a xs) ∧ R (Itt K a) H1))
theorem pi_seq {l : Expr} {tl : TE} (hl : PE X l tl) : PI X tg l (iSeq X.K tl) := by
  refine ⟨fun pins s σ H R I h => ?_⟩
  refine thn (hl.run pins s σ H _ I h) fun v s1 ⟨x, H1, I1, r1, q1⟩ => ?_
  obtain ⟨a, e, q1⟩ := q1
  subst e
  cases r1
  rcases q1 with ⟨⟨xs, hq⟩, q⟩ | ⟨⟨xs, hq⟩, q⟩
  · obtain ⟨its, rv, p, hz⟩ := I1.list hq
    refine wpAny_pyIter_list p.isList ?_
    refine ⟨s1.heap.objs.size, [s1.heap.objs.size], _, _, H1, rfl, I1.kept (t' := s1.toks) fun b o e => Heap.get?_push_of_some _ e, turn_list a _, ⟨_, Heap.get?_push_size _ rfl, rfl, rfl⟩, fun b hb => ?_, q⟩
    have e : b = s1.heap.objs.size := by simpa using hb
    subst e
    exact I1.fpOk (Nat.le_refl _) (I1.hok.fresh (Nat.le_refl _))
  · obtain ⟨its, rv, p, hz⟩ := I1.tuple hq
    refine wpAny_pyIter_tuple (show s1.heap.IsTuple a its.toArray from p) ?_
    refine ⟨s1.heap.objs.size, [s1.heap.objs.size], _, _, H1, rfl, I1.kept (t' := s1.toks) fun b o e => Heap.get?_push_of_some _ e, turn_tuple a _, ⟨_, Heap.get?_push_size _ rfl, rfl, rfl⟩, fun b hb => ?_, q⟩
    have e : b = s1.heap.objs.size := by simpa using hb
    subst e
    exact I1.fpOk (Nat.le_refl _) (I1.hok.fresh (Nat.le_refl _))
variable (S : SndE g P T f k r) (G : Good g P T f k X c W)
include S G
theorem pi_itv {n : Nat} {e : Expr} {x : Ex} (h : (cE g n c e).map .itv = some x) : PI X tg e (rd X.K T W (RepJ X.K) (wkD r x)) := by
  obtain ⟨y, e1, rfl⟩ := Option.map_eq_some_iff.mp h
  refine PI.weak (pi_seq (S.e G e1)) ?_
  rintro σ H Q ⟨m, env, h, R, E, O⟩
  refine ⟨m, env, h, R, E, Out.step O fun d h1 m1 H1 v1 _ x1 R1 V1 O1 => ?_⟩
  cases V1 with
  | @tup p vs ds w1 w2 => exact ⟨p, rfl, .inr ⟨⟨vs, w1⟩, O1.here R1 ⟨p, vs, w1, w2, rfl⟩⟩⟩
  | @rol p vs ds w1 w2 => exact ⟨p, rfl, .inl ⟨⟨vs, w1.l⟩, O1.here R1 ⟨p, vs, w1, w2, rfl⟩⟩⟩
  | @ref i hi =>
    have O' : Out X.K T W σ (RepJ X.K) m1 h1.n H1 (match items h1 (.ref i) with
      | some ds => .ok (.lst i) h1
      | none => .bad) Q := O1
    split at O'
    · rename_i ds e2
      obtain ⟨_, vs, q1, q2⟩ := itemsR_of R1 e2
      exact ⟨m1 i, rfl, .inl ⟨⟨vs, SqL.of q1⟩, O'.here R1 ⟨hi, rfl⟩⟩⟩
    · exact O'.elim
  | _ => exact False.elim O1
theorem pi_of {n : Nat} {e : Expr} {x : Ex} (h : cW g (cE g n c) c tg e = some x) : PI X tg e (rd X.K T W (RepJ X.K) (wkD r x)) := by
  unfold cW at h
  split at h
  · rename_i y p es q
    split at h
    · rename_i hl hf
      rw [Bool.and_eq_true] at hf
      obtain ⟨q1, q2, q3, q4⟩ := G.free hf.1
      by_cases e1 : (y == ("range" : Str)) = true
      · rw [if_pos e1] at h
        have := eq_of_beq e1
        subst this
        split at h
        · rename_i a
          obtain ⟨z, e2, rfl⟩ := Option.map_eq_some_iff.mp h
          have ha : PA X [a] (rd X.K T W (rL X.K) (evL r [z])) := pa_of S G hf.2 (by unfold mapO; rw [e2]; rfl)
          refine PI.weak (pi_range1 q1 q2 ha (star_ns (es := []) (by simpa using hf.2))) ?_
          rintro σ H Q ⟨m, env, h, R, E, O⟩
          have O : Out X.K T W σ (RepJ X.K) m h.n H ((r.e z env h).bind fun d h => match d with
            | .int j => if -(2 ^ 62) ≤ j ∧ j < 2 ^ 62 then .ok (.rng 0 1 j.toNat) h else .bad
            | _ => .bad) Q := O
          refine ⟨m, env, h, R, E, ?_⟩
          show Out X.K T W σ (rL X.K) m h.n H ((r.e z env h).bind fun d h => .ok [d] h) _
          cases hz : r.e z env h with
          | bad => rw [hz] at O; exact O
          | ex x h' => rw [hz] at O; exact O
          | ok d h' =>
            rw [hz] at O
            intro m1 H1 vs x1 R1 V1
            obtain ⟨v, rfl, r1⟩ := V1.one
            have O := Out.ext x1 O
            cases r1 with
            | int j =>
              have O' : Out X.K T W σ (RepJ X.K) m1 h'.n H1 (if -(2 ^ 62) ≤ j ∧ j < 2 ^ 62 then .ok (.rng 0 1 j.toNat) h' else .bad) Q := O
              split at O'
              · rename_i hj
                exact ⟨j, rfl, hj.1, hj.2, O'.here R1 (.inl ⟨rfl, rfl⟩)⟩
              · exact O'.elim
            | _ => exact False.elim O
        · rename_i a b
          obtain ⟨zs, e2, rfl⟩ := Option.map_eq_some_iff.mp h
          obtain ⟨z1, zs', rfl, e3, e4⟩ := mapO_cons e2
          obtain ⟨z2, zs'', rfl, e5, e6⟩ := mapO_cons e4
          rw [mapO_nil e6] at e2 ⊢
          have ha := pa_of S G hf.2 e2
          have hs : notStar a = true ∧ notStar b = true := by simpa using hf.2
          refine PI.weak (pi_range2 q1 q2 ha ((star_ns hs.1).trans (congrArg _ (star_ns hs.2))) (star_ns hs.2)) ?_
          rintro σ H Q ⟨m, env, h, R, E, O⟩
          refine ⟨m, env, h, R, E, Out.step O fun d h1 m1 H1 vs _ x1 R1 V1 O1 => ?_⟩
          split at O1
          · rename_i i j _
            obtain ⟨v, w, rfl, r1, r2⟩ := V1.two
            cases r1
            cases r2
            split at O1
            · rename_i hj
              exact ⟨i, j, rfl, hj, O1.here R1 (.inl ⟨rfl, rfl⟩)⟩
            · exact O1.elim
          · exact O1.elim
        · rename_i a b d
          obtain ⟨zs, e2, rfl⟩ := Option.map_eq_some_iff.mp h
          obtain ⟨z1, zs', rfl, e3, e4⟩ := mapO_cons e2
          obtain ⟨z2, zs'', rfl, e5, e6⟩ := mapO_cons e4
          obtain ⟨z3, zs3, rfl, e7, e8⟩ := mapO_cons e6
          rw [mapO_nil e8] at e2 ⊢
          have ha := pa_of S G hf.2 e2
          have hs : notStar a = true ∧ notStar b = true ∧ notStar d = true := by simpa using hf.2
          refine PI.weak (pi_range3 q1 q2 ha (star_ns hs.1) (star_pl (by simp [hs.2]))) ?_
          rintro σ H Q ⟨m, env, h, R, E, O⟩
          refine ⟨m, env, h, R, E, Out.step O fun d h1 m1 H1 vs _ x1 R1 V1 O1 => ?_⟩
          split at O1
          · rename_i i j l _
            obtain ⟨v, ws, rfl, r1, r2⟩ : ∃ v ws, vs = v :: ws ∧ RepV X.K H1 m1 h1.n (.int i) v ∧ RepL X.K H1 m1 h1.n [.int j, .int l] ws := by cases V1 with | cons a b => exact ⟨_, _, rfl, a, b⟩
            obtain ⟨w1, w2, rfl, r3, r4⟩ := r2.two
            cases r1
            cases r3
            cases r4
            split at O1
            · rename_i hj
              have hn : 0 ≤ Builtin.Range.rangeSize i j l := by
                unfold Builtin.Range.rangeSize
                repeat' split
                all_goals first
                  | omega
                  | (have := Int.ediv_nonneg (show 0 ≤ j - i - 1 by omega) (show 0 ≤ l by omega); omega)
                  | (have := Int.ediv_nonneg (show 0 ≤ i - j - 1 by omega) (show 0 ≤ -l by omega); omega)
              exact ⟨i, j, l, (Builtin.Range.rangeSize i j l).toNat, rfl, ⟨hj.1, hj.2.1, hj.2.2, (Int.toNat_of_nonneg hn).symm⟩, O1.here R1 (.inr rfl)⟩
            · exact O1.elim
          · exact O1.elim
        · cases h
      · rw [if_neg e1] at h
        by_cases e2 : (y == ("enumerate" : Str)) = true
        · rw [if_pos e2] at h
          have := eq_of_beq e2
          subst this
          split at h
          · rename_i a
            obtain ⟨z, e2, rfl⟩ := Option.map_eq_some_iff.mp h
            have ha : PA X [a] (rd X.K T W (rL X.K) (evL r [z])) := pa_of S G hf.2 (by unfold mapO; rw [e2]; rfl)
            refine PI.weak (pi_enum q1 q2 ha (star_ns (es := []) (by simpa using hf.2))) ?_
            rintro σ H Q ⟨m, env, h, R, E, O⟩
            have O : Out X.K T W σ (RepJ X.K) m h.n H ((r.e z env h).bind fun d h => match d with
              | .ref i => match items h (.ref i) with
                | some ds => .ok (.enumL i) h
                | none => .bad
              | _ => .bad) Q := O
            refine ⟨m, env, h, R, E, ?_⟩
            show Out X.K T W σ (rL X.K) m h.n H ((r.e z env h).bind fun d h => .ok [d] h) _
            cases hz : r.e z env h with
            | bad => rw [hz] at O; exact O
            | ex x h' => rw [hz] at O; exact O
            | ok d h' =>
              rw [hz] at O
              intro m1 H1 vs x1 R1 V1
              obtain ⟨v, rfl, r1⟩ := V1.one
              have O := Out.ext x1 O
              cases r1 with
              | @ref i hi =>
                have O' : Out X.K T W σ (RepJ X.K) m1 h'.n H1 (match items h' (.ref i) with
                  | some ds => .ok (.enumL i) h'
                  | none => .bad) Q := O
                split at O'
                · rename_i ds hj
                  obtain ⟨_, vs, q1, q2⟩ := itemsR_of R1 hj
                  exact ⟨m1 i, vs, rfl, SqL.of q1, O'.here R1 ⟨hi, rfl⟩⟩
                · exact O'.elim
              | _ => exact False.elim O
          · cases h
        · rw [if_neg e2] at h
          by_cases e3 : (y == ("zip" : Str)) = true
          · rw [if_pos e3] at h
            have := eq_of_beq e3
            subst this
            split at h
            · rename_i a b
              split at h
              · rename_i z1 z2 e4 e5
                cases h
                have ha : PA X [a, b] (rd X.K T W (rL X.K) (evL r [z1, z2])) := pa_of S G hf.2 (by unfold mapO; rw [e4]; unfold mapO; rw [e5]; rfl)
                have hs : notStar a = true ∧ notStar b = true := by simpa using hf.2
                refine PI.weak (RZ.pi_zipA q1 q2 ha (star_ns hs.1) (star_pl (by simp [hs.2]))) ?_
                rintro σ H Q ⟨m, env, h, R, E, O⟩
                refine ⟨m, env, h, R, E, Out.step O fun d h1 m1 H1 vs _ x1 R1 V1 O1 => ?_⟩
                split at O1
                · rename_i i j _
                  obtain ⟨v, w, rfl, r1, r2⟩ := V1.two
                  cases r1 with | ref hi =>
                  cases r2 with | ref hj =>
                  split at O1
                  · rename_i xs ys e6 e7
                    obtain ⟨_, vs, q1, q2⟩ := itemsR_of R1 e6
                    obtain ⟨_, ws, q3, q4⟩ := itemsR_of R1 e7
                    exact ⟨m1 i, m1 j, vs, ws, rfl, .inl ⟨SqL.of q1, SqL.of q3, O1.here R1 ⟨hi, hj, rfl⟩⟩⟩
                  · exact O1.elim
                · rename_i ds es _
                  obtain ⟨v, w, rfl, r1, r2⟩ := V1.two
                  cases r1 with | @tup p1 vs1 _ k1 k2 =>
                  cases r2 with | @tup p2 vs2 _ k3 k4 =>
                  exact ⟨p1, p2, vs1, vs2, rfl, .inr ⟨k1, k3, O1.here R1 ⟨p1, p2, vs1, vs2, k1, k2, k3, k4, rfl⟩⟩⟩
                · exact O1.elim
              · cases h
            · cases h
          · rw [if_neg e3] at h
            by_cases e4 : (y == ("reversed" : Str)) = true
            · rw [if_pos e4] at h
              have := eq_of_beq e4
              subst this
              split at h
              · rename_i a
                obtain ⟨z, e5, rfl⟩ := Option.map_eq_some_iff.mp h
                refine PI.weak (RT.pi_revA q1 q2 (S.e G e5) (star_ns (by simpa using hf.2))) ?_
                rintro σ H Q ⟨m, env, h, R, E, O⟩
                refine ⟨m, env, h, R, E, Out.step O fun d h1 m1 H1 v1 _ x1 R1 V1 O1 => ?_⟩
                cases V1 with
                | @tup p vs ds w1 w2 => exact ⟨p, vs, rfl, .inr ⟨w1, O1.here R1 ⟨p, vs, w1, w2, rfl⟩⟩⟩
                | @rol p vs ds w1 w2 => exact ⟨p, vs, rfl, .inl ⟨w1.l, O1.here R1 ⟨p, vs, w1, w2, rfl⟩⟩⟩
                | @ref i hi =>
                  have O' : Out X.K T W σ (RepJ X.K) m1 h1.n H1 (match items h1 (.ref i) with
                    | some ds => .ok (.revL i ds.length) h1
                    | none => .bad) Q := O1
                  split at O'
                  · rename_i ds e2
                    obtain ⟨_, vs, q1, q2⟩ := itemsR_of R1 e2
                    exact ⟨m1 i, vs, rfl, .inl ⟨SqL.of q1, O'.here R1 ⟨hi, by rw [q2.length]⟩⟩⟩
                  · exact O'.elim
                | _ => exact False.elim O1
              · cases h
            · rw [if_neg e4] at h
              exact pi_itv S G h
    · exact pi_itv S G h
  · exact pi_itv S G h
end
end MP
namespace MP
open PySem PySem.Spec PyProof.Rows L2
section
theorem wipe_setA {x : Option V} {i : Nat} : ∀ (vs : List Nat) (σ : L2.St), (wipe (σ.set i x) vs).set i none = (wipe σ vs).set i none
  | [], σ => by simp [wipe]
  | v :: vs, σ => by
    unfold wipe
    by_cases e : v = i
    · subst e
      rw [List.set_set, List.set_set]
      exact wipe_setA vs σ
    · rw [List.set_comm _ _ e, List.set_comm _ _ e, wipe_setA vs σ]
theorem wipe_set {x : Option V} {i : Nat} : ∀ (vs : List Nat) (σ : L2.St), vs.contains i = true → wipe (σ.set i x) vs = wipe σ vs
  | [], σ, h => by cases h
  | v :: vs, σ, h => by
    unfold wipe
    by_cases e : v = i
    · subst e
      exact wipe_setA vs σ
    · rw [wipe_set vs σ (by
        rw [List.contains_cons, Bool.or_eq_true] at h
        rcases h with h | h
        · exact absurd (eq_of_beq h).symm e
        · exact h)]
theorem wipe_twice : ∀ (vs : List Nat) (σ : L2.St), wipe (wipe σ vs) vs = wipe σ vs
  | [], σ => rfl
  | v :: vs, σ => by
    show (wipe ((wipe σ vs).set v none) vs).set v none = (wipe σ vs).set v none
    rw [wipe_setA, wipe_twice vs σ]
theorem RepE.set0 {K : PySem.W.Frag} {H : Hp} {m : Nat → Addr} {n : Nat} {env : Env} {σ : L2.St} {i : Nat} (e : RepE K H m n env σ) : RepE K H m n (env.set i none) (σ.set i none) := by
  refine ⟨by simp [e.1], fun j x q => ?_⟩
  by_cases hj : i = j
  · subst hj
    by_cases hl : i < env.length
    · rw [List.getElem?_set_self hl] at q
      cases q
    · rw [List.getElem?_eq_none (by simpa using hl)] at q
      cases q
  · rw [List.getElem?_set_ne hj] at q
    obtain ⟨u, q1, q2⟩ := e.2 j x q
    exact ⟨u, by rw [List.getElem?_set_ne hj]; exact q1, q2⟩
theorem RepE.wipe {K : PySem.W.Frag} {H : Hp} {m : Nat → Addr} {n : Nat} {env : Env} {σ : L2.St} (e : RepE K H m n env σ) : ∀ vs : List Nat, RepE K H m n (wipeD env vs) (L2.wipe σ vs)
  | [] => e
  | v :: vs => (RepE.wipe e vs).set0
theorem bind_ok {α β : Type} {r : Res α} {F : α → MH → Res β} {b : β} {h : MH} (e : r.bind F = .ok b h) : ∃ a h1, r = .ok a h1 ∧ F a h1 = .ok b h := by
  cases r with
  | ok a h1 => exact ⟨a, h1, rfl, e⟩
  | ex x h1 => cases e
  | bad => cases e
end
/-- the reading of a target (names alone) -/
def rdG (K : PySem.W.Frag) (r : Rec) (tg : Ex) : TG := fun v σ H Q => ∃ m env h d env', Rel K m h H ∧ RepE K H m h.n env σ ∧ RepV K H m h.n d v ∧ asgD r tg d env h = .nx env' h ∧
  ∀ m' H' σ', Ext K m h.n H m' h.n H' → Rel K m' h H' → RepE K H' m' h.n env' σ' → (∀ own, tgIn own tg = true → wipe σ' own = wipe σ own) → Q σ' H'
def rdGs (K : PySem.W.Frag) (r : Rec) (tgs : List Ex) : TGs := fun vs σ H Q => ∃ m env h ds env', Rel K m h H ∧ RepE K H m h.n env σ ∧ RepL K H m h.n ds vs ∧ asgD.go tgs ds env h = .nx env' h ∧
  ∀ m' H' σ', Ext K m h.n H m' h.n H' → Rel K m' h H' → RepE K H' m' h.n env' σ' → (∀ own, tgIn own (.tup [] tgs) = true → wipe σ' own = wipe σ own) → Q σ' H'
theorem PGs.weak {X : Cx} {es : List Expr} {t t' : TGs} (h : PGs X es t) (k : ∀ vs σ H Q, t' vs σ H Q → t vs σ H Q) : PGs X es t' := ⟨fun pins s σ H vs us Q I r q => h.run pins s σ H vs us Q I r (k vs σ H Q q)⟩
section
variable {g : GT} {P : Prog} {T : XT} {f : FT} {k : Nat} {X : Cx} {c : MP.Ctx} {W : WX} {r : Rec}
/-- the names of a tuple target -/
def nmT (c : MP.Ctx) (e : Expr) : Option Ex := match e with
  | .Name x _ => (tgC c x).map Ex.var
  | _ => none
theorem nmT_inv {e : Expr} {y : Ex} (h : nmT c e = some y) : ∃ x p i, e = .Name x p ∧ tgC c x = some i ∧ y = .var i := by
  cases e with
  | Name x p =>
    obtain ⟨i, e1, rfl⟩ := Option.map_eq_some_iff.mp (show (tgC c x).map Ex.var = some y from h)
    exact ⟨x, p, i, rfl, e1, rfl⟩
  | _ => cases h
theorem go_inv : ∀ (xs : List Ex) (ds : List D) (env : Env) (h : MH) (env' : Env) (h' : MH), asgD.go xs ds env h = .nx env' h' → ds.length = xs.length ∧ h' = h := by
  intro xs
  induction xs with
  | nil => intro ds env h env' h' e; cases ds with
    | nil => cases e; exact ⟨rfl, rfl⟩
    | cons _ _ => cases e
  | cons x xs ih => intro ds env h env' h' e; cases ds with
    | nil => cases x <;> cases e
    | cons d ds =>
      cases x with
      | var i =>
        obtain ⟨h1, h2⟩ := ih ds _ _ _ _ e
        exact ⟨by rw [List.length_cons, List.length_cons, h1], h2⟩
      | _ => cases e
theorem asg_heap {r : Rec} {e : Expr} {x : Ex} {d : D} {env env' : Env} {h h' : MH} (hc : cTg c e = some x) (e1 : asgD r x d env h = .nx env' h') : h' = h := by
  unfold cTg at hc
  split at hc
  · obtain ⟨i, _, rfl⟩ := Option.map_eq_some_iff.mp hc
    cases e1
    rfl
  · obtain ⟨xs, _, rfl⟩ := Option.map_eq_some_iff.mp hc
    cases d with
    | tup ds => exact (go_inv _ _ _ _ _ _ e1).2
    | _ => cases e1
  · cases hc
theorem each_of {env : PySem.Env} : ∀ {ts : List Expr} {xs : List Ex}, mapO (nmT c) ts = some xs → (assignEach ts env).length = ts.length ∧ (assignEach ts env).findIdx? (·.1) = none ∧ xs.length = ts.length
  | [], xs, h => by rw [mapO_nil h]; exact ⟨rfl, rfl, rfl⟩
  | t :: ts, xs, h => by
    obtain ⟨y, ys, rfl, e1, e2⟩ := mapO_cons h
    obtain ⟨x, p, i, rfl, _, rfl⟩ := nmT_inv e1
    obtain ⟨h1, h2, h3⟩ := each_of (env := env) e2
    refine ⟨by show (assignEach ts env).length + 1 = _; rw [h1]; rfl, ?_, by simp [h3]⟩
    show ((false, assign (.Name x p) env) :: assignEach ts env).findIdx? (·.1) = none
    rw [List.findIdx?_cons, h2]
    rfl
variable (G : Good g P T f k X c W)
include G
theorem pgs_of : ∀ {ts : List Expr} {xs : List Ex}, mapO (nmT c) ts = some xs → PGs X ts (rdGs X.K r xs) := by
  intro ts
  induction ts with
  | nil =>
    intro xs h
    rw [mapO_nil h]
    refine PGs.weak pgs_nil ?_
    rintro vs σ H Q ⟨m, env, h, ds, env', R, E, V, e, q⟩
    cases ds with
    | nil =>
      cases V
      have e' : RS.nx env h = .nx env' h := e
      cases e'
      exact ⟨rfl, q m H σ .refl R E fun _ _ => rfl⟩
    | cons d ds => cases e
  | cons t ts ih =>
    intro xs h
    obtain ⟨y, ys, rfl, e1, e2⟩ := mapO_cons h
    obtain ⟨x, p, i, rfl, e3, rfl⟩ := nmT_inv e1
    obtain ⟨q1, q2, q3⟩ := G.tg e3
    refine PGs.weak (pgs_cons (pg_name (pos := p) G.nd q1 q2 q3) (ih e2)) ?_
    rintro vs σ H Q ⟨m, env, h, ds, env', R, E, V, e, q⟩
    cases V with
    | nil => cases e
    | @cons d ds v vs r1 r2 =>
      refine ⟨v, vs, rfl, ?_⟩
      refine ⟨m, env.set i (some d), h, ds, env', R, E.set r1, r2, e, fun m' H' σ' x1 R1 E1 hw => q m' H' σ' x1 R1 E1 fun own ho => ?_⟩
      have ho' : own.contains i = true ∧ tgIn own (.tup [] ys) = true := by
        have z : ((own.contains i) && ys.all fun x => match x with
          | .var i => own.contains i
          | _ => false) = true := ho
        rw [Bool.and_eq_true] at z
        exact z
      rw [hw own ho'.2, wipe_set own σ ho'.1]
theorem pg_of {e : Expr} {x : Ex} (h : cTg c e = some x) : PG X e (rdG X.K r x) := by
  unfold cTg at h
  split at h
  · rename_i y p
    obtain ⟨i, e1, rfl⟩ := Option.map_eq_some_iff.mp h
    obtain ⟨q1, q2, q3⟩ := G.tg e1
    refine PG.weak (pg_name (pos := p) G.nd q1 q2 q3) ?_
    rintro v σ H Q ⟨m, env, h, d, env', R, E, V, e, q⟩
    have e' : RS.nx (env.set i (some d)) h = .nx env' h := e
    cases e'
    exact q m H _ .refl R (E.set V) fun own ho => wipe_set own σ ho
  · rename_i ts kk p
    obtain ⟨xs, e1, rfl⟩ := Option.map_eq_some_iff.mp h
    have e1 : mapO (nmT c) ts = some xs := e1
    obtain ⟨h1, h2, h3⟩ := each_of (env := X.env) e1
    refine PG.weak (pg_tup (n := ts.length) G.calm (pgs_of (r := r) G e1) h1 h2) ?_
    rintro v σ H Q ⟨m, env, h, d, env', R, E, V, e, q⟩
    cases V with
    | @tup a vs ds w1 w2 =>
      have e' : asgD.go xs ds env h = .nx env' h := e
      refine ⟨a, vs, rfl, w1, ?_, m, env, h, ds, env', R, E, w2, e', q⟩
      rw [← w2.length, ← h3]
      exact (go_inv _ _ _ _ _ _ e').1
    | _ => cases e
  · cases h
end
/-- what a comprehension's rule asks, with its reading -/
def LcR (X : Cx) (c : MP.Ctx) (T : XT) (W : WX) (scope : Scope) (elt tg it : Expr) (ifs : List Expr) (F : Env → MH → Res D) : Prop :=
    ∃ (wi : TI) (gg : TG) (tt : TT) (te : TE), PI X tg it wi ∧ BlkOk X.N X.env.scope scope (ownC c scope) ∧
      (∀ (s : Shared) (H : Hp) (C : Addr) (cl : List (Str × Addr)) (fp : List Addr), PG (X.blk s H scope (compEnvC scope cl C X.env) fp) tg gg) ∧
      (∀ (s : Shared) (H : Hp) (C : Addr) (cl : List (Str × Addr)) (fp : List Addr), PTs (X.blk s H scope (compEnvC scope cl C X.env) fp) ifs tt) ∧
      (∀ (s : Shared) (H : Hp) (C : Addr) (cl : List (Str × Addr)) (fp : List Addr), PE (X.blk s H scope (compEnvC scope cl C X.env) fp) elt te) ∧
      (∀ y, foldedSetIterable it X.env y = pure y) ∧
      ∀ σ H Q, rd X.K T W (rV X.K) F σ H Q → tLc wi gg tt te ((ownC c scope).map (·.2)) σ H Q
section
variable {g : GT} {P : Prog} {T : XT} {f : FT} {k : Nat} {X : Cx} {c : MP.Ctx} {W : WX} {r : Rec}
variable (S : SndE g P T f k r) (G : Good g P T f k X c W)
include S G
omit S G in
theorem lc_bot {scope : Scope} {elt tg it : Expr} {ifs : List Expr} (h1 : BlkOk X.N X.env.scope scope (ownC c scope)) (h2 : ∀ y, foldedSetIterable it X.env y = pure y) : LcR X c T W scope elt tg it ifs (fun _ _ => .bad) :=
  ⟨fun _ _ _ => False, fun _ _ _ _ => False, fun _ _ _ => False, fun _ _ _ => False, ⟨fun _ _ _ _ _ _ h => h.elim⟩, h1, fun _ _ _ _ _ => ⟨fun _ _ _ _ _ _ _ _ _ h => h.elim⟩, fun _ _ _ _ _ => ⟨fun _ _ _ _ _ _ h => h.elim⟩, fun _ _ _ _ _ => ⟨fun _ _ _ _ _ _ h => h.elim⟩, h2, fun σ H Q ⟨m, env, h, R, E, O⟩ => O.elim⟩
theorem lc_of {n : Nat} {scope : Scope} {elt tg it : Expr} {ifs : List Expr} {x t w : Ex} {ts : List Ex} {pos : Pos} (hb : (L2.blkC c.N c.sc scope (ownC c scope) && notSet it) = true)
    (e1 : cE g n (blkX c scope) elt = some x) (e2 : cTg (blkX c scope) tg = some t) (e3 : cW g (cE g n c) c tg it = some w) (e4 : mapO (cE g n (blkX c scope)) ifs = some ts) (e5 : tgIn ((ownC c scope).map (·.2)) t = true) :
    LcR X c T W scope elt tg it ifs (stepE P r f (.lc x ((ownC c scope).map (·.2)) t w ts)) := by
  rw [Bool.and_eq_true] at hb
  have hts : ∃ tt : TT, (∀ (s : Shared) (H : Hp) (C : Addr) (cl : List (Str × Addr)) (fp : List Addr), PTs (X.blk s H scope (compEnvC scope cl C X.env) fp) ifs tt) ∧
      ∀ {m : Nat → Addr} {env : Env} {h : MH} {σ : L2.St} {H : Hp} {b : Bool} {h1 : MH} {Q : Bool → Hp → Prop}, Rel X.K m h H → RepE X.K H m h.n env σ → lcT r ts env h = .ok b h1 → (∀ m' H', Ext X.K m h.n H m' h1.n H' → Rel X.K m' h1 H' → Q b H') → tt σ H Q := by
    match ifs, ts, e4 with
    | [], ts, e4 =>
      rw [mapO_nil e4]
      refine ⟨tYes, fun s H C cl fp => pts_nil, ?_⟩
      intro m env h σ H b h1 Q R E e q
      cases e
      exact q m H .refl R
    | [a], ts, e4 =>
      obtain ⟨y, ys, rfl, q1, q2⟩ := mapO_cons e4
      rw [mapO_nil q2]
      refine ⟨rd X.K T (fun _ _ _ _ => False) (rQ Bool) (r.t y), fun s H C cl fp => pts_one (S.t G.blk q1), ?_⟩
      intro m env h σ H b h1 Q R E e q
      refine ⟨m, env, h, R, E, ?_⟩
      rw [show r.t y env h = .ok b h1 from e]
      intro m' H' v x' R' V
      cases V
      exact q m' H' x' R'
    | a :: b :: cs, ts, e4 =>
      obtain ⟨y, z, zs, rfl, q1, q2⟩ := mapO_two e4
      refine ⟨fun _ _ _ => False, fun s H C cl fp => ⟨fun _ _ _ _ _ _ h => h.elim⟩, ?_⟩
      intro m env h σ H b h1 Q R E e q
      cases e
  obtain ⟨tt, ht1, ht2⟩ := hts
  refine ⟨_, rdG X.K r t, tt, rd X.K T (fun _ _ _ _ => False) (rV X.K) (r.e x), pi_of S G e3, by have := blkOk_by hb.1; rw [G.N, G.sc]; exact this, fun s H C cl fp => pg_of G.blk e2, ht1, fun s H C cl fp => S.e G.blk e1, folded_of hb.2, ?_⟩
  generalize hown : (ownC c scope).map (·.2) = own at *
  rintro σ H Q ⟨m, env, h, R, E, O⟩
  refine ⟨m, env, h, R, E, Out.step O fun wk h1 m1 H1 J _ x1 R1 V1 O1 => ?_⟩
  intro D hD
  have R2 := R1.new (o := .lst []) (ob := .lst []) hD ⟨[], upd_same, .nil⟩
  have x2 := Ext.new (K := X.K) (m := m1) (n := h1.n) (o := .lst []) hD
  have E2 : RepE X.K (upd H1 D (.lst [])) (mput m1 h1.n D) (h1.new (.lst [])).n (wipeD env own) (wipe σ own) := ((E.mono x1).mono x2).wipe own
  obtain ⟨d, hf, he⟩ : ∃ d hf, lcD r x t ts h1.n wk (wipeD env own) (wk.most h1) 0 (h1.new (.lst [])) = .ok d hf := by
    cases hz : lcD r x t ts h1.n wk (wipeD env own) (wk.most h1) 0 (h1.new (.lst [])) with
    | ok d hf => exact ⟨d, hf, rfl⟩
    | ex _ _ => rw [hz] at O1; exact O1.elim
    | bad => rw [hz] at O1; exact O1.elim
  rw [he] at O1
  have O1 : ∀ m' H' v, Ext X.K m1 h1.n H1 m' hf.n H' → Rel X.K m' hf H' → RepV X.K H' m' hf.n d v → Q v H' := O1
  refine ⟨fun i cc Hc => ∃ mm hc, Rel X.K mm hc Hc ∧ RepE X.K Hc mm hc.n (wipeD env own) (wipe σ own) ∧ RepJ X.K Hc mm hc.n wk J ∧ h1.n < hc.n ∧ mm h1.n = D ∧
    lcD r x t ts h1.n wk (wipeD env own) cc i hc = .ok d hf ∧ ∀ m' H' v, Ext X.K mm hc.n Hc m' hf.n H' → Rel X.K m' hf H' → RepV X.K H' m' hf.n d v → Q v H',
    ⟨_, mput m1 h1.n D, h1.new (.lst []), R2, E2, V1.mono x2, Nat.lt_succ_self _, mput_same, he, fun m' H' v x3 R3 V3 => O1 m' H' v (x2.trans x3) R3 V3⟩, ?_⟩
  rintro i cc Hc ⟨mm, hc, Rc, Ec, Jc, hn, hm, hl, hq⟩
  obtain ⟨w1, w2⟩ := walk_at (i := i) Rc Jc
  have fin : wk.at hc i = some none → lcD r x t ts h1.n wk (wipeD env own) cc i hc = .ok (.ref h1.n) hc := fun e => by
    cases cc with
    | zero => unfold lcD; rw [e]
    | succ cc => unfold lcD; rw [e]
  cases hat : wk.at hc i with
  | none => cases cc <;> (unfold lcD at hl; rw [hat] at hl; cases hl)
  | some od =>
    cases od with
    | none =>
      refine .inl ⟨w1 hat, ?_⟩
      have := fin hat
      rw [hl] at this
      cases this
      have z := hq mm Hc (.ref (mm h1.n)) .refl Rc (.ref hn)
      rw [hm] at z
      exact z
    | some d0 =>
      obtain ⟨go, yl⟩ := w2 d0 hat
      refine .inr ⟨go, ?_⟩
      cases cc with
      | zero => unfold lcD at hl; rw [hat] at hl; cases hl
      | succ cc =>
        unfold lcD at hl
        rw [hat] at hl
        have hl2 : (match asgD r t d0 (wipeD env own) hc with
          | .nx env2 h => (lcT r ts env2 h).bind fun b h => if b then (r.e x env2 h).bind fun xx h => (match h.get h1.n with
              | some (.lst ds) => if ds.length < sizeLine then lcD r x t ts h1.n wk (wipeD env own) cc (i + 1) (h.put h1.n (.lst (ds ++ [xx]))) else .bad
              | _ => .bad) else lcD r x t ts h1.n wk (wipeD env own) cc (i + 1) h
          | _ => .bad) = .ok d hf := hl
        clear hl
        split at hl2
        · rename_i env2 h2 hasg
          have := asg_heap e2 hasg
          subst this
          obtain ⟨b, h3, t1, t2⟩ := bind_ok hl2
          refine ⟨fun Hn => ∃ mm hc, Rel X.K mm hc Hn ∧ RepE X.K Hn mm hc.n (wipeD env own) (wipe σ own) ∧ RepJ X.K Hn mm hc.n wk J ∧ h1.n < hc.n ∧ mm h1.n = D ∧
            lcD r x t ts h1.n wk (wipeD env own) cc (i + 1) hc = .ok d hf ∧ ∀ m' H' v, Ext X.K mm hc.n Hn m' hf.n H' → Rel X.K m' hf H' → RepV X.K H' m' hf.n d v → Q v H', fun H' hh => ⟨cc, Nat.lt_succ_self _, hh⟩, ?_⟩
          intro xv H' hy
          obtain ⟨x3, R3, V3⟩ := yl xv H' hy
          refine ⟨mm, wipeD env own, h2, d0, env2, R3, Ec.mono x3, V3, hasg, fun m4 H4 σ4 x4 R4 E4 hw => ⟨?_, ?_⟩⟩
          · rw [hw own e5, wipe_twice]
          · refine ht2 R4 E4 t1 fun m5 H5 x5 R5 => ?_
            cases b with
            | false =>
              rw [if_neg (by simp)]
              have x6 := (x3.trans x4).trans x5
              exact ⟨m5, h3, R5, Ec.mono x6, Jc.mono x6, Nat.lt_of_lt_of_le hn x6.le, by rw [x6.eq _ hn]; exact hm, by simpa using t2, fun m' H' v x7 R7 V7 => hq m' H' v (x6.trans x7) R7 V7⟩
            | true =>
              rw [if_pos rfl]
              rw [if_pos rfl] at t2
              obtain ⟨xx, h6, t3, t4⟩ := bind_ok t2
              refine ⟨m5, env2, h3, R5, E4.mono x5, ?_⟩
              rw [t3]
              intro m6 H6 v6 x6 R6 V6
              split at t4
              · rename_i ds hds
                split at t4
                · rename_i hlt
                  obtain ⟨acc, a1, a2⟩ := R6.lst hds
                  have x7 := ((x3.trans x4).trans x5).trans x6
                  have hD6 : m6 h1.n = D := by rw [x7.eq _ hn]; exact hm
                  rw [hD6] at a1
                  refine ⟨acc, a1, by rw [← a2.length]; exact hlt, ?_⟩
                  rw [← hD6] at a1 ⊢
                  have x8 := Ext.put (K := X.K) (m := m6) (n := h6.n) (o := .lst (acc ++ [v6])) (MH.get_lt hds) a1 (fun _ z => by cases z) (fun _ _ z => by cases z)
                  have R8 := R6.put hds a1 (fun _ z => by cases z) (fun _ _ z => by cases z) (ob := .lst (ds ++ [xx])) ⟨_, upd_same, (a2.append (.cons V6 .nil)).mono x8⟩
                  have x9 := x7.trans x8
                  exact ⟨m6, _, R8, Ec.mono x9, Jc.mono x9, Nat.lt_of_lt_of_le hn x9.le, rfl, t4, fun m' H' v x10 R10 V10 => hq m' H' v (x9.trans x10) R10 V10⟩
                · cases t4
              · cases t4
        · cases hl2
end
end MP
namespace MP
open PySem PySem.Spec PyProof.Rows L2
section
variable {g : GT} {P : Prog} {T : XT} {f : FT} {k : Nat} {X : Cx} {c : MP.Ctx} {W : WX} {r : Rec}
def meId : Me → String
  | .append => "list.append"
  | .pop => "list.pop"
  | .extend => "list.extend"
  | .index => "tuple.index"
theorem me_name {x : Str} {k : Me} (h : meC x = some k) : (x = "append" ∧ k = .append) ∨ (x = "pop" ∧ k = .pop) ∨ (x = "extend" ∧ k = .extend) := by
  unfold meC at h
  split at h
  · cases h; rename_i e; exact .inl ⟨eq_of_beq e, rfl⟩
  · split at h
    · cases h; rename_i e; exact .inr (.inl ⟨eq_of_beq e, rfl⟩)
    · split at h
      · cases h; rename_i e; exact .inr (.inr ⟨eq_of_beq e, rfl⟩)
      · cases h
theorem o_me {x : Str} {k : Me} (h : meC x = some k) : ∃ (id : String) (rr : V → List V → Hp → VK → Prop), Slot "list" x id ∧ typeOf (.builtin id) = pure (.type "method_descriptor") ∧ MtR X id rr ∧ MeT X.K k rr := by
  rcases me_name h with ⟨rfl, rfl⟩ | ⟨rfl, rfl⟩ | ⟨rfl, rfl⟩
  · exact ⟨_, _, PySem.F.slot_list_append, PySem.F.type_list_append, mt_append, t_append⟩
  · exact ⟨_, _, PySem.F.slot_list_pop, PySem.F.type_list_pop, mt_pop, t_pop⟩
  · exact ⟨_, _, PySem.F.slot_list_extend, PySem.F.type_list_extend, mt_extend, t_extend⟩
theorem isLst_of {K : PySem.W.Frag} {m : Nat → Addr} {h : MH} {H : Hp} {d : D} {v : V} (R : Rel K m h H) (V1 : RepV K H m h.n d v) (e : isLst h d = true) : tyV K "list" v H := by
  cases V1 with
  | @ref i hi =>
    have e' : (match h.get i with
      | some (.lst _) => true
      | _ => false) = true := e
    split at e'
    · rename_i ds q0
      obtain ⟨vs, q1, q2⟩ := R.lst q0
      exact .inl ⟨rfl, vs, SqL.of q1⟩
    · cases e'
  | _ => cases e
variable (S : SndE g P T f k r) (G : Good g P T f k X c W)
include S G
theorem pe_me_of {n : Nat} {o : Expr} {x : Str} {kk : Me} {es : List Expr} {y : Ex} {xs : List Ex} {ap cp : Pos} (hm : meC x = some kk) (hs : (es.all notStar && (plainO o && (ap.endLine == cp.line && Nat.blt es.length 29))) = true)
    (e1 : cE g n c o = some y) (e2 : mapO (cE g n c) es = some xs) : PE X (.Call (.Attribute o x ap) es [] cp) (rd X.K T W (rV X.K) (stepE P r f (.me kk y xs))) := by
  obtain ⟨id, rr, o1, o2, o3, o4⟩ := o_me (X := X) hm
  simp only [Bool.and_eq_true] at hs
  obtain ⟨h1, h2, h3, h4⟩ := hs
  have h4 : es.length < 29 := Nat.le_of_ble_eq_true h4
  cases es with
  | nil =>
    rw [mapO_nil e2]
    refine PE.weak (pe_bm0 PySem.F.plainAttrs_list o1 o2 o3 (S.e G e1) (base_of h2) h3) ?_
    rintro σ H Q ⟨m, env, h, R, E, O⟩
    refine ⟨m, env, h, R, E, Out.step O fun d h1 m1 H1 v1 _ x1 R1 V1 O1 => ?_⟩
    split at O1
    · rename_i hl
      exact ⟨isLst_of R1 V1 hl, o4 R1 V1 .nil O1⟩
    · exact O1.elim
  | cons a es =>
    have h1' := h1
    rw [List.all_cons, Bool.and_eq_true] at h1'
    refine PE.weak (pe_bm PySem.F.plainAttrs_list o1 o2 o3 (S.e G e1) (pa_of S G h1 e2) (base_of h2) ?_ h3 (star_ns h1'.1) (star_pl h1'.2)) ?_
    · rw [star_few h1]
      show (true && true && decide (_ < 30)) = true
      have : (a :: es).length + ([] : List Keyword).length + (if ([] : List Keyword).isEmpty then 0 else 1) < 30 := by
        show (a :: es).length + 0 + 0 < 30
        omega
      rw [decide_eq_true this]
      rfl
    · rintro σ H Q ⟨m, env, h, R, E, O⟩
      refine ⟨m, env, h, R, E, Out.step O fun d h1 m1 H1 v1 _ x1 R1 V1 O1 => ?_⟩
      split at O1
      · rename_i hl
        exact ⟨isLst_of R1 V1 hl, m1, env, h1, R1, E.mono x1, Out.step O1 fun ds h2 m2 H2 vs _ x2 R2 V2 O2 => o4 R2 (V1.mono x2) V2 O2⟩
      · exact O1.elim
theorem pe_bi_of2 {n : Nat} {x : Str} {b : Bi} {es : List Expr} {y : Ex} {ys : List Ex} {p pos : Pos} (hf : isFree g c x = true) (hb : biC x = some b) (hs : es.all notStar = true) (e : mapO (cE g n c) es = some (y :: ys)) : PE X (.Call (.Name x p) es [] pos) (rd X.K T W (rV X.K) (stepE P r f (.bi b (y :: ys)))) := by
  cases es with
  | nil => cases e
  | cons a es => exact pe_bi_of S G hf hb hs e
omit S G in
theorem newD_ok {X : Cx} {T : XT} {W : WX} {σ : L2.St} {m : Nat → Addr} {H : Hp} {h : MH} {Q : VK} (R : Rel X.K m h H) (O : Out X.K T W σ (rV X.K) m h.n H (.ok (.ref h.n) (h.new (.dK []))) Q) : ∀ p, H p = none → Q (.ref p) (upd H p (.dK [])) := fun p hp => by
  have V : RepV X.K (upd H p (.dK [])) (mput m h.n p) (h.n + 1) (.ref h.n) (.ref p) := by
    have z : RepV X.K (upd H p (.dK [])) (mput m h.n p) (h.n + 1) (.ref h.n) (.ref (mput m h.n p h.n)) := .ref (Nat.lt_succ_self _)
    rw [mput_same] at z
    exact z
  exact O (mput m h.n p) _ _ (Ext.new hp) (R.new hp ⟨[], upd_same, .nil, rfl⟩) V
def rPs (K : PySem.W.Frag) : RepT (List (MP.D × MP.D)) (List (V × V)) := fun H m n ps qs => RepL K H m n (ps.map (·.1)) (qs.map (·.1)) ∧ RepL K H m n (ps.map (·.2)) (qs.map (·.2))
omit S G in
theorem keys_rel {K : PySem.W.Frag} {H : Hp} {m : Nat → Addr} {n : Nat} : ∀ {ps : List (MP.D × MP.D)} {qs : List (V × V)} {kvs : List (Key × MP.D)}, rPs K H m n ps qs → mapO keyP ps = some kvs →
    ∃ kv : List (Key × V), qs = kv.map (fun kv => (kV kv.1, kv.2)) ∧ kvs.map (·.1) = kv.map (·.1) ∧ RepL K H m n (kvs.map (·.2)) (kv.map (·.2)) ∧ kv.length = ps.length := by
  intro ps
  induction ps with
  | nil =>
    intro qs kvs r e
    rw [mapO_nil e]
    cases qs with
    | nil => exact ⟨[], rfl, rfl, .nil, rfl⟩
    | cons q qs => cases r.1
  | cons p ps ih =>
    intro qs kvs r e
    obtain ⟨y, zs, rfl, e1, e2⟩ := mapO_cons e
    obtain ⟨k, e3, rfl⟩ := Option.map_eq_some_iff.mp e1
    cases qs with
    | nil => cases r.1
    | cons q qs =>
      have r1 : RepL K H m n (p.1 :: ps.map (·.1)) (q.1 :: qs.map (·.1)) := r.1
      have r2 : RepL K H m n (p.2 :: ps.map (·.2)) (q.2 :: qs.map (·.2)) := r.2
      cases r1 with
      | cons a1 a2 =>
        cases r2 with
        | cons b1 b2 =>
          obtain ⟨kv, rfl, h2, h3, h4⟩ := ih ⟨a2, b2⟩ e2
          refine ⟨(k, q.2) :: kv, ?_, ?_, .cons b1 h3, ?_⟩
          · obtain ⟨q1, q2⟩ := q
            rw [List.map_cons, ← keyD_of a1 e3]
          · rw [List.map_cons, List.map_cons, h2]
          · rw [List.length_cons, List.length_cons, h4]
theorem pps_of {n : Nat} {pos : Pos} : ∀ {keys : List (Option Expr)} {values : List Expr} {ks vs : List Ex}, keys.length = values.length → keys.all (·.isSome) = true → mapO (fun k => match k with
        | some k => cE g n c k
        | none => none) keys = some ks → mapO (cE g n c) values = some vs → ∃ trs, PPs X pos keys values trs ∧ ∀ σ H Q, rd X.K T W (rPs X.K) (evP r ks vs) σ H Q → tPairs trs σ H Q := by
  intro keys
  induction keys with
  | nil =>
    intro values ks vs hl _ e1 e2
    cases values with
    | nil =>
      rw [mapO_nil e1, mapO_nil e2]
      refine ⟨[], pps_nil, ?_⟩
      rintro σ H Q ⟨m, env, h, R, E, O⟩
      exact O.here R ⟨.nil, .nil⟩
    | cons _ _ => cases hl
  | cons k keys ih =>
    intro values ks vs hl ha e1 e2
    cases values with
    | nil => cases hl
    | cons v values =>
      obtain ⟨y, ys, rfl, a1, a2⟩ := mapO_cons e1
      obtain ⟨z, zs, rfl, b1, b2⟩ := mapO_cons e2
      rw [List.all_cons, Bool.and_eq_true] at ha
      cases k with
      | none => cases ha.1
      | some k =>
        obtain ⟨trs, p1, p2⟩ := ih (by simpa using hl) ha.2 a2 b2
        refine ⟨_, pps_cons (S.e G a1) (S.e G b1) p1, ?_⟩
        rintro σ H Q ⟨m, env, h, R, E, O⟩
        refine ⟨m, env, h, R, E, Out.step O fun x h1 m1 H1 v1 _ x1 R1 V1 O1 => ⟨m1, env, h1, R1, E.mono x1, Out.step O1 fun y h2 m2 H2 v2 _ x2 R2 V2 O2 => p2 _ _ _ ⟨m2, env, h2, R2, (E.mono x1).mono x2, Out.step O2 fun ps h3 m3 H3 qs _ x3 R3 V3 O3 => O3.here R3 ⟨?_, ?_⟩⟩⟩⟩
        · exact .cons ((V1.mono x2).mono x3) V3.1
        · exact .cons (V2.mono x3) V3.2
theorem pe_dct_of {n : Nat} {pos : Pos} {keys : List (Option Expr)} {values : List Expr} {ks vs : List Ex} (hs : (keys.all (·.isSome) && (keys.length == values.length && Nat.ble keys.length 15)) = true) (e1 : mapO (fun k => match k with
        | some k => cE g n c k
        | none => none) keys = some ks) (e2 : mapO (cE g n c) values = some vs) : PE X (.Dict keys values pos) (rd X.K T W (rV X.K) (stepE P r f (.dct ks vs))) := by
  rw [Bool.and_eq_true, Bool.and_eq_true] at hs
  obtain ⟨h1, h2, h3⟩ := hs
  have h2 : keys.length = values.length := eq_of_beq h2
  have h3 : keys.length ≤ 15 := Nat.le_of_ble_eq_true h3
  cases keys with
  | nil =>
    cases values with
    | cons _ _ => cases h2
    | nil =>
      rw [mapO_nil e1, mapO_nil e2]
      refine PE.weak pe_dnewK ?_
      rintro σ H Q ⟨m, env, h, R, E, O⟩
      exact newD_ok R O
  | cons k keys =>
    obtain ⟨trs, p1, p2⟩ := pps_of (pos := pos) S G h2 h1 e1 e2
    obtain ⟨y, ys, rfl, a1, a2⟩ := mapO_cons e1
    refine PE.weak (pe_disp p1 h1 h2 (by simp) h3) ?_
    rintro σ H Q ⟨m, env, h, R, E, O⟩ p hp
    have O : Out X.K T W σ (rV X.K) m h.n H ((evP r (y :: ys) vs env (h.new (.dK []))).bind fun ps h1 => dctD h.n ps h1) Q := by
      cases vs <;> exact O
    have x0 : Ext X.K m h.n H (mput m h.n p) (h.new (.dK [])).n (upd H p (.dK [])) := Ext.new hp
    refine p2 _ _ _ ⟨mput m h.n p, env, h.new (.dK []), R.new hp ⟨[], upd_same, .nil, rfl⟩, E.mono x0, Out.step (O.ext x0) fun ps h1 m1 H1 qs _ x1 R1 V1 O1 => ?_⟩
    unfold dctD at O1
    split at O1
    · rename_i kvs q0 q1
      split at O1
      · rename_i hl
        obtain ⟨kv, rfl, w1, w2, w3⟩ := keys_rel V1 q1
        have hm : m1 h.n = p := by rw [x1.eq h.n (Nat.lt_succ_self _), mput_same]
        obtain ⟨ks0, u1, u2, u3⟩ := R1.obj _ _ q0
        rw [hm] at u1
        have hk0 : ks0 = [] := by cases ks0 with
          | nil => rfl
          | cons _ _ => cases u3
        subst hk0
        refine ⟨u1, kv, rfl, by rw [w3]; exact hl, ?_⟩
        have z := merge_rel (kvs := []) (ks := []) w1 w2 rfl .nil
        have hlt : h.n < h1.n := MH.get_lt q0
        have u1' : H1 (m1 h.n) = some (.dK []) := by rw [hm]; exact u1
        have x4 := Ext.put (K := X.K) (m := m1) (n := h1.n) (o := .dK (mergeK [] kv)) hlt u1' (fun _ z => by cases z) (fun _ _ z => by cases z)
        have R4 := R1.put q0 u1' (ob := .dK (mergeD [] kvs)) (o := .dK (mergeK [] kv)) (fun _ z => by cases z) (fun _ _ z => by cases z) ⟨_, upd_same, z.2.mono x4, z.1⟩
        have V4 : RepV X.K (upd H1 (m1 h.n) (.dK (mergeK [] kv))) m1 h1.n (.ref h.n) (.ref (m1 h.n)) := .ref hlt
        have fin := O1 m1 _ _ x4 R4 V4
        rw [hm] at fin
        exact fin
      · exact O1.elim
    · exact O1.elim
/-- one step of an expression -/
theorem step_e {n : Nat} {src : Expr} {x : Ex} (h : cE g n c src = some x) : PE X src (rd X.K T W (rV X.K) (stepE P r f x)) := by
  cases n with
  | zero => cases h
  | succ n =>
  unfold cE at h
  split at h
  · cases h
    exact PE.weak pe_int fun σ H Q ⟨m, env, h, R, E, O⟩ => O.here R (.int _)
  · cases h
    exact PE.weak pe_str fun σ H Q ⟨m, env, h, R, E, O⟩ => O.here R (.str _)
  · cases h
    exact PE.weak pe_bl fun σ H Q ⟨m, env, h, R, E, O⟩ => O.here R (.bl _)
  · cases h
    exact PE.weak pe_non fun σ H Q ⟨m, env, h, R, E, O⟩ => O.here R .non
  · exact pe_name_of S G h
  · split at h
    · rename_i o y z h1 h2 h3
      cases h
      obtain ⟨rr, o1, o2⟩ := o_bin (X := X) h1
      refine PE.weak (pe_op o1 (S.e G h2) (S.e G h3)) ?_
      rintro σ H Q ⟨m, env, h, R, E, O⟩
      exact ⟨m, env, h, R, E, Out.step O fun d h1 m1 H1 v1 _ x1 R1 V1 O1 => ⟨m1, env, h1, R1, E.mono x1, Out.step O1 fun d2 h2 m2 H2 v2 _ x2 R2 V2 O2 => o2 R2 (V1.mono x2) V2 O2⟩⟩
    · cases h
  · obtain ⟨y, e1, rfl⟩ := Option.map_eq_some_iff.mp h
    refine PE.weak (pe_un un_neg (S.e G e1)) ?_
    rintro σ H Q ⟨m, env, h, R, E, O⟩
    refine ⟨m, env, h, R, E, Out.step O fun d h1 m1 H1 v1 _ x1 R1 V1 O1 => ?_⟩
    cases V1 with
    | int i => exact ⟨i, rfl, O1.here R1 (.int _)⟩
    | _ => exact False.elim O1
  · obtain ⟨y, e1, rfl⟩ := Option.map_eq_some_iff.mp h
    refine PE.weak (pe_notT (S.e G e1)) ?_
    rintro σ H Q ⟨m, env, h, R, E, O⟩
    refine ⟨m, env, h, R, E, Out.step O fun d h1 m1 H1 v1 _ x1 R1 V1 O1 => ?_⟩
    split at O1
    · rename_i b hb
      exact ⟨b, t_truth R1 V1 hb, O1.here R1 (.bl _)⟩
    · exact O1.elim
  · obtain ⟨ys, e1, rfl⟩ := Option.map_eq_some_iff.mp h
    exact pe_and_of S G e1
  · obtain ⟨ys, e1, rfl⟩ := Option.map_eq_some_iff.mp h
    exact pe_or_of S G e1
  · split at h
    · rename_i h1 h2 h3 h4
      cases h
      exact pe_cmp_of S G h1 h2 h3 h4
    · cases h
  · split at h
    · rename_i h1 h2 h3 h4 h5 h6
      cases h
      exact pe_chain_of S G h1 h2 h3 h4 h5 h6
    · cases h
  · split at h
    · rename_i h1 h2 h3
      cases h
      refine PE.weak (pe_ifExp (S.t G h1) (S.e G h2) (S.e G h3)) ?_
      rintro σ H Q ⟨m, env, h, R, E, O⟩
      refine ⟨m, env, h, R, E, Out.step O fun d h1 m1 H1 v1 _ x1 R1 V1 O1 => ?_⟩
      cases V1
      cases d with
      | true => exact ⟨m1, env, h1, R1, E.mono x1, O1⟩
      | false => exact ⟨m1, env, h1, R1, E.mono x1, O1⟩
    · cases h
  · obtain ⟨ys, e1, rfl⟩ := Option.map_eq_some_iff.mp h
    refine PE.weak (pe_tup (pas_of S G e1)) ?_
    rintro σ H Q ⟨m, env, h, R, E, O⟩
    exact ⟨m, env, h, R, E, Out.step O fun d h1 m1 H1 v1 _ x1 R1 V1 O1 => newT_ok R1 V1 O1⟩
  · obtain ⟨ys, e1, rfl⟩ := Option.map_eq_some_iff.mp h
    refine PE.weak (pe_lst (pas_of S G e1)) ?_
    rintro σ H Q ⟨m, env, h, R, E, O⟩
    exact ⟨m, env, h, R, E, Out.step O fun d h1 m1 H1 v1 _ x1 R1 V1 O1 => newLL_ok R1 V1 O1⟩
  · split at h
    · rename_i h1 h2 h3
      cases h
      exact pe_dct_of S G h1 h2 h3
    · cases h
  · split at h
    · rename_i h1 h2 h3
      cases h
      refine PE.weak (pe_slice sl_ok (S.e G h1) (po_of S G h2) (po_of S G h3)) ?_
      rintro σ H Q ⟨m, env, h, R, E, O⟩
      refine ⟨m, env, h, R, E, Out.step O fun d h1 m1 H1 v1 _ x1 R1 V1 O1 => ⟨m1, env, h1, R1, E.mono x1, Out.step O1 fun l h2 m2 H2 v2 _ x2 R2 V2 O2 => ⟨m2, env, h2, R2, (E.mono x1).mono x2, Out.step O2 fun u h3 m3 H3 v3 _ x3 R3 V3 O3 => ?_⟩⟩⟩
      cases V2
      cases V3
      exact t_sl R3 ((V1.mono x2).mono x3) O3
    · cases h
  · split at h
    · rename_i h1 h2 h3 h4
      cases h
      refine PE.weak (pe_slr (S.e G h1) (po_of S G h2) (po_of S G h3) (S.e G h4)) ?_
      rintro σ H Q ⟨m, env, h, R, E, O⟩
      refine ⟨m, env, h, R, E, Out.step O fun d h1 m1 H1 v1 _ x1 R1 V1 O1 => ⟨m1, env, h1, R1, E.mono x1, Out.step O1 fun l h2 m2 H2 v2 _ x2 R2 V2 O2 => ⟨m2, env, h2, R2, (E.mono x1).mono x2, Out.step O2 fun u h3 m3 H3 v3 _ x3 R3 V3 O3 => ⟨m3, env, h3, R3, ((E.mono x1).mono x2).mono x3, Out.step O3 fun z h4 m4 H4 v4 _ x4 R4 V4 O4 => ?_⟩⟩⟩⟩
      cases V2
      cases V3
      cases V4 with
      | int i => exact ⟨i, rfl, t_slr R4 (((V1.mono x2).mono x3).mono x4) O4⟩
      | _ => exact False.elim O4
    · cases h
  · split at h
    · rename_i h1 h2 h3
      cases h
      refine PE.weak (pe_ix ixR_ok (S.e G h2) (S.e G h3) (plain_ix h1)) ?_
      rintro σ H Q ⟨m, env, h, R, E, O⟩
      refine ⟨m, env, h, R, E, Out.step O fun d h1 m1 H1 v1 _ x1 R1 V1 O1 => ⟨m1, env, h1, R1, E.mono x1, Out.step O1 fun l h2 m2 H2 v2 _ x2 R2 V2 O2 => ?_⟩⟩
      split at O2
      · rename_i e he
        exact t_ix R2 (V1.mono x2) V2 he fun v hv => O2.here R2 hv
      · exact O2.elim
    · cases h
  · split at h
    · cases h
    · rename_i hg
      split at h
      · rename_i i hl
        split at h
        · rename_i h1 h2
          cases h
          exact pe_call_of S G hg hl h1 h2
        · cases h
      · split at h
        · cases h
        · rename_i hl hf
          split at h
          · rename_i hx
            split at h
            · rename_i a t p2
              split at h
              · rename_i h1 h2 h3
                cases h
                rw [Bool.and_eq_true] at h1
                exact pe_isi_of S G hx hf h1.2 h2 h1.1 h3
              · cases h
            · cases h
          · split at h
            · rename_i h1 h2 h3
              cases h
              exact pe_bi_of2 S G hf h1 h2 h3
            · cases h
  · split at h
    · rename_i h1 h2 h3 h4
      cases h
      exact pe_me_of S G h1 h2 h3 h4
    · cases h
  · split at h
    · rename_i h1 h2 h3 h4 h5
      split at h
      · cases h
      · rename_i h6
        cases h
        obtain ⟨wi, gg, tt, te, q1, q2, q3, q4, q5, q6, q7⟩ := lc_of (P := P) (pos := default) S G h1 h2 h3 h4 h5 (by simpa using h6)
        exact PE.weak (pe_lc G.calm G.nd q1 q2 q3 q4 q5 q6) q7
    · cases h
  · cases h
theorem pt_gen {n : Nat} {src : Expr} {x : Ex} (h : cE g n c src = some x) (he : ∀ whole, isTrue src X.env whole = (do let v ← whole; standAt src.pos; holding [v] (truthy v)))
    (hx : evT r r.t x = fun env h => (r.e x env h).bind fun d h => match truth h d with
    | some b => .ok b h
    | none => .bad) : PT X src (rd X.K T W (rQ Bool) (evT r r.t x)) := by
  refine PT.weak (pt_truth (S.e G h) he) ?_
  rintro σ H Q ⟨m, env, h, R, E, O⟩
  rw [hx] at O
  refine ⟨m, env, h, R, E, Out.step O fun d h1 m1 H1 v1 _ x1 R1 V1 O1 => ?_⟩
  split at O1
  · rename_i b hb
    exact ⟨b, t_truth R1 V1 hb, O1.here R1 rfl⟩
  · exact O1.elim
/-- one step of a test -/
theorem step_t {n : Nat} {src : Expr} {x : Ex} (h : cE g n c src = some x) : PT X src (rd X.K T W (rQ Bool) (evT r r.t x)) := by
  cases n with
  | zero => cases h
  | succ n =>
  have h0 := h
  unfold cE at h
  split at h
  · cases h
    exact pt_gen S G h0 (fun _ => rfl) rfl
  · cases h
    exact pt_gen S G h0 (fun _ => rfl) rfl
  · cases h
    exact pt_gen S G h0 (fun _ => rfl) rfl
  · cases h
    exact pt_gen S G h0 (fun _ => rfl) rfl
  · split at h
    · cases h
      exact pt_gen S G h0 (fun _ => rfl) rfl
    · split at h
      · cases h
        exact pt_gen S G h0 (fun _ => rfl) rfl
      · cases h
  · split at h
    · cases h
      exact pt_gen S G h0 (fun _ => rfl) rfl
    · cases h
  · obtain ⟨y, e1, rfl⟩ := Option.map_eq_some_iff.mp h
    exact pt_gen S G h0 (fun _ => rfl) rfl
  · obtain ⟨y, e1, rfl⟩ := Option.map_eq_some_iff.mp h
    refine PT.weak (pt_not (S.t G e1)) ?_
    rintro σ H Q ⟨m, env, h, R, E, O⟩
    refine ⟨m, env, h, R, E, Out.step O fun d h1 m1 H1 v1 _ x1 R1 V1 O1 => ?_⟩
    cases V1
    exact O1.here R1 rfl
  · obtain ⟨ys, e1, rfl⟩ := Option.map_eq_some_iff.mp h
    exact (pw_and_of S G e1).pt
  · obtain ⟨ys, e1, rfl⟩ := Option.map_eq_some_iff.mp h
    exact (pw_or_of S G e1).pt
  · split at h
    · rename_i h1 h2 h3 h4
      cases h
      exact pt_cmp_of S G h1 h2 h3 h4
    · cases h
  · split at h
    · rename_i h1 h2 h3 h4 h5 h6
      cases h
      exact pt_chain_of S G h1 h2 h3 h4 h5 h6
    · cases h
  · split at h
    · cases h
      refine ⟨fun pins s σ H Q I q => ?_⟩
      obtain ⟨m, env, h, R, E, O⟩ := q
      exact O.elim
    · cases h
  · obtain ⟨ys, e1, rfl⟩ := Option.map_eq_some_iff.mp h
    exact pt_gen S G h0 (fun _ => rfl) rfl
  · obtain ⟨ys, e1, rfl⟩ := Option.map_eq_some_iff.mp h
    exact pt_gen S G h0 (fun _ => rfl) rfl
  · split at h
    · cases h
      exact pt_gen S G h0 (fun _ => rfl) rfl
    · cases h
  · split at h
    · cases h
      exact pt_gen S G h0 (fun _ => rfl) rfl
    · cases h
  · split at h
    · cases h
      exact pt_gen S G h0 (fun _ => rfl) rfl
    · cases h
  · split at h
    · cases h
      exact pt_gen S G h0 (fun _ => rfl) rfl
    · cases h
  · split at h
    · cases h
    · split at h
      · split at h
        · cases h
          exact pt_gen S G h0 (fun _ => rfl) rfl
        · cases h
      · split at h
        · cases h
        · split at h
          · split at h
            · split at h
              · cases h
                exact pt_gen S G h0 (fun _ => rfl) rfl
              · cases h
            · cases h
          · split at h
            · cases h
              exact pt_gen S G h0 (fun _ => rfl) rfl
            · cases h
  · split at h
    · cases h
      exact pt_gen S G h0 (fun _ => rfl) rfl
    · cases h
  · split at h
    · split at h
      · cases h
      · cases h
        exact pt_gen S G h0 (fun _ => rfl) rfl
    · cases h
  · cases h
omit G in
theorem step_snd : SndE g P T f k (step P f r) := ⟨fun G' _ _ _ h => step_e S G' h, fun G' _ _ _ h => step_t S G' h⟩
end
end MP
namespace MP
open PySem PySem.Spec PyProof.Rows L2
section
variable (K : PySem.W.Frag) (T : XT) (W : WX)
def OutS (m : Nat → Addr) (n : Nat) (H : Hp) (r : RS) (D : Ends) : Prop := match r with
  | .nx env h' => ∀ m' H' σ', Ext K m n H m' h'.n H' → Rel K m' h' H' → RepE K H' m' h'.n env σ' → D.nx σ' H'
  | .rt d h' => ∀ m' H' v, Ext K m n H m' h'.n H' → Rel K m' h' H' → RepV K H' m' h'.n d v → D.rt v H'
  | .bk env h' => ∀ m' H' σ', Ext K m n H m' h'.n H' → Rel K m' h' H' → RepE K H' m' h'.n env σ' → D.bk σ' H'
  | .ct env h' => ∀ m' H' σ', Ext K m n H m' h'.n H' → Rel K m' h' H' → RepE K H' m' h'.n env σ' → D.ct σ' H'
  | .ex x env h' => ∀ m' H' σ' cl dd, Ext K m n H m' h'.n H' → Rel K m' h' H' → RepE K H' m' h'.n env σ' → RepX K T H' m' h'.n x cl dd → W cl dd σ' H'
  | .bad => False
def rdS (F : Env → MH → RS) : TS := fun D σ H => ∃ m env h, Rel K m h H ∧ RepE K H m h.n env σ ∧ OutS K T W m h.n H (F env h) D
end
section
variable {K : PySem.W.Frag} {T : XT} {W : WX} {m m1 : Nat → Addr} {n n1 : Nat} {H H1 : Hp} {D D' : Ends} {env : Env} {h : MH} {σ : L2.St} {α β : Type} {rep : RepT α β}
theorem OutS.ext {r : RS} (x : Ext K m n H m1 n1 H1) (o : OutS K T W m n H r D) : OutS K T W m1 n1 H1 r D := by
  cases r with
  | nx env h' => exact fun m' H' σ' x' R V => o m' H' σ' (x.trans x') R V
  | rt d h' => exact fun m' H' σ' x' R V => o m' H' σ' (x.trans x') R V
  | bk env h' => exact fun m' H' σ' x' R V => o m' H' σ' (x.trans x') R V
  | ct env h' => exact fun m' H' σ' x' R V => o m' H' σ' (x.trans x') R V
  | ex e env h' => exact fun m' H' σ' cl dd x' R E V => o m' H' σ' cl dd (x.trans x') R E V
  | bad => exact o
/-- an expression ahead of a statement's rest -/
theorem OutS.step {r : Res α} {f : α → MH → RS} {Q : β → Hp → Prop} (E : RepE K H m n env σ) (o : OutS K T W m n H (.of r env f) D)
    (k : ∀ a h1 m1 H1 v1, r = .ok a h1 → Ext K m n H m1 h1.n H1 → Rel K m1 h1 H1 → rep H1 m1 h1.n a v1 → OutS K T W m1 h1.n H1 (f a h1) D → Q v1 H1) : Out K T W σ rep m n H r Q := by
  cases r with
  | ok a h1 =>
    intro m1 H1 v1 x R V
    exact k a h1 m1 H1 v1 rfl x R V (OutS.ext x o)
  | ex e h1 => exact fun m' H' cl dd x R V => o m' H' σ cl dd x R (E.mono x) V
  | bad => exact o
theorem OutS.seq {r : RS} {f : Env → MH → RS} (o : OutS K T W m n H (r.seq f) D)
    (k : ∀ env h1 m1 H1 σ1, r = .nx env h1 → Ext K m n H m1 h1.n H1 → Rel K m1 h1 H1 → RepE K H1 m1 h1.n env σ1 → OutS K T W m1 h1.n H1 (f env h1) D → D'.nx σ1 H1)
    (e1 : D'.rt = D.rt) (e2 : D'.bk = D.bk) (e3 : D'.ct = D.ct) : OutS K T W m n H r D' := by
  cases r with
  | nx env h1 =>
    intro m1 H1 σ1 x R V
    exact k env h1 m1 H1 σ1 rfl x R V (OutS.ext x o)
  | rt d h' =>
    show ∀ m' H' v, Ext K m n H m' h'.n H' → Rel K m' h' H' → RepV K H' m' h'.n d v → D'.rt v H'
    rw [e1]; exact o
  | bk env h' =>
    show ∀ m' H' σ', Ext K m n H m' h'.n H' → Rel K m' h' H' → RepE K H' m' h'.n env σ' → D'.bk σ' H'
    rw [e2]; exact o
  | ct env h' =>
    show ∀ m' H' σ', Ext K m n H m' h'.n H' → Rel K m' h' H' → RepE K H' m' h'.n env σ' → D'.ct σ' H'
    rw [e3]; exact o
  | ex e env h' => exact o
  | bad => exact o
theorem OutS.nx {e2 : Env} (R : Rel K m h H) (V : RepE K H m h.n e2 σ) (o : OutS K T W m h.n H (.nx e2 h) D) : D.nx σ H := o m H σ .refl R V
end
structure GoodS (X : Cx) : Prop where
  kind : X.env.scope.kind = .function
  pas : PassesOwn (model X.prog X.w) X.A X.env X.xe
structure SndS (g : GT) (P : Prog) (T : XT) (f : FT) (k : Nat) (r : Rec) : Prop where
  e : SndE g P T f k r
  lc : ∀ {X : Cx} {c : MP.Ctx} {W : WX}, Good g P T f k X c W → ∀ {n : Nat} {scope : Scope} {elt tg it : Expr} {ifs : List Expr} {x t w : Ex} {ts : List Ex}, (L2.blkC c.N c.sc scope (ownC c scope) && notSet it) = true →
    cE g n (blkX c scope) elt = some x → cTg (blkX c scope) tg = some t → cW g (cE g n c) c tg it = some w → mapO (cE g n (blkX c scope)) ifs = some ts → tgIn ((ownC c scope).map (·.2)) t = true →
    LcR X c T W scope elt tg it ifs (r.e (.lc x ((ownC c scope).map (·.2)) t w ts))
  s : ∀ {X : Cx} {c : MP.Ctx} {W : WX}, Good g P T f k X c W → GoodS X → ∀ {n : Nat} {ss : List Stmt} {xs : List St}, mapO (cSt g n c) ss = some xs → PSs X ss (rdS X.K T W (r.s xs))
section
variable {g : GT} {P : Prog} {T : XT} {f : FT} {k : Nat} {X : Cx} {c : MP.Ctx} {W : WX} {r : Rec}
theorem swaps_of {e : Expr} {t : Option Expr} {l : Nat} {env : PySem.Env} (h : notLc e = true) : swapsWith e t l env = pure false := by
  cases e <;> first | rfl | cases h
theorem swaps_tup {e : Expr} {ts : List Expr} {kk : Nat} {p : Pos} {l : Nat} {env : PySem.Env} (h : notLc e = true) : swapsWithSole [.Tuple ts kk p] e l env = pure false := by unfold swapsWithSole; exact swaps_of h
def nm1 (c : MP.Ctx) (line : Nat) : Expr → Option Str
  | .Name id pos => if c.sc.names.lookup id == some .local && pos.line == line then some id else none
  | _ => none
theorem nm1_inv {line : Nat} {e : Expr} {x : Str} (h : nm1 c line e = some x) : ∃ p, e = .Name x p ∧ c.sc.names.lookup x = some .local := by
  cases e with
  | Name id pos =>
    have h : (if c.sc.names.lookup id == some .local && pos.line == line then some id else none) = some x := h
    split at h
    · rename_i hc
      cases h
      rw [Bool.and_eq_true] at hc
      exact ⟨pos, rfl, eq_of_beq hc.1⟩
    · cases h
  | _ => cases h
theorem filterMap_all {α β : Type} {f : α → Option β} : ∀ {l : List α}, (l.filterMap f).length = l.length → ∃ r : List β, l.filterMap f = r ∧ r.length = l.length ∧ l.map f = r.map some
  | [], _ => ⟨[], rfl, rfl, rfl⟩
  | a :: l, h => by
    have hl := List.length_filterMap_le f l
    cases q : f a with
    | none =>
      rw [List.filterMap_cons_none q, List.length_cons] at h
      omega
    | some b =>
      rw [List.filterMap_cons_some q, List.length_cons, List.length_cons] at h
      obtain ⟨r, h1, h2, h3⟩ := filterMap_all (f := f) (l := l) (by omega)
      exact ⟨b :: r, by rw [List.filterMap_cons_some q, h1], by simp [h2], by simp [q, h3]⟩
theorem sw_eq {ts vs : List Expr} {k1 : Nat} {p1 : Pos} {k2 : Nat} {p2 : Pos} {env : PySem.Env} (hk : env.scope.kind = .function) (hsc : env.scope = c.sc) (hb : vs.all (constantsAlone 8) = false) :
    swappedStores [.Tuple ts k1 p1] (.Tuple vs k2 p2) env = pure (swC c [.Tuple ts k1 p1] (.Tuple vs k2 p2)) := by
  have hbk : env.blockKind = .function := by unfold PySem.Env.blockKind; rw [hk]; rfl
  have hkd : ∀ id, env.kindOf id = c.sc.names.lookup id := fun id => by show env.scope.names.lookup id = _; rw [hsc]
  unfold swappedStores swC
  dsimp only
  have hst : ∀ F : Expr → Bool, (∀ e, F e = !notStar e) → vs.any F = vs.any fun e => !notStar e := fun F hF => by
    congr 1
    funext e
    exact hF e
  have hst2 := hst (fun
    | .Starred .. => true
    | _ => false) (fun e => by cases e <;> rfl)
  rw [hbk]
  erw [hst2]
  simp only [hkd, hb]
  by_cases h1 : (!(ts.length == 2 || ts.length == 3) || vs.length != ts.length) = true
  · simp only [h1, Bool.true_or, if_true]
  · rw [Bool.not_eq_true] at h1
    simp only [h1, Bool.false_or, if_false, show (ScopeKind.function != ScopeKind.function) = false from rfl, Bool.false_eq_true]
    repeat' split
    all_goals first | rfl | contradiction
theorem sw_none {ts vs : List Expr} {k1 : Nat} {p1 : Pos} {k2 : Nat} {p2 : Pos} {env : PySem.Env} (hk : env.scope.kind = .function) (hf : vs.all (foldedForSure 8) = true) :
    swappedStores [.Tuple ts k1 p1] (.Tuple vs k2 p2) env = pure none := by
  unfold swappedStores
  simp only [hf]
  repeat' split
  all_goals first | rfl | contradiction
theorem dups2 {x y : Str} (h : ([x, y] : List Str).eraseDups.length = 2) : x ≠ y := by
  intro e
  subst e
  rw [List.eraseDups_cons] at h
  simp at h
theorem dups3 {x y z : Str} (h : ([x, y, z] : List Str).eraseDups.length = 3) : x ≠ y ∧ x ≠ z ∧ y ≠ z := by
  rw [List.eraseDups_cons] at h
  by_cases h1 : y = x
  · subst h1
    by_cases h2 : z = y
    · subst h2; simp at h
    · simp [h2, List.eraseDups_cons] at h
  · by_cases h2 : z = x
    · subst h2
      simp [h1, List.eraseDups_cons] at h
    · by_cases h3 : z = y
      · subst h3
        simp [h1, List.eraseDups_cons] at h
      · exact ⟨fun e => h1 e.symm, fun e => h2 e.symm, fun e => h3 e.symm⟩
theorem sw_inv {ts vs : List Expr} {k1 : Nat} {p1 : Pos} {k2 : Nat} {p2 : Pos} {names : List Str} (h : swC c [.Tuple ts k1 p1] (.Tuple vs k2 p2) = some names) : vs.all notStar = true ∧
    ((∃ x px y py a b, ts = [.Name x px, .Name y py] ∧ vs = [a, b] ∧ names = [x, y] ∧ x ≠ y ∧ c.sc.names.lookup x = some .local ∧ c.sc.names.lookup y = some .local) ∨
      ∃ x px y py z pz a b d, ts = [.Name x px, .Name y py, .Name z pz] ∧ vs = [a, b, d] ∧ names = [x, y, z] ∧ (x ≠ y ∧ x ≠ z ∧ y ≠ z) ∧ c.sc.names.lookup x = some .local ∧ c.sc.names.lookup y = some .local ∧ c.sc.names.lookup z = some .local) := by
  unfold swC at h
  dsimp only at h
  split at h
  · cases h
  · rename_i h1
    split at h
    · cases h
    · rename_i h2
      split at h
      · cases h
      · rename_i h3
        split at h
        · cases h
        · cases h
          have hst : vs.all notStar = true := by
            rw [Bool.not_eq_true, List.any_eq_false] at h2
            rw [List.all_eq_true]
            intro e he
            simpa using h2 e he
          refine ⟨hst, ?_⟩
          rw [Bool.not_eq_true, Bool.or_eq_false_iff] at h1 h3
          obtain ⟨h1, h1'⟩ := h1
          obtain ⟨h3, h3'⟩ := h3
          have hvl : vs.length = ts.length := by simpa using h1'
          have hF : (List.filterMap (nm1 c ((ts.head?.map (·.pos.line)).getD 0)) ts).length = ts.length := by
            have z := h3
            rw [bne_eq_false_iff_eq] at z
            exact z
          have hE : (List.filterMap (nm1 c ((ts.head?.map (·.pos.line)).getD 0)) ts).eraseDups.length = ts.length := by
            have z := h3'
            rw [bne_eq_false_iff_eq] at z
            exact z.trans hF
          show (∃ x px y py a b, ts = [.Name x px, .Name y py] ∧ vs = [a, b] ∧ List.filterMap (nm1 c ((ts.head?.map (·.pos.line)).getD 0)) ts = [x, y] ∧ x ≠ y ∧ _) ∨ ∃ x px y py z pz a b d, ts = [.Name x px, .Name y py, .Name z pz] ∧ vs = [a, b, d] ∧ List.filterMap (nm1 c ((ts.head?.map (·.pos.line)).getD 0)) ts = [x, y, z] ∧ (x ≠ y ∧ x ≠ z ∧ y ≠ z) ∧ _
          obtain ⟨r, e1, e2, e3⟩ := filterMap_all hF
          generalize (ts.head?.map (·.pos.line)).getD 0 = line at *
          rw [e1] at hE ⊢
          match ts, r, vs with
          | [t1, t2], [x, y], [a, b] =>
            simp only [List.map_cons, List.map_nil, List.cons.injEq, and_true] at e3
            obtain ⟨p1, rfl, l1⟩ := nm1_inv e3.1
            obtain ⟨p2, rfl, l2⟩ := nm1_inv e3.2
            exact .inl ⟨x, p1, y, p2, a, b, rfl, rfl, rfl, dups2 hE, l1, l2⟩
          | [t1, t2, t3], [x, y, z], [a, b, d] =>
            simp only [List.map_cons, List.map_nil, List.cons.injEq, and_true] at e3
            obtain ⟨p1, rfl, l1⟩ := nm1_inv e3.1
            obtain ⟨p2, rfl, l2⟩ := nm1_inv e3.2.1
            obtain ⟨p3, rfl, l3⟩ := nm1_inv e3.2.2
            exact .inr ⟨x, p1, y, p2, z, p3, a, b, d, rfl, rfl, rfl, dups3 hE, l1, l2, l3⟩
          | [], _, _ => simp at h1
          | [_], _, _ => simp at h1
          | _ :: _ :: _ :: _ :: _, _, _ => simp at h1
          | [_, _], [], _ => simp at e2
          | [_, _], [_], _ => simp at e2
          | [_, _], _ :: _ :: _ :: _, _ => simp at e2
          | [_, _], [_, _], [] => simp at hvl
          | [_, _], [_, _], [_] => simp at hvl
          | [_, _], [_, _], _ :: _ :: _ :: _ => simp at hvl
          | [_, _, _], [], _ => simp at e2
          | [_, _, _], [_], _ => simp at e2
          | [_, _, _], [_, _], _ => simp at e2
          | [_, _, _], _ :: _ :: _ :: _ :: _, _ => simp at e2
          | [_, _, _], [_, _, _], [] => simp at hvl
          | [_, _, _], [_, _, _], [_] => simp at hvl
          | [_, _, _], [_, _, _], [_, _] => simp at hvl
          | [_, _, _], [_, _, _], _ :: _ :: _ :: _ :: _ => simp at hvl
end
end MP
namespace MP
open PySem PySem.Spec PyProof.Rows L2
def oIAdd : R2 := fun x y H Q => rI0 (fun i j => .int (i + j)) x y H Q ∨ ((∃ i j, x = .str i ∧ y = .str j ∧ i.length + j.length ≤ sizeLine ∧ Q (.str (i ++ j)) H) ∨ rExt2 x y H Q)
theorem iop_mulW {X : Cx} : OpR X (inplaceOp .Mult) (rI CMulW fun i j => .int (i * j)) := opI fun _ _ _ _ _ _ _ hc q => imul_int q hc.ok
section
variable {K : PySem.W.Frag} {T : XT} {W : WX} {σ : L2.St} {m : Nat → Addr} {H : Hp} {h : MH} {Q : VK} {X : Cx}
theorem o_iadd : OpR X (inplaceOp .Add) oIAdd := OpR.or iop_add (OpR.or iop_add_str iop_ext)
theorem t_iadd {a b : D} {x y : V} (R : Rel K m h H) (V1 : RepV K H m h.n a x) (V2 : RepV K H m h.n b y) (O : Out K T W σ (rV K) m h.n H (augD .add a b h) Q) : oIAdd x y H Q := by
  cases V1 with
  | int i =>
    cases V2 with
    | int j => exact .inl ⟨i, j, rfl, rfl, O.here R (.int _)⟩
    | _ => exact False.elim O
  | str s =>
    cases V2 with
    | str t =>
      have O' : Out K T W σ (rV K) m h.n H (if s.length + t.length ≤ sizeLine then .ok (.str (s ++ t)) h else .bad) Q := O
      split at O'
      · rename_i hl
        exact .inr (.inl ⟨s, t, rfl, rfl, hl, O'.here R (.str _)⟩)
      · exact O'.elim
    | _ => exact False.elim O
  | @ref i hi =>
    cases V2 with
    | @ref j hj =>
      have O' : Out K T W σ (rV K) m h.n H (match h.get i, h.get j with
        | some (.lst ds), some (.lst es) => if ds.length + es.length ≤ sizeLine then .ok (.ref i) (h.put i (.lst (ds ++ es))) else .bad
        | _, _ => .bad) Q := O
      split at O'
      · rename_i xs ys e1 e2
        split at O'
        · rename_i hl
          obtain ⟨vs, q1, q2⟩ := R.lst e1
          obtain ⟨ws, q3, q4⟩ := R.lst e2
          have x := Ext.put (K := K) (m := m) (n := h.n) (o := .lst (vs ++ ws)) hi q1 (fun _ z => by cases z) (fun _ _ z => by cases z)
          exact .inr (.inr ⟨m i, m j, vs, ws, rfl, rfl, q1, q3, by rw [← q2.length, ← q4.length]; exact hl, O' m _ _ x (R.put e1 q1 (fun _ z => by cases z) (fun _ _ z => by cases z) ⟨_, upd_same, (q2.append q4).mono x⟩) (.ref hi)⟩)
        · exact O'.elim
      · exact O'.elim
    | _ => exact False.elim O
  | @tup p vs ds h1 h2 => cases V2 <;> exact False.elim O
  | _ => exact False.elim O
theorem o_aug {op : Operator} {o : Bop} (e : augC op = some o) : ∃ rr : R2, (∀ {X : Cx}, OpR X (inplaceOp op) rr) ∧
    ∀ {K : PySem.W.Frag} {T : XT} {W : WX} {σ : L2.St} {m : Nat → Addr} {H : Hp} {h : MH} {Q : VK} {a b : D} {x y : V}, Rel K m h H → RepV K H m h.n a x → RepV K H m h.n b y → Out K T W σ (rV K) m h.n H (augD o a b h) Q → rr x y H Q := by
  cases op with
  | Add => cases e; exact ⟨_, o_iadd, t_iadd⟩
  | Sub => cases e; exact ⟨_, iop_sub, fun R V1 V2 O => t_sub R V1 V2 O⟩
  | Mult =>
    cases e
    refine ⟨_, iop_mulW, ?_⟩
    intro K T W σ m H h Q a b x y R V1 V2 O
    cases V1 with
    | int i =>
      cases V2 with
      | int j =>
        have O' : Out K T W σ (rV K) m h.n H (if i.natAbs.log2 + j.natAbs.log2 < 1000000 then .ok (.int (i * j)) h else .bad) Q := O
        split at O'
        · rename_i hl
          exact ⟨i, j, rfl, rfl, hl, O'.here R (.int _)⟩
        · exact O'.elim
      | _ => exact False.elim O
    | _ => exact False.elim O
  | FloorDiv => cases e; exact ⟨_, iop_fdivW, fun R V1 V2 O => t_fdiv R V1 V2 O⟩
  | Mod => cases e; exact ⟨_, iop_mod, fun R V1 V2 O => t_mod R V1 V2 O⟩
  | _ => cases e
end
section
variable {g : GT} {P : Prog} {T : XT} {f : FT} {k : Nat} {X : Cx} {c : MP.Ctx} {W : WX} {r : Rec}
theorem lc_inv {n : Nat} {elt : Expr} {gens : List Comprehension} {scope : Scope} {lp : Pos} {y : Ex} (h : cE g n c (.ListComp elt gens scope lp) = some y) : ∃ n' tg it ifs x t w ts, gens = [⟨tg, it, ifs, 0⟩] ∧ y = .lc x ((ownC c scope).map (·.2)) t w ts ∧
    (L2.blkC c.N c.sc scope (ownC c scope) && notSet it) = true ∧ cE g n' (blkX c scope) elt = some x ∧ cTg (blkX c scope) tg = some t ∧ cW g (cE g n' c) c tg it = some w ∧ mapO (cE g n' (blkX c scope)) ifs = some ts ∧ tgIn ((ownC c scope).map (·.2)) t = true := by
  cases n with
  | zero => cases h
  | succ n =>
    unfold cE at h
    split at h
    all_goals first
      | (rename_i he; cases he; done)
      | cases h
      | skip
    all_goals
      rename_i he
      injection he with a1 a2 a3 a4
      subst a1 a2 a3 a4
      split at h
      · rename_i h1 h2 h3 h4 h5
        split at h
        · cases h
        · rename_i h6
          cases h
          exact ⟨n, _, _, _, _, _, _, _, rfl, rfl, h1, h2, h3, h4, h5, by simpa using h6⟩
      · cases h
section
variable (S : SndS g P T f k r) (G : Good g P T f k X c W) (GS : GoodS X)
include S G GS
theorem ps_asgN {n : Nat} {x : Str} {i : Nat} {e : Expr} {y : Ex} {p pos : Pos} (h1 : tgC c x = some i) (h2 : cE g n c e = some y) : PS X (.Assign [.Name x p] e pos) (rdS X.K T W (stepS1 r (.asg (.var i) y))) := by
  obtain ⟨q1, q2, q3⟩ := G.tg h1
  have fin : ∀ {te : TE}, (∀ σ H Q, rd X.K T W (rV X.K) (r.e y) σ H Q → te σ H Q) → ∀ D σ H, rdS X.K T W (stepS1 r (.asg (.var i) y)) D σ H → tAsg te (gName i) D σ H := by
    rintro te ht D σ H ⟨m, env, h, R, E, O⟩
    refine ht σ H _ ⟨m, env, h, R, E, OutS.step E O fun d h1 m1 H1 v1 _ x1 R1 V1 O1 => ?_⟩
    exact OutS.nx R1 ((E.mono x1).set V1) O1
  by_cases hl : notLc e = true
  · exact PS.weak (ps_set G.nd q1 q2 (S.e.e G h2) (swaps_of hl) q3) (fin fun _ _ _ q => q)
  · cases e with
    | ListComp elt gens scope lp =>
      obtain ⟨b, hb, hbl⟩ : ∃ b, swapsWith (.ListComp elt gens scope lp) (some (.Name x p)) pos.line X.env = pure b ∧ (b = true → X.env.kindOf x = some .local) := ⟨_, rfl, fun h => by
        simp only [Bool.and_eq_true] at h
        exact eq_of_beq h.1.1.2⟩
      cases b with
      | false => exact PS.weak (ps_set G.nd q1 q2 (S.e.e G h2) hb q3) (fin fun _ _ _ q => q)
      | true =>
        obtain ⟨n', tg, it, ifs, xx, t, w, ts, rfl, rfl, z1, z2, z3, z4, z5, z6⟩ := lc_inv h2
        obtain ⟨wi, gg, tt, te, w1, w2, w3, w4, w5, w6, w7⟩ := S.lc G z1 z2 z3 z4 z5 z6
        refine PS.weak (ps_setLc G.calm G.nd q1 (hbl rfl) hb w1 w2 w3 w4 w5 w6) (fin w7)
    | SetComp _ _ _ _ => cases n <;> cases h2
    | DictComp _ _ _ _ _ => cases n <;> cases h2
    | _ => exact absurd rfl hl
theorem ps_par_of {n : Nat} {ts vs : List Expr} {k1 k2 : Nat} {p1 p2 pos : Pos} {names : List Str} {is : List Nat} {xs : List Ex} (hb : vs.all (constantsAlone 8) = false) (hs : swC c [.Tuple ts k1 p1] (.Tuple vs k2 p2) = some names)
    (hi : mapO (fun x => if isLoc (c.sc.names.lookup x) then ixOf c.N x else none) names = some is) (he : mapO (cE g n c) vs = some xs) : PS X (.Assign [.Tuple ts k1 p1] (.Tuple vs k2 p2) pos) (rdS X.K T W (stepS1 r (.par is xs))) := by
  have hsw := sw_eq (p1 := p1) (k1 := k1) (k2 := k2) (p2 := p2) (ts := ts) (c := c) GS.kind G.sc hb
  rw [hs] at hsw
  obtain ⟨hst, hh⟩ := sw_inv hs
  have ix : ∀ {x : Str} {i : Nat}, (if isLoc (c.sc.names.lookup x) then ixOf c.N x else none) = some i → X.N[i]? = some x := fun {x i} h => by
    split at h
    · rw [G.N]; exact ixOf_ok h
    · cases h
  have hpa := pa_of S.e G hst he
  rcases hh with ⟨x, px, y, py, a, b, rfl, rfl, rfl, hne, l1, l2⟩ | ⟨x, px, y, py, z, pz, a, b, d, rfl, rfl, rfl, hne, l1, l2, l3⟩
  · obtain ⟨i, is, rfl, i1, i2⟩ := mapO_cons hi
    obtain ⟨j, is, rfl, j1, j2⟩ := mapO_cons i2
    rw [mapO_nil j2]
    have n1 := ix i1
    have n2 := ix j1
    have hij : i ≠ j := fun e => by subst e; rw [n1] at n2; cases n2; exact hne rfl
    refine PS.weak (ps_par G.calm G.nd n1 n2 hij (by rw [G.sc]; exact l1) (by rw [G.sc]; exact l2) hpa hsw) ?_
    rintro D σ H ⟨m, env, h, R, E, O⟩
    refine ⟨m, env, h, R, E, OutS.step E O fun ds h1 m1 H1 vs _ x1 R1 V1 O1 => ?_⟩
    split at O1
    · rename_i hl
      match ds, hl, V1, O1 with
      | [d1, d2], _, V1, O1 =>
        obtain ⟨v, w, rfl, r1, r2⟩ := V1.two
        exact ⟨v, w, rfl, OutS.nx R1 (((E.mono x1).set r1).set r2) O1⟩
      | [], hl, _, _ => simp at hl
      | [_], hl, _, _ => simp at hl
      | _ :: _ :: _ :: _, hl, _, _ => simp at hl
    · exact O1.elim
  · obtain ⟨i, is, rfl, i1, i2⟩ := mapO_cons hi
    obtain ⟨j, is, rfl, j1, j2⟩ := mapO_cons i2
    obtain ⟨l, is, rfl, k1, k2⟩ := mapO_cons j2
    rw [mapO_nil k2]
    have n1 := ix i1
    have n2 := ix j1
    have n3 := ix k1
    have hij : i ≠ j := fun e => by subst e; rw [n1] at n2; cases n2; exact hne.1 rfl
    have hil : i ≠ l := fun e => by subst e; rw [n1] at n3; cases n3; exact hne.2.1 rfl
    have hjl : j ≠ l := fun e => by subst e; rw [n2] at n3; cases n3; exact hne.2.2 rfl
    refine PS.weak (ps_par3 G.calm G.nd n1 n2 n3 hij hil hjl (by rw [G.sc]; exact l1) (by rw [G.sc]; exact l2) (by rw [G.sc]; exact l3) hpa hsw) ?_
    rintro D σ H ⟨m, env, h, R, E, O⟩
    refine ⟨m, env, h, R, E, OutS.step E O fun ds h1 m1 H1 vs _ x1 R1 V1 O1 => ?_⟩
    split at O1
    · rename_i hl
      match ds, hl, V1, O1 with
      | [d1, d2, d3], _, V1, O1 =>
        obtain ⟨u, ws, rfl, r1, r2⟩ : ∃ v ws, vs = v :: ws ∧ RepV X.K H1 m1 h1.n d1 v ∧ RepL X.K H1 m1 h1.n [d2, d3] ws := by cases V1 with | cons a b => exact ⟨_, _, rfl, a, b⟩
        obtain ⟨v, w, rfl, r3, r4⟩ := r2.two
        exact ⟨u, v, w, rfl, OutS.nx R1 ((((E.mono x1).set r1).set r3).set r4) O1⟩
      | [], hl, _, _ => simp at hl
      | [_], hl, _, _ => simp at hl
      | [_, _], hl, _, _ => simp at hl
      | _ :: _ :: _ :: _ :: _, hl, _, _ => simp at hl
    · exact O1.elim
theorem stores_of {ts : List Expr} {kk : Nat} {p : Pos} {e : Expr} {env : PySem.Env} (h : notTup e = true) : swappedStores [.Tuple ts kk p] e env = pure none := by
  cases e <;> first | rfl | cases h
theorem stores_sub {o i : Expr} {p : Pos} {e : Expr} {env : PySem.Env} : swappedStores [.Subscript o i p] e env = pure none := by
  cases e <;> rfl
theorem stores_no {ts : List Expr} {kk : Nat} {p : Pos} {e : Expr} (hb : swBad [.Tuple ts kk p] e = false) (hn : swC c [.Tuple ts kk p] e = none) : swappedStores [.Tuple ts kk p] e X.env = pure none := by
  cases e with
  | Tuple vs k2 p2 =>
    have z := sw_eq (p1 := p) (k1 := kk) (k2 := k2) (p2 := p2) (ts := ts) (vs := vs) (c := c) GS.kind G.sc hb
    rw [hn] at z
    exact z
  | _ => rfl
theorem stores_fold {ts : List Expr} {kk : Nat} {p : Pos} {e : Expr} (hf : swFold e = true) : swappedStores [.Tuple ts kk p] e X.env = pure none := by
  cases e with
  | Tuple vs k2 p2 => exact sw_none GS.kind hf
  | _ => rfl
theorem ps_tup_of {n : Nat} {ts : List Expr} {kk : Nat} {e : Expr} {t y : Ex} {p pos : Pos} (h1 : cTg c (.Tuple ts kk p) = some t) (hw : swappedStores [.Tuple ts kk p] e X.env = pure none) (hl : notLc e = true) (h2 : cE g n c e = some y) : PS X (.Assign [.Tuple ts kk p] e pos) (rdS X.K T W (stepS1 r (.asg t y))) := by
  refine PS.weak (ps_asg (S.e.e G h2) (pg_of (r := r) G h1) (swaps_tup hl) hw) ?_
  rintro D σ H ⟨m, env, h, R, E, O⟩
  refine ⟨m, env, h, R, E, OutS.step E O fun d h1' m1 H1 v1 _ x1 R1 V1 O1 => ?_⟩
  cases ha : asgD r t d env h1' with
  | nx env' h2' =>
    have := asg_heap h1 ha
    subst this
    refine ⟨m1, env, h2', d, env', R1, E.mono x1, V1, ha, fun m' H' σ' x2 R2 E2 _ => ?_⟩
    rw [ha] at O1
    exact O1 m' H' σ' x2 R2 E2
  | _ =>
    exfalso
    unfold cTg at h1
    obtain ⟨xs, _, rfl⟩ := Option.map_eq_some_iff.mp h1
    cases d with
    | tup ds =>
      have ha : asgD.go xs ds env h1' = _ := ha
      have hgo : ∀ (xs : List Ex) (ds : List MP.D) (env : Env), (∃ env', asgD.go xs ds env h1' = .nx env' h1') ∨ asgD.go xs ds env h1' = .bad := by
        intro xs
        induction xs with
        | nil => intro ds env; cases ds with
          | nil => exact .inl ⟨_, rfl⟩
          | cons _ _ => exact .inr rfl
        | cons x xs ih => intro ds env; cases ds with
          | nil => cases x <;> exact .inr rfl
          | cons d ds =>
            cases x with
            | var i => exact ih ds _
            | _ => exact .inr rfl
      rcases hgo xs ds env with ⟨env', e⟩ | e
      · rw [e] at ha; cases ha
      · have O1 : OutS X.K T W m1 h1'.n H1 (asgD.go xs ds env h1') D := O1
        rw [e] at O1
        exact O1
    | _ => exact O1
omit S G GS in
theorem set_any (hu : X.A.units + 1 < cLine) : PSet X (fun o i v H Q => rSetL o i v H Q ∨ rSetK o i v H Q) := by
  intro pins s σ H o i v ov iv u Q I ro ri rv h
  rcases h with h | h
  · exact set_list pins s σ H o i v ov iv u Q I ro ri rv h
  · exact set_dict hu pins s σ H o i v ov iv u Q I ro ri rv h
theorem ps_ix_of {n : Nat} {o i e : Expr} {x y z : Ex} {p pos : Pos} (hl : (notSlice i && notLc e) = true) (h1 : cE g n c o = some x) (h2 : cE g n c i = some y) (h3 : cE g n c e = some z) : PS X (.Assign [.Subscript o i p] e pos) (rdS X.K T W (stepS1 r (.asg (.ix x y) z))) := by
  rw [Bool.and_eq_true] at hl
  refine PS.weak (ps_asg (S.e.e G h3) (pg_sub (S.e.e G h1) (S.e.e G h2) (set_any (by have := G.room.un; omega)) (fun v => by have := hl.1; cases i <;> first | rfl | cases this)) (by unfold swapsWithSole; exact swaps_of hl.2) (stores_sub S G GS)) ?_
  rintro D σ H ⟨m, env, h, R, E, O⟩
  refine ⟨m, env, h, R, E, OutS.step E O fun d h1' m1 H1 v1 _ x1 R1 V1 O1 => ?_⟩
  refine ⟨m1, env, h1', R1, E.mono x1, OutS.step (E.mono x1) O1 fun d2 h2' m2 H2 v2 _ x2 R2 V2 O2 => ?_⟩
  refine ⟨m2, env, h2', R2, (E.mono x1).mono x2, OutS.step ((E.mono x1).mono x2) O2 fun d3 h3' m3 H3 v3 _ x3 R3 V3 O3 => ?_⟩
  split at O3
  · rename_i h4 hset
    have V1' := (V1.mono x2).mono x3
    have V2' := V2.mono x3
    have E' := ((E.mono x1).mono x2).mono x3
    have dic : ∀ {a : Nat} {kvs : List (Key × MP.D)} {kk : Key}, d2 = .ref a → keyD d3 = some kk → h3'.get a = some (.dK kvs) → (if kvs.length < sizeLine then some (h3'.put a (.dK (storeK kvs kk d))) else none) = some h4 →
        rSetL v2 v3 v1 H3 (fun H' => D.nx σ H') ∨ rSetK v2 v3 v1 H3 (fun H' => D.nx σ H') := by
      intro a kvs kk hd2 hk q0 he
      subst hd2
      split at he
      · rename_i hlen
        cases he
        cases V2' with
        | ref ha =>
        obtain ⟨ks, q1, q2, q3⟩ := R3.obj _ _ q0
        have hl2 : ks.length = kvs.length := by
          have := congrArg List.length q3
          simpa using this.symm
        have z := store_rel (k := kk) V1' q3 q2
        have x4 := Ext.put (K := X.K) (m := m3) (n := h3'.n) (o := .dK (putK ks kk v1)) ha q1 (fun _ z => by cases z) (fun _ _ z => by cases z)
        refine .inr ⟨m3 a, ks, kk, rfl, keyD_of V3 hk, q1, by rw [hl2]; exact hlen, ?_⟩
        exact O3 m3 _ σ x4 (R3.put q0 q1 (ob := .dK (storeK kvs kk d)) (fun _ z => by cases z) (fun _ _ z => by cases z) ⟨_, upd_same, z.2.mono x4, z.1⟩) (E'.mono x4)
      · cases he
    cases d2 with
    | ref a =>
      cases d3 with
      | int q =>
        have hset' : (match h3'.get a with
          | some (.lst ds) => (match ixN ds.length q with
            | some j => some (h3'.put a (.lst (ds.set j d)))
            | none => none)
          | some (.dK kvs) => if kvs.length < sizeLine then some (h3'.put a (.dK (storeK kvs (.inl q) d))) else none
          | none => none) = some h4 := hset
        split at hset'
        · rename_i ds q0
          split at hset'
          · rename_i j hj
            cases hset'
            cases V2' with
            | ref ha =>
            cases V3
            obtain ⟨ws, q1, q2⟩ := R3.lst q0
            have x4 := Ext.put (K := X.K) (m := m3) (n := h3'.n) (o := .lst (ws.set j v1)) ha q1 (fun _ z => by cases z) (fun _ _ z => by cases z)
            refine .inl ⟨m3 a, ws, q, j, rfl, rfl, q1, by rw [← q2.length]; exact hj, ?_⟩
            exact O3 m3 _ σ x4 (R3.put q0 q1 (fun _ z => by cases z) (fun _ _ z => by cases z) ⟨_, upd_same, (q2.set V1' j).mono x4⟩) (E'.mono x4)
          · cases hset'
        · rename_i kvs q0
          exact dic rfl rfl q0 hset'
        · cases hset'
      | str q =>
        have hset' : (match h3'.get a with
          | some (.dK kvs) => if kvs.length < sizeLine then some (h3'.put a (.dK (storeK kvs (.inr q) d))) else none
          | _ => none) = some h4 := hset
        split at hset'
        · rename_i kvs q0
          exact dic rfl rfl q0 hset'
        · cases hset'
      | _ => cases hset
    | _ => cases d3 <;> cases hset
  · exact O3.elim
theorem ps_aug_of {n : Nat} {x : Str} {i : Nat} {op : Operator} {o : Bop} {e : Expr} {y : Ex} {p pos : Pos} (h1 : tgC c x = some i) (h2 : augC op = some o) (h3 : cE g n c e = some y) : PS X (.AugAssign (.Name x p) op e pos) (rdS X.K T W (stepS1 r (.aug i o y))) := by
  obtain ⟨q1, q2, q3⟩ := G.tg h1
  obtain ⟨rr, o1, o2⟩ := o_aug h2
  · refine PS.weak (ps_aug G.nd q1 q2 (S.e.e G h3) o1 q3) ?_
    rintro D σ H ⟨m, env, h, R, E, O⟩
    have O : OutS X.K T W m h.n H (match env[i]? with
      | some (some x) => .of (r.e y env h) env fun y h => .of (augD o x y h) env fun z h => .nx (env.set i (some z)) h
      | _ => .bad) D := O
    split at O
    · rename_i d hd
      obtain ⟨v, w1, w2⟩ := E.2 i d hd
      refine ⟨v, w1, m, env, h, R, E, OutS.step E O fun d1 h1' m1 H1 v1 _ x1 R1 V1 O1 => ?_⟩
      exact o2 (T := T) (W := W) (σ := σ) R1 (w2.mono x1) V1 (OutS.step (E.mono x1) O1 fun z h2' m2 H2 v2 _ x2 R2 V2 O2 => OutS.nx R2 (((E.mono x1).mono x2).set V2) O2)
    · exact O.elim
end
end
end MP
namespace MP
open PySem PySem.Spec PyProof.Rows L2
theorem seq_id (r : RS) : r.seq (fun e h => .nx e h) = r := by cases r <;> rfl
section
variable {g : GT} {P : Prog} {T : XT} {f : FT} {k : Nat} {X : Cx} {c : MP.Ctx} {W : WX} {N : Nat}
variable (hall : ∀ j, j ≤ N → SndS g P T f k (inner P f j)) (G : Good g P T f k X c W) (GS : GoodS X)
include hall G GS
theorem ps_while_of {n : Nat} {tst : Expr} {body : List Stmt} {x : Ex} {ys : List St} {pos : Pos} (h1 : cE g n c tst = some x) (h2 : mapO (cSt g n c) body = some ys) : PS X (.While tst body [] pos) (rdS X.K T W (stepS1 (inner P f N) (.whl x ys))) := by
  have pt : PT X tst (fun σ H Q => ∃ j, j ≤ N ∧ rd X.K T W (rQ Bool) ((inner P f j).t x) σ H Q) := ⟨fun pins s σ H Q I ⟨j, hj, q⟩ => ((hall j hj).e.t G h1).run pins s σ H Q I q⟩
  have pb : PSs X body (fun D σ H => ∃ j, j ≤ N ∧ rdS X.K T W ((inner P f j).s ys) D σ H) := ⟨fun pins s σ H D I ⟨j, hj, q⟩ => ((hall j hj).s G GS h2).run pins s σ H D I q⟩
  refine PS.weak (ps_while GS.pas pt pb) ?_
  rintro D σ H ⟨m, env, h, R, E, O⟩
  refine ⟨fun i σ H => i ≤ N + 1 ∧ ∃ m env h, Rel X.K m h H ∧ RepE X.K H m h.n env σ ∧ OutS X.K T W m h.n H ((inner P f i).s [.whl x ys] env h) D, ⟨N + 1, Nat.le_refl _, m, env, h, R, E, ?_⟩, ?_⟩
  · show OutS X.K T W m h.n H ((stepS1 (inner P f N) (.whl x ys) env h).seq (fun e h => .nx e h)) D
    rw [seq_id]
    exact O
  · rintro i σ H ⟨hi, m, env, h, R, E, O⟩
    cases i with
    | zero => exact O.elim
    | succ i =>
      have O : OutS X.K T W m h.n H ((stepS1 (inner P f i) (.whl x ys) env h).seq (fun e h => .nx e h)) D := O
      rw [seq_id] at O
      refine ⟨i, by omega, m, env, h, R, E, OutS.step E O fun b h1 m1 H1 v1 _ x1 R1 V1 O1 => ?_⟩
      cases V1
      cases b with
      | false => exact OutS.nx R1 (E.mono x1) O1
      | true =>
        rw [if_pos rfl] at O1 ⊢
        refine ⟨_, fun σ' H' hw => ⟨i, Nat.lt_succ_self _, hw⟩, i, by omega, m1, env, h1, R1, E.mono x1, ?_⟩
        cases hq : (inner P f i).s ys env h1 with
        | nx e2 h2 =>
          rw [hq] at O1
          intro m' H' σ' x2 R2 E2
          exact ⟨by omega, m', e2, h2, R2, E2, OutS.ext x2 O1⟩
        | ct e2 h2 =>
          rw [hq] at O1
          intro m' H' σ' x2 R2 E2
          exact ⟨by omega, m', e2, h2, R2, E2, OutS.ext x2 O1⟩
        | bk e2 h2 => rw [hq] at O1; exact O1
        | rt d h2 => rw [hq] at O1; exact O1
        | ex e e2 h2 => rw [hq] at O1; exact O1
        | bad => rw [hq] at O1; exact O1
theorem ps_for_of {n : Nat} {tg it : Expr} {body : List Stmt} {t w : Ex} {ys : List St} {pos : Pos} (hs : notSet it = true) (h0 : cTg c tg = some t) (h1 : cW g (cE g n c) c tg it = some w) (h2 : mapO (cSt g n c) body = some ys) : PS X (.For tg it body [] pos) (rdS X.K T W (stepS1 (inner P f N) (.for_ t w ys))) := by
  have S := hall N (Nat.le_refl _)
  refine PS.weak (ps_for GS.pas G.calm (pi_of S.e G h1) (pg_of (r := inner P f N) G h0) (S.s G GS h2) (folded_of hs)) ?_
  rintro D σ H ⟨m, env, h, R, E, O⟩
  refine ⟨m, env, h, R, E, OutS.step E O fun wk h1 m1 H1 J _ x1 R1 V1 O1 => ?_⟩
  refine ⟨fun i cc σ H => ∃ m env h, Rel X.K m h H ∧ RepE X.K H m h.n env σ ∧ RepJ X.K H m h.n wk J ∧ OutS X.K T W m h.n H (forD (inner P f N) t ys wk cc i env h) D, ⟨_, m1, env, h1, R1, E.mono x1, V1, O1⟩, ?_⟩
  rintro i cc σ H ⟨m, env, h, R, E, Jc, O⟩
  obtain ⟨w1, w2⟩ := walk_at (i := i) R Jc
  cases hat : wk.at h i with
  | none => cases cc <;> (unfold forD at O; rw [hat] at O; exact O.elim)
  | some od =>
    cases od with
    | none =>
      refine .inl ⟨w1 hat, ?_⟩
      cases cc <;> (unfold forD at O; rw [hat] at O; exact OutS.nx R E O)
    | some d0 =>
      obtain ⟨go, yl⟩ := w2 d0 hat
      refine .inr ⟨go, ?_⟩
      cases cc with
      | zero => unfold forD at O; rw [hat] at O; exact O.elim
      | succ cc =>
        unfold forD at O
        rw [hat] at O
        have O2 : OutS X.K T W m h.n H (match asgD (inner P f N) t d0 env h with
          | .nx env h => (match (inner P f N).s ys env h with
            | .nx env h => forD (inner P f N) t ys wk cc (i + 1) env h
            | .ct env h => forD (inner P f N) t ys wk cc (i + 1) env h
            | .bk env h => .nx env h
            | x => x)
          | _ => .bad) D := O
        clear O
        split at O2
        · rename_i env2 h2' hasg
          have := asg_heap h0 hasg
          subst this
          refine ⟨fun σ H => ∃ m env h, Rel X.K m h H ∧ RepE X.K H m h.n env σ ∧ RepJ X.K H m h.n wk J ∧ OutS X.K T W m h.n H (forD (inner P f N) t ys wk cc (i + 1) env h) D, fun σ' H' hh => ⟨cc, Nat.lt_succ_self _, hh⟩, ?_⟩
          intro xv H' hy
          obtain ⟨x3, R3, V3⟩ := yl xv H' hy
          refine ⟨m, env, h2', d0, env2, R3, E.mono x3, V3, hasg, fun m4 H4 σ4 x4 R4 E4 _ => ⟨m4, env2, h2', R4, E4, ?_⟩⟩
          have O3 := OutS.ext (x3.trans x4) O2
          cases hq : (inner P f N).s ys env2 h2' with
          | nx e2 h5 =>
            rw [hq] at O3
            intro m' H' σ' x5 R5 E5
            exact ⟨m', e2, h5, R5, E5, Jc.mono ((x3.trans x4).trans x5), OutS.ext x5 O3⟩
          | ct e2 h5 =>
            rw [hq] at O3
            intro m' H' σ' x5 R5 E5
            exact ⟨m', e2, h5, R5, E5, Jc.mono ((x3.trans x4).trans x5), OutS.ext x5 O3⟩
          | bk e2 h5 => rw [hq] at O3; exact O3
          | rt d h5 => rw [hq] at O3; exact O3
          | ex e e2 h5 => rw [hq] at O3; exact O3
          | bad => rw [hq] at O3; exact O3
        · exact O2.elim
theorem step_s1 {n : Nat} {s : Stmt} {x : St} (h : cSt g n c s = some x) : PS X s (rdS X.K T W (stepS1 (inner P f N) x)) := by
  have S := hall N (Nat.le_refl _)
  cases n with
  | zero => cases h
  | succ n =>
  unfold cSt at h
  split at h
  · cases h
    exact PS.weak ps_doc fun D σ H ⟨m, env, h, R, E, O⟩ => OutS.nx R E O
  · split at h
    · rename_i h1 h2
      cases h
      refine PS.weak (ps_expr (S.e.e G h2) (swaps_of h1)) ?_
      rintro D σ H ⟨m, env, h, R, E, O⟩
      exact ⟨m, env, h, R, E, OutS.step E O fun d h1 m1 H1 v1 _ x1 R1 V1 O1 => OutS.nx R1 (E.mono x1) O1⟩
    · cases h
  · split at h
    · rename_i h1 h2
      cases h
      exact ps_asgN S G GS h1 h2
    · cases h
  · split at h
    · cases h
    · split at h
      · rename_i hf h1 h2 h3
        cases h
        exact ps_tup_of S G GS h1 (stores_fold S G GS hf) h2 h3
      · cases h
    · rename_i names hb hsw
      split at h
      · rename_i hi
        split at h
        · rename_i he
          cases h
          exact ps_par_of S G GS hb hsw hi he
        · cases h
      · cases h
    · rename_i hb hn
      split at h
      · rename_i h1 h2 h3
        cases h
        exact ps_tup_of S G GS h1 (stores_no S G GS hb hn) h2 h3
      · cases h
  · split at h
    · rename_i h1 h2 h3 h4
      cases h
      exact ps_ix_of S G GS h1 h2 h3 h4
    · cases h
  · split at h
    · rename_i h1 h2 h3
      cases h
      exact ps_aug_of S G GS h1 h2 h3
    · cases h
  · split at h
    · rename_i h1 h2 h3
      cases h
      refine PS.weak (ps_if (S.e.t G h1) (S.s G GS h2) (S.s G GS h3)) ?_
      rintro D σ H ⟨m, env, h, R, E, O⟩
      refine ⟨m, env, h, R, E, OutS.step E O fun b h1 m1 H1 v1 _ x1 R1 V1 O1 => ?_⟩
      cases V1
      cases b with
      | true => exact ⟨m1, env, h1, R1, E.mono x1, O1⟩
      | false => exact ⟨m1, env, h1, R1, E.mono x1, O1⟩
    · cases h
  · split at h
    · rename_i h1 h2
      cases h
      exact ps_while_of hall G GS h1 h2
    · cases h
  · split at h
    · rename_i h1 h2 h3 h4
      cases h
      exact ps_for_of hall G GS h1 h2 h3 h4
    · cases h
  · obtain ⟨y, e1, rfl⟩ := Option.map_eq_some_iff.mp h
    refine PS.weak (ps_ret (S.e.e G e1)) ?_
    rintro D σ H ⟨m, env, h, R, E, O⟩
    exact ⟨m, env, h, R, E, OutS.step E O fun d h1 m1 H1 v1 _ x1 R1 V1 O1 => O1 m1 H1 v1 .refl R1 V1⟩
  · cases h
    exact PS.weak ps_retN fun D σ H ⟨m, env, h, R, E, O⟩ => O m H .non .refl R .non
  · cases h
    exact PS.weak ps_pass fun D σ H ⟨m, env, h, R, E, O⟩ => OutS.nx R E O
  · cases h
    exact PS.weak ps_break fun D σ H ⟨m, env, h, R, E, O⟩ => O m H σ .refl R E
  · cases h
    exact PS.weak ps_continue fun D σ H ⟨m, env, h, R, E, O⟩ => O m H σ .refl R E
  · cases h
    exact PS.weak ps_never fun D σ H ⟨m, env, h, R, E, O⟩ => O
  · cases h
theorem step_s {n : Nat} : ∀ {ss : List Stmt} {xs : List St}, mapO (cSt g n c) ss = some xs → PSs X ss (rdS X.K T W (stepS (inner P f N) xs)) := by
  intro ss
  induction ss with
  | nil =>
    intro xs h
    rw [mapO_nil h]
    exact PSs.weak pss_nil fun D σ H ⟨m, env, h, R, E, O⟩ => OutS.nx R E O
  | cons s ss ih =>
    intro xs h
    obtain ⟨y, ys, rfl, e1, e2⟩ := mapO_cons h
    refine PSs.weak (pss_cons (step_s1 hall G GS e1) (ih e2)) ?_
    rintro D σ H ⟨m, env, h, R, E, O⟩
    exact ⟨m, env, h, R, E, OutS.seq O (fun env h1 m1 H1 σ1 _ x1 R1 E1 O1 => ⟨m1, env, h1, R1, E1, O1⟩) rfl rfl rfl⟩
end
section
variable {g : GT} {P : Prog} {T : XT} {f : FT} {k : Nat}
theorem snd_bot : SndS g P T f k Rec.bot where
  e := ⟨fun _ _ _ _ _ => ⟨fun _ _ _ _ _ _ ⟨_, _, _, _, _, O⟩ => O.elim⟩, fun _ _ _ _ _ => ⟨fun _ _ _ _ _ _ ⟨_, _, _, _, _, O⟩ => O.elim⟩⟩
  lc := fun {X c W} G {n scope elt tg it ifs x t w ts} hb _ _ _ _ _ => lc_bot (by rw [Bool.and_eq_true] at hb; have := blkOk_by hb.1; rw [G.N, G.sc]; exact this) (by rw [Bool.and_eq_true] at hb; exact folded_of hb.2)
  s := fun _ _ _ _ _ _ => ⟨fun _ _ _ _ _ _ ⟨_, _, _, _, _, O⟩ => O.elim⟩
theorem snd_step {N : Nat} (hall : ∀ j, j ≤ N → SndS g P T f k (inner P f j)) : SndS g P T f k (inner P f (N + 1)) where
  e := step_snd (hall N (Nat.le_refl _)).e
  lc := fun {_ _ _} G {n scope elt tg it ifs x t w ts} z1 z2 z3 z4 z5 z6 => lc_of (P := P) (pos := default) (hall N (Nat.le_refl _)).e G z1 z2 z3 z4 z5 z6
  s := fun {_ _ _} G GS {n ss xs} h => step_s hall G GS h
theorem snd_all (N : Nat) : SndS g P T f k (inner P f N) := by
  induction N using Nat.strongRecOn with
  | _ N ih =>
    cases N with
    | zero => exact snd_bot
    | succ N => exact snd_step fun j hj => ih j (Nat.lt_succ_of_le hj)
end
end MP
namespace MP
open PySem PySem.Spec PyProof.Rows L2
theorem noref_all {k : Nat} {ds : List D} (h : (ds.all (noref k)) = true) : ∀ d ∈ ds, noref k d = true := List.all_eq_true.mp h
theorem RepV.pure {K : PySem.W.Frag} {H : Hp} {m m' : Nat → Addr} {n n' : Nat} : ∀ (k : Nat) {d : D} {v : V}, noref k d = true → RepV K H m n d v → RepV K H m' n' d v := by
  intro k
  induction k with
  | zero => intro d v h; cases h
  | succ k ih =>
    have ihl : ∀ {ds : List D} {vs : List V}, (∀ d ∈ ds, noref k d = true) → RepL K H m n ds vs → RepL K H m' n' ds vs := by
      intro ds
      induction ds with
      | nil => intro vs _ r; cases r; exact .nil
      | cons d ds ihd =>
        intro vs h r
        cases r with
        | cons r1 r2 => exact .cons (ih (h d (List.mem_cons_self ..)) r1) (ihd (fun e he => h e (List.mem_cons_of_mem _ he)) r2)
    intro d v h r
    cases r with
    | non => exact .non
    | bl b => exact .bl b
    | int i => exact .int i
    | str s => exact .str s
    | tup h1 h2 => exact .tup h1 (ihl (noref_all h) h2)
    | rol h1 h2 => exact .rol h1 (ihl (noref_all h) h2)
    | rod h1 h2 h3 h4 => exact .rod h1 h2 h3 (ihl (noref_all h) h4)
    | ref _ => cases h
theorem RepL.pure {K : PySem.W.Frag} {H : Hp} {m m' : Nat → Addr} {n n' : Nat} {k : Nat} : ∀ {ds : List D} {vs : List V}, ds.all (noref k) = true → RepL K H m n ds vs → RepL K H m' n' ds vs := by
  intro ds
  induction ds with
  | nil => intro vs _ r; cases r; exact .nil
  | cons d ds ihd =>
    intro vs h r
    rw [List.all_cons, Bool.and_eq_true] at h
    cases r with
    | cons r1 r2 => exact .cons (RepV.pure k h.1 r1) (ihd h.2 r2)
theorem Rel.nil {K : PySem.W.Frag} {H : Hp} {m : Nat → Addr} : Rel K m MH.nil H := ⟨fun _ _ h => absurd h (Nat.not_lt_zero _), fun i o e => absurd (MH.get_lt e) (Nat.not_lt_zero _), fun _ h => absurd h (Nat.not_lt_zero _)⟩
theorem repE_start {K : PySem.W.Frag} {H : Hp} {m : Nat → Addr} {n : Nat} {N : List Str} {fn : Fn} {ds : List D} {vs : List V} (hn : fn.nl = N.length) (r : RepL K H m n ds vs) : RepE K H m n (startD fn ds) (L2.start N vs) := by
  have hl := r.length
  refine ⟨by simp [startD, L2.start, hn, hl], fun i d e => ?_⟩
  unfold startD at e
  unfold L2.start
  by_cases hi : i < ds.length
  · rw [List.getElem?_append_left (by simpa using hi), List.getElem?_map] at e
    obtain ⟨d', e1, e2⟩ := Option.map_eq_some_iff.mp e
    cases e2
    obtain ⟨v, q1, q2⟩ := r.get e1
    exact ⟨v, by rw [List.getElem?_append_left (by simpa [← hl] using hi), List.getElem?_map, q1]; rfl, q2⟩
  · rw [List.getElem?_append_right (by simpa using Nat.le_of_not_lt hi)] at e
    have := List.mem_of_getElem? e
    have := (List.mem_replicate.mp this).2
    cases this
structure Src where
  d : He.DefD
  ps : List Str
  N : List Str
  pur : Bool
  code : List St
def Src.fn (s : Src) : Fn := ⟨s.ps.length, s.N.length, s.pur, s.code⟩
structure SrcOk (g : GT) (s : Src) : Prop where
  sc : FnScope s.N s.ps s.d.scope
  code : ∃ n, mapO (cSt g n ⟨s.N, s.d.scope, fun _ => true⟩) s.d.body = some s.code
  dfl : s.d.dfl = []
  bind : ∀ (kV doc pm : Value) (an : Option Addr) (cdv ct : Value) (us : List Value), us.length = s.ps.length → bindArgs (PySem.W.fnOf s.d.name s.d.qual s.d.params s.d.body s.d.scope .none kV doc pm an cdv ct) ⟨us, []⟩ = pure (s.ps.zip us)
section
variable {g : GT} {P : Prog} {T : XT} {prog : Program} {w : World} {K : PySem.W.Frag} {mg : Str → Option Value} {base : Heap} {N : Nat}
theorem evk_len {P : Prog} {N k i : Nat} {s : Src} (hs : P.fns[i]? = some s.fn) (ds : List D) (h : MH) : evk P N k i ds h = .bad ∨ ds.length = s.ps.length := by
  cases k with
  | zero => exact .inl rfl
  | succ k =>
    show callD P (inner P (evk P N k) N) i ds h = .bad ∨ _
    unfold callD
    rw [hs]
    dsimp only
    split
    · rename_i e
      exact .inr e
    · exact .inl rfl
theorem body_out {W : WX} {m : Nat → Addr} {H : Hp} {r : RS} {Q : VK} {n : Nat} (O : Out K T W [] (rV K) m n H (match r with
  | .rt d h => .ok d h
  | .nx _ h => .ok .non h
  | .ex x _ h => .ex x h
  | _ => .bad) Q) (hW : ∀ cl dd σ σ' H, W cl dd σ H → W cl dd σ' H) : OutS K T W m n H r { nx := fun _ H' => Q .non H', rt := Q } := by
  cases r with
  | nx e h' => exact fun m' H' σ' x R E => O m' H' .non x R .non
  | rt d h' => exact O
  | bk e h' => exact O.elim
  | ct e h' => exact O.elim
  | ex x e h' => exact fun m' H' σ' cl dd x R E V => hW _ _ _ _ _ (O m' H' cl dd x R V)
  | bad => exact O
theorem ok_src {k i : Nat} {s : Src} {f : Addr} {fd : FuncData} (hk : Glob g P T (evk P N k) k prog w K mg base) (hs : P.fns[i]? = some s.fn) (ok : SrcOk g s)
    (F : FunD K s.d.name s.d.qual s.d.params s.d.body s.d.scope [] (s.d.kws K) f fd) : FnG prog w K mg base (k + 1) f fd s.ps (spF K T (evk P N (k + 1)) s.ps.length i) := by
  refine body_G F ok.sc (fun vs H Q E h => h.1) fun cdv A outer s0 H vs Q E hr gd h => ?_
  obtain ⟨hlen, m, mh, ds, R, V, O⟩ := h
  obtain ⟨n, hc⟩ := ok.code
  let X : Cx := cxOf (L2.CX prog w) prog w K mg base s.N s.d.qual s.d.scope f cdv A outer s0 H E
  have G : Good g P T (evk P N k) k X ⟨s.N, s.d.scope, fun _ => true⟩ (fun cl dd _ H => E cl dd H) := ⟨rfl, rfl, ok.sc.nd, rfl, fun _ _ => rfl, hr, gd, takes_of rfl rfl rfl rfl, hk⟩
  have GS : GoodS X := ⟨ok.sc.kind, passes_of rfl⟩
  refine ⟨_, (snd_all N).s G GS hc, ?_⟩
  have O : Out K T (fun cl dd _ H => E cl dd H) [] (rV K) m mh.n H (callD P (inner P (evk P N k) N) i ds mh) Q := O
  unfold callD at O
  rw [hs] at O
  dsimp only at O
  split at O
  · have hE : RepE K H m mh.n (startD s.fn ds) (L2.start s.N vs) := repE_start rfl V
    split at O
    · split at O
      · rename_i hnr
        refine ⟨m, startD s.fn ds, MH.nil, Rel.nil, repE_start rfl (V.pure hnr), ?_⟩
        refine body_out (?_) (fun _ _ _ _ _ z => z)
        show Out K T _ [] (rV K) m MH.nil.n H (runD (inner P (evk P N k) N) s.fn ds MH.nil) Q
        cases hr : runD (inner P (evk P N k) N) s.fn ds MH.nil with
        | ok d h' =>
          rw [hr] at O
          dsimp only at O
          split at O
          · rename_i hd
            intro m' H' v x R' V'
            obtain ⟨R2, x2⟩ := R.frame x
            exact O m H' v x2 R2 (V'.pure 70 hd)
          · exact O.elim
        | ex e h' =>
          rw [hr] at O
          dsimp only at O
          split at O
          · rename_i hd
            intro m' H' cl dd x R' V'
            obtain ⟨R2, x2⟩ := R.frame x
            refine O m H' cl dd x2 R2 ?_
            obtain ⟨C, f, w1, w2, w3⟩ := V'
            refine ⟨C, f, w1, w2, ?_⟩
            cases f with
            | none => trivial
            | some f =>
              obtain ⟨d, v, u1, u2, u3⟩ := w3
              exact ⟨d, v, u1, u2, u3.pure 70 hd⟩
          · exact O.elim
        | bad => rw [hr] at O; exact O
      · exact O.elim
    · exact ⟨m, startD s.fn ds, mh, R, hE, body_out O (fun _ _ _ _ _ z => z)⟩
  · exact O.elim
end
def dBl (f : D → Value → Bool) : List D → List Value → Bool
  | [], [] => true
  | d :: ds, u :: us => f d u && dBl f ds us
  | _, _ => false
/-- the entries of a dict with whole keys -/
def dEs : List Key → List DictEntry → Bool
  | [], [] => true
  | .inl i :: ks, e :: es => (match e.key with
    | .int j _ => decide (i = j)
    | _ => false) && (decide (e.hash = hashInt i) && dEs ks es)
  | _, _ => false
theorem dEs_len : ∀ {ks : List Key} {es : List DictEntry}, dEs ks es = true → ks.length = es.length
  | [], [], _ => rfl
  | .inl i :: ks, e :: es, h => by
    have h : ((match e.key with
      | .int j _ => decide (i = j)
      | _ => false) && (decide (e.hash = hashInt i) && dEs ks es)) = true := h
    rw [Bool.and_eq_true, Bool.and_eq_true] at h
    rw [List.length_cons, List.length_cons, dEs_len h.2.2]
  | [], _ :: _, h => by cases h
  | .inl _ :: _, [], h => by cases h
  | .inr _ :: _, [], h => by cases h
  | .inr _ :: _, _ :: _, h => by cases h
theorem dEs_ok {P : Program} {w : World} : ∀ {ks : List Key} {es : List DictEntry}, dEs ks es = true → ks.length = es.length ∧ Pairs (mixKind P w) es (ks.zip (es.map (·.val))) ∧ ∀ e ∈ es, ∃ k, (mixKind P w).is k e.key = true ∧ e.hash = (mixKind P w).hash k
  | [], [], _ => ⟨rfl, .nil, fun e h => (by cases h)⟩
  | .inl i :: ks, e :: es, h => by
    have h : ((match e.key with
      | .int j _ => decide (i = j)
      | _ => false) && (decide (e.hash = hashInt i) && dEs ks es)) = true := h
    rw [Bool.and_eq_true, Bool.and_eq_true] at h
    obtain ⟨h1, h2, h3⟩ := h
    obtain ⟨w1, w2, w3⟩ := dEs_ok (P := P) (w := w) h3
    have hk : (mixKind P w).is (.inl i) e.key = true := by
      split at h1
      · rename_i j t hj
        rw [hj, of_decide_eq_true h1]
        exact keyIs_int j t
      · cases h1
    refine ⟨by rw [List.length_cons, List.length_cons, w1], .cons hk rfl w2, fun e' he => ?_⟩
    rcases List.mem_cons.mp he with q | q
    · rw [q]; exact ⟨.inl i, hk, of_decide_eq_true h2⟩
    · exact w3 e' q
  | [], _ :: _, h => by cases h
  | .inl _ :: _, [], h => by cases h
  | .inr _ :: _, [], h => by cases h
  | .inr _ :: _, _ :: _, h => by cases h
theorem kv_zip : ∀ {ks : List Key} {vs : List V} {us : List Value}, ks.length = us.length → Vals vs us → KV (ks.zip vs) (ks.zip us) ∧ (ks.zip vs).map (·.1) = ks ∧ (ks.zip vs).map (·.2) = vs ∧ (ks.zip us).map (·.1) = ks
  | [], vs, us, e, r => by
    cases us with
    | nil => cases r; exact ⟨.nil, rfl, rfl, rfl⟩
    | cons _ _ => cases e
  | k :: ks, vs, us, e, r => by
    cases us with
    | nil => cases e
    | cons u us =>
      cases r with
      | cons r1 r2 =>
        obtain ⟨h1, h2, h3, h4⟩ := kv_zip (ks := ks) (by simpa using e) r2
        simp only [List.zip_cons_cons, List.map_cons, h2, h3, h4, and_self, and_true]
        exact .cons ⟨rfl, r1⟩ h1
def dB (K : PySem.W.Frag) : Nat → D → Value → Bool
  | 0, _, _ => false
  | n + 1, d, u => match d, u with
    | .non, .none => true
    | .bl b, .bool c => b == c
    | .int i, .int j _ => decide (i = j)
    | .str s, .str t _ => decide (s = t)
    | .tup ds, .ref a => match K.lookup a with
      | some ⟨.type c, _, .seq its _, _⟩ => decide (c = "tuple") && (decide (its.size ≤ sizeLine) && dBl (dB K n) ds its.toList)
      | _ => false
    | .rod ks ds, .ref a => match K.lookup a with
      | some ⟨.type c, .none, .dict es _, sl⟩ => decide (c = "dict") && (sl.isEmpty && (!(a == sysModules) && (decide (ks.length ≤ sizeLine) && (dEs ks es.toList && (decide ks.Nodup && dBl (dB K n) ds (es.toList.map (·.val)))))))
      | _ => false
    | _, _ => false
theorem dBl_ok {K : PySem.W.Frag} {f : D → Value → Bool} (hf : ∀ d u, f d u = true → ∃ v, RelV v u ∧ ∀ H m n', RepV K H m n' d v) : ∀ (ds : List D) (us : List Value), dBl f ds us = true → ∃ vs, Vals vs us ∧ ∀ H m n', RepL K H m n' ds vs
  | [], [], _ => ⟨[], .nil, fun _ _ _ => .nil⟩
  | d :: ds, u :: us, h => by
    have h : (f d u && dBl f ds us) = true := h
    rw [Bool.and_eq_true] at h
    obtain ⟨v, q1, q2⟩ := hf d u h.1
    obtain ⟨vs, q3, q4⟩ := dBl_ok hf ds us h.2
    exact ⟨v :: vs, .cons q1 q3, fun H m n' => .cons (q2 H m n') (q4 H m n')⟩
  | [], _ :: _, h => by cases h
  | _ :: _, [], h => by cases h
theorem dB_ok {K : PySem.W.Frag} : ∀ (n : Nat) (d : D) (u : Value), dB K n d u = true → ∃ v, RelV v u ∧ ∀ H m n', RepV K H m n' d v := by
  intro n
  induction n with
  | zero => intro d u h; cases h
  | succ n ih =>
    intro d u h
    unfold dB at h
    split at h
    · exact ⟨.non, rfl, fun _ _ _ => .non⟩
    · rename_i b c
      have := eq_of_beq h
      subst this
      exact ⟨.bl b, rfl, fun _ _ _ => .bl b⟩
    · rename_i i j t
      have := of_decide_eq_true h
      subst this
      exact ⟨.int i, ⟨t, rfl⟩, fun _ _ _ => .int i⟩
    · rename_i i j t
      have := of_decide_eq_true h
      subst this
      exact ⟨.str i, ⟨t, rfl⟩, fun _ _ _ => .str i⟩
    · rename_i ds a
      split at h
      · rename_i c od its nn osl hl
        rw [Bool.and_eq_true, Bool.and_eq_true] at h
        obtain ⟨h1, h2, h3⟩ := h
        obtain ⟨vs, q1, q2⟩ := dBl_ok ih _ _ h3
        refine ⟨.ref a, rfl, fun H m n' => .tup (.inr ⟨_, its, nn, hl, congrArg Value.type (of_decide_eq_true h1), rfl, of_decide_eq_true h2, q1⟩) (q2 H m n')⟩
      · cases h
    · rename_i ks ds a
      split at h
      · rename_i c es nn sl hl
        simp only [Bool.and_eq_true] at h
        obtain ⟨h1, h2, h3, h4, h5, h6, h7⟩ := h
        obtain ⟨vs, q1, q2⟩ := dBl_ok ih _ _ h7
        have w1 := dEs_len h5
        obtain ⟨z1, z2, z3, z4⟩ := kv_zip (ks := ks) (by rw [w1, List.length_map]) q1
        have hR : RoD K a (ks.zip vs) := by
          refine ⟨_, ks.zip (es.toList.map (·.val)), hl, by simpa using h3, ?_, z1, fun P w => ?_⟩
          · have := congrArg List.length z2
            rw [List.length_map] at this
            rw [this]
            exact of_decide_eq_true h4
          · obtain ⟨_, y2, y3⟩ := dEs_ok (P := P) (w := w) h5
            refine ⟨es, nn, ⟨congrArg Value.type (of_decide_eq_true h1), rfl, by simpa using h2⟩, rfl, fun e he => y3 e (by simpa using he), y2, ?_⟩
            rw [z4]
            exact of_decide_eq_true h6
        exact ⟨.ref a, rfl, fun H m n' => .rod hR z2 z3 (q2 H m n')⟩
      · cases h
    · cases h
def factsM (fr : List Str) (cs : List (Str × D)) (fn : List He.DefD) (K : PySem.W.Frag) : Bool :=
  (fr.all fun x => He.eqO (PySem.W.nsIn K mainGlobals x) (some none)) && ((cs.all fun q => match PySem.W.nsIn K mainGlobals q.1 with
    | some (some u) => dB K 20 q.2 u
    | _ => false) && ((fn.all fun d => (He.Fa.glo d.name).ok K && decide (d.at_ = (d.name, none))) && fn.all fun d => d.ok K))
def obsM (fr : List Str) (cs : List (Str × D)) (fn : List He.DefD) (K : PySem.W.Frag) : He.AlD := (factsM fr cs fn K, fn.map fun d => He.fnW K d.at_)
def obsMG (n : Nat) (fr : List Str) (cs : List (Str × D)) (fn : List He.DefD) (g : Addr → Option Obj) : He.AlD := obsM fr cs fn (He.frG g (He.asD g n))
def SaysM (fr : List Str) (cs : List (Str × D)) (fn : List He.DefD) (K : PySem.W.Frag) : Prop := obsM fr cs fn K = He.valD fn
def hookM (n : Nat) (fr : List Str) (cs : List (Str × D)) (fn : List He.DefD) : PySem.W.Hook where
  α := He.AlD
  obs := fun s => obsMG n fr cs fn s.heap.get?
  val := fun _ => He.valD fn
  says := fun _ h => ∃ K : PySem.W.Frag, K.In h ∧ SaysM fr cs fn K
  of := fun _ _ e => ⟨_, He.frG_in, e⟩
  keeps := fun _ _ _ ⟨K, hK, c⟩ k => ⟨K, PySem.W.Frag.In.keeps hK k, c⟩
theorem obsMG_eq {n : Nat} {fr : List Str} {cs : List (Str × D)} {fn : List He.DefD} {g : Addr → Option Obj} {s : Shared} (h : ∀ a, g a = s.heap.get? a) : obsMG n fr cs fn g = (hookM n fr cs fn).obs s := by
  have e : g = s.heap.get? := funext h
  rw [e] <;> rfl
section
variable {fr : List Str} {cs : List (Str × D)} {fn : List He.DefD} {K : PySem.W.Frag} {h : Heap} {mg : Str → Option Value}
theorem SaysM.all (c : SaysM fr cs fn K) : factsM fr cs fn K = true := congrArg (fun z : He.AlD => z.1) c
theorem SaysM.def_ (c : SaysM fr cs fn K) (i : Nat) {d : He.DefD} (h : fn[i]? = some d) : ∃ fd, FunD K d.name d.qual d.params d.body d.scope (d.dvs K) (d.kws K) (He.fAd K d.at_) fd := by
  have c1 := c.all
  unfold factsM at c1
  simp only [Bool.and_eq_true] at c1
  have c2 := c1.2.2.2
  have e : fn.map (fun d => He.fnW K d.at_) = fn.map He.DefD.val := congrArg (fun z : He.AlD => z.2) c
  have e2 : (fn.map fun d => He.fnW K d.at_)[i]? = (fn.map He.DefD.val)[i]? := by rw [e]
  rw [List.getElem?_map, List.getElem?_map, h] at e2
  exact He.DefD.funD (Option.some.inj e2) (List.all_eq_true.mp c2 d (List.mem_of_getElem? h))
theorem SaysM.glo (c : SaysM fr cs fn K) (X : K.In h) (G : h.Ns mainGlobals mg) {d : He.DefD} (hd : d ∈ fn) : mg d.name = some (.ref (He.fAd K d.at_)) := by
  have c1 := c.all
  unfold factsM at c1
  simp only [Bool.and_eq_true] at c1
  have c2 := List.all_eq_true.mp c1.2.2.1 d hd
  rw [Bool.and_eq_true] at c2
  have e := He.glo_ok X G c2.1
  rw [of_decide_eq_true c2.2]
  exact e
theorem SaysM.free (c : SaysM fr cs fn K) (X : K.In h) (G : h.Ns mainGlobals mg) {x : Str} (hd : x ∈ fr) : mg x = none := by
  have c1 := c.all
  unfold factsM at c1
  simp only [Bool.and_eq_true] at c1
  exact He.free_ok X G (x := x) (List.all_eq_true.mp c1.1 x hd)
theorem SaysM.con (c : SaysM fr cs fn K) (X : K.In h) (G : h.Ns mainGlobals mg) {x : Str} {d : D} (hd : (x, d) ∈ cs) : ∃ v u, mg x = some u ∧ RelV v u ∧ ∀ H m n, RepV K H m n d v := by
  have c1 := c.all
  unfold factsM at c1
  simp only [Bool.and_eq_true] at c1
  have c2 := List.all_eq_true.mp c1.2.1 (x, d) hd
  dsimp only at c2
  split at c2
  · rename_i u hu
    obtain ⟨v, q1, q2⟩ := dB_ok _ _ _ c2
    exact ⟨v, u, PySem.W.mg_of X G hu, q1, q2⟩
  · cases c2
end
/-- the names of a table with their places -/
def ixs : List Str → Nat → List (Str × Nat)
  | [], _ => []
  | y :: ys, i => (y, i) :: ixs ys (i + 1)
theorem ixs_ok {x : Str} {i : Nat} : ∀ (l : List Str) (j : Nat), (ixs l j).lookup x = some i → j ≤ i ∧ l[i - j]? = some x
  | [], _, h => by cases h
  | y :: ys, j, h => by
    unfold ixs at h
    rw [List.lookup_cons] at h
    split at h
    · rename_i e
      cases h
      rw [Nat.sub_self, eq_of_beq e]
      exact ⟨Nat.le_refl _, rfl⟩
    · obtain ⟨h1, h2⟩ := ixs_ok ys (j + 1) h
      refine ⟨by omega, ?_⟩
      rw [show i - j = (i - (j + 1)) + 1 by omega]
      exact h2
def gtOf (fr : List Str) (cs : List (Str × D)) (ss : List Src) : GT := ⟨ixs (ss.map fun s => s.d.name) 0, ixs (cs.map (·.1)) 0, fr⟩
def progOf (cs : List (Str × D)) (ss : List Src) : Prog := ⟨ss.map Src.fn, cs.map (·.2)⟩
theorem levels {T : XT} {prog : Program} {w : World} {fr : List Str} {cs : List (Str × D)} {ss : List Src} {K : PySem.W.Frag} {mg : Str → Option Value} {base : Heap} {N : Nat}
    (c : SaysM fr cs (ss.map (·.d)) K) (X : K.In base) (G : base.Ns mainGlobals mg) (ok : ∀ s ∈ ss, SrcOk (gtOf fr cs ss) s) : ∀ k, Glob (gtOf fr cs ss) (progOf cs ss) T (evk (progOf cs ss) N k) k prog w K mg base := by
  have base0 : ∀ (f : FT) (k : Nat), (∀ (x : Str) (i : Nat) (s : Src), ss[i]? = some s → s.d.name = x → ∃ fa fd ps, mg x = some (.ref fa) ∧ PySem.W.keepIn K (.ref fa) = true ∧ Binds K fd ps [] ∧
    (∀ ds h, f i ds h = .bad ∨ ds.length = ps.length) ∧ FnG prog w K mg base k fa fd ps (spF K T f ps.length i)) → Glob (gtOf fr cs ss) (progOf cs ss) T f k prog w K mg base := by
    intro f k hf
    refine ⟨fun x hx => c.free X G (by simpa [gtOf] using hx), fun x i d h1 h2 => ?_, fun x i h => ?_⟩
    · obtain ⟨_, q⟩ := ixs_ok _ _ h1
      rw [Nat.sub_zero, List.getElem?_map] at q
      obtain ⟨⟨y, e⟩, q1, rfl⟩ := Option.map_eq_some_iff.mp q
      have h2 : (cs.map (·.2))[i]? = some d := h2
      rw [List.getElem?_map, q1] at h2
      cases h2
      exact c.con X G (List.mem_of_getElem? q1)
    · obtain ⟨_, q⟩ := ixs_ok _ _ h
      rw [Nat.sub_zero, List.getElem?_map] at q
      obtain ⟨s, q1, q2⟩ := Option.map_eq_some_iff.mp q
      exact hf x i s q1 q2
  have fns : ∀ (i : Nat) (s : Src), ss[i]? = some s → (progOf cs ss).fns[i]? = some s.fn := fun i s e => by
    show (ss.map Src.fn)[i]? = _
    rw [List.getElem?_map, e]
    rfl
  have one : ∀ (x : Str) (i : Nat) (s : Src), ss[i]? = some s → s.d.name = x → ∃ fd, FunD K s.d.name s.d.qual s.d.params s.d.body s.d.scope [] (s.d.kws K) (He.fAd K s.d.at_) fd ∧ mg x = some (.ref (He.fAd K s.d.at_)) ∧ Binds K fd s.ps [] := by
    intro x i s e hx
    obtain ⟨fd, F⟩ := c.def_ i (d := s.d) (by rw [List.getElem?_map, e]; rfl)
    have okS := ok s (List.mem_of_getElem? e)
    have hdv : s.d.dvs K = [] := by unfold He.DefD.dvs; rw [okS.dfl]; rfl
    rw [hdv] at F
    exact ⟨fd, F, hx ▸ c.glo X G (List.mem_map.mpr ⟨s, List.mem_of_getElem? e, rfl⟩), F.bindsN okS.bind⟩
  intro k
  induction k with
  | zero =>
    refine base0 _ _ fun x i s e hx => ?_
    obtain ⟨fd, F, q1, q2⟩ := one x i s e hx
    refine ⟨_, fd, s.ps, q1, F.kp, q2, fun ds h => .inl rfl, .mk0 fun vs H Q E hs => ?_⟩
    obtain ⟨_, m, mh, ds, _, _, O⟩ := hs
    exact O.elim
  | succ k ih =>
    refine base0 _ _ fun x i s e hx => ?_
    obtain ⟨fd, F, q1, q2⟩ := one x i s e hx
    exact ⟨_, fd, s.ps, q1, F.kp, q2, evk_len (fns i s e), ok_src ih (fns i s e) (ok s (List.mem_of_getElem? e)) F⟩
/-- the script stands for a list that is only read -/
theorem script_rep {K : PySem.W.Frag} {H : Hp} {a : Addr} {ns : List Int} {m : Nat → Addr} {n : Nat} (hO : Only H) (hS : SqL K H a (ns.map V.int)) : RepV K H m n (.rol (ns.map D.int)) (.ref a) := by
  have hl : ∀ ns : List Int, RepL K H m n (ns.map D.int) (ns.map V.int) := by
    intro ns
    induction ns with
    | nil => exact .nil
    | cons i ns ih => exact .cons (.int i) ih
  refine .rol ?_ (hl ns)
  rcases hS with (h | h) | h
  · rcases hO a with q | ⟨o, xs, q⟩ <;> (rw [h] at q; cases q)
  · exact .inl h
  · exact .inr h
def noT : XT := fun _ => none
/-- a law's promise from what it reckons -/
theorem law_sp {K : PySem.W.Frag} {P : Prog} {N k i : Nat} {ns : List Int} {H : Hp} {a : Addr} (hO : Only H) (hS : SqL K H a (ns.map V.int)) {h' : MH} (hl : evk P N k i [.rol (ns.map D.int)] MH.nil = .ok (.bl true) h') :
    spF K noT (evk P N k) 1 i [.ref a] H (fun v _ => v = .bl true) (fun _ _ _ => False) := by
  refine ⟨rfl, fun _ => 0, MH.nil, [.rol (ns.map D.int)], Rel.nil, .cons (script_rep hO hS) .nil, ?_⟩
  rw [hl]
  intro m' H' v x R V
  cases V
  rfl
theorem cx_no {P : Program} {w : World} {H : Hp} {s : Shared} {e : Value} {s' : Shared} (h : L2.CX P w [] H s (fun _ _ _ => False) e s') : False := by
  obtain ⟨_, _, _, _, _, _, _, _, _, _, _, _, z⟩ := h
  exact z
end MP
namespace MP
open PySem
def Le {α : Type} (a b : Res α) : Prop := a = .bad ∨ a = b
def LeS (a b : RS) : Prop := a = .bad ∨ a = b
theorem Le.refl {α : Type} (a : Res α) : Le a a := .inr rfl
theorem Le.bad {α : Type} (a : Res α) : Le .bad a := .inl rfl
theorem LeS.refl (a : RS) : LeS a a := .inr rfl
theorem Le.bind {α β : Type} {a b : Res α} {f g : α → MH → Res β} (h : Le a b) (k : ∀ x h, Le (f x h) (g x h)) : Le (a.bind f) (b.bind g) := by
  rcases h with rfl | rfl
  · exact .inl rfl
  · cases a with
    | ok x h => exact k x h
    | ex x h => exact .inr rfl
    | bad => exact .inl rfl
theorem LeS.of {α : Type} {a b : Res α} {f g : α → MH → RS} {env : Env} (h : Le a b) (k : ∀ x h, LeS (f x h) (g x h)) : LeS (.of a env f) (.of b env g) := by
  rcases h with rfl | rfl
  · exact .inl rfl
  · cases a with
    | ok x h => exact k x h
    | ex x h => exact .inr rfl
    | bad => exact .inl rfl
theorem LeS.seq {a b : RS} {f g : Env → MH → RS} (h : LeS a b) (k : ∀ x h, LeS (f x h) (g x h)) : LeS (a.seq f) (b.seq g) := by
  rcases h with rfl | rfl
  · exact .inl rfl
  · cases a with
    | nx x h => exact k x h
    | bad => exact .inl rfl
    | _ => exact .inr rfl
structure RecLe (r r' : Rec) : Prop where
  e : ∀ x env h, Le (r.e x env h) (r'.e x env h)
  t : ∀ x env h, Le (r.t x env h) (r'.t x env h)
  s : ∀ x env h, LeS (r.s x env h) (r'.s x env h)
def FLe (f f' : Nat → List D → MH → Res D) : Prop := ∀ i ds h, Le (f i ds h) (f' i ds h)
section
variable {P : Prog} {f f' : Nat → List D → MH → Res D} {r r' : Rec} (R : RecLe r r') (F : FLe f f')
include R
theorem evL_le : ∀ (es : List Ex) (env : Env) (h : MH), Le (evL r es env h) (evL r' es env h)
  | [], _, _ => .refl _
  | e :: es, env, h => (R.e e env h).bind fun d h => (evL_le es env h).bind fun ds h => .refl _
theorem evS_le : ∀ (fs : List Bool) (es : List Ex) (env : Env) (h : MH), Le (evS r fs es env h) (evS r' fs es env h)
  | [], [], _, _ => .refl _
  | true :: fs, e :: es, env, h => (R.e e env h).bind fun d h => by
    show Le (match items h d with
      | some ds => (evS r fs es env h).bind fun xs h => .ok (ds ++ xs) h
      | none => .bad) (match items h d with
      | some ds => (evS r' fs es env h).bind fun xs h => .ok (ds ++ xs) h
      | none => .bad)
    split
    · exact (evS_le fs es env h).bind fun _ _ => .refl _
    · exact .refl _
  | false :: fs, e :: es, env, h => (R.e e env h).bind fun d h => (evS_le fs es env h).bind fun ds h => .refl _
  | [], _ :: _, _, _ => .refl _
  | true :: _, [], _, _ => .refl _
  | false :: _, [], _, _ => .refl _
theorem evP_le : ∀ (ks vs : List Ex) (env : Env) (h : MH), Le (evP r ks vs env h) (evP r' ks vs env h)
  | [], [], _, _ => .refl _
  | k :: ks, v :: vs, env, h => (R.e k env h).bind fun d h => (R.e v env h).bind fun d h => (evP_le ks vs env h).bind fun ds h => .refl _
  | [], _ :: _, _, _ => .refl _
  | _ :: _, [], _, _ => .refl _
theorem evO_le (o : Option Ex) (env : Env) (h : MH) : Le (evO r o env h) (evO r' o env h) := by
  cases o with
  | none => exact .refl _
  | some e => exact (R.e e env h).bind fun d h => .refl _
theorem andV_le (k : Bool) (env : Env) : ∀ (es : List Ex) (h : MH), Le (andV r k env es h) (andV r' k env es h)
  | [], _ => .refl _
  | [e], h => R.e e env h
  | e :: e2 :: es, h => (R.e e env h).bind fun d h => by
    show Le (match truth h d with
      | some b => if b = k then andV r k env (e2 :: es) h else .ok d h
      | none => .bad) (match truth h d with
      | some b => if b = k then andV r' k env (e2 :: es) h else .ok d h
      | none => .bad)
    split
    · split
      · exact andV_le k env (e2 :: es) h
      · exact .refl _
    · exact .refl _
theorem go_le (k : Bool) (env : Env) : ∀ (es : List Ex) (h : MH), Le (evT.go r.t env k es h) (evT.go r'.t env k es h)
  | [], _ => .refl _
  | [e], h => R.t e env h
  | e :: e2 :: es, h => (R.t e env h).bind fun b h => by
    show Le (if b = k then evT.go r.t env k (e2 :: es) h else .ok b h) (if b = k then evT.go r'.t env k (e2 :: es) h else .ok b h)
    split
    · exact go_le k env (e2 :: es) h
    · exact .refl _
theorem wkD_le (x : Ex) (env : Env) (h : MH) : Le (wkD r x env h) (wkD r' x env h) := by
  unfold wkD
  split
  · exact (R.e _ env h).bind fun d h => .refl _
  · exact (evL_le R _ env h).bind fun d h => .refl _
  · exact (evL_le R _ env h).bind fun d h => .refl _
  · exact (R.e _ env h).bind fun d h => .refl _
  · exact (evL_le R _ env h).bind fun d h => .refl _
  · exact (R.e _ env h).bind fun d h => .refl _
  · exact (R.e _ env h).bind fun d h => .refl _
  · exact .refl _
theorem asgD_le (x : Ex) (d : D) (env : Env) (h : MH) : LeS (asgD r x d env h) (asgD r' x d env h) := by
  unfold asgD
  split
  · exact .refl _
  · exact .refl _
  · exact .of (R.e _ env h) fun x h => .of (R.e _ env h) fun k h => .refl _
  · exact .refl _
theorem lcT_le (ts : List Ex) (env : Env) (h : MH) : Le (lcT r ts env h) (lcT r' ts env h) := by
  unfold lcT
  split
  · exact .refl _
  · exact R.t _ env h
  · exact .refl _
theorem lcD_le (elt tg : Ex) (ifs : List Ex) (a : Nat) (w : Wk) (env : Env) : ∀ (n k : Nat) (h : MH), Le (lcD r elt tg ifs a w env n k h) (lcD r' elt tg ifs a w env n k h) := by
  intro n
  induction n with
  | zero => intro k h; exact .refl _
  | succ n ih =>
    intro k h
    unfold lcD
    split
    · exact .refl _
    · rename_i d hd
      rcases asgD_le R tg d env h with e | e
      · rw [e]; exact .inl rfl
      · rw [← e]
        split
        · refine (lcT_le R ifs _ _).bind fun b h => ?_
          split
          · refine (R.e elt _ h).bind fun x h => ?_
            split
            · split
              · exact ih _ _
              · exact .refl _
            · exact .refl _
          · exact ih _ _
        · exact .refl _
    · exact .refl _
theorem noEx_le {α : Type} {a b : Res α} (h : Le a b) : Le (noEx a) (noEx b) := by
  rcases h with rfl | rfl
  · exact .inl rfl
  · exact .refl _
theorem forD_le (tg : Ex) (body : List St) (w : Wk) : ∀ (n k : Nat) (env : Env) (h : MH), LeS (forD r tg body w n k env h) (forD r' tg body w n k env h) := by
  intro n
  induction n with
  | zero => intro k env h; exact .refl _
  | succ n ih =>
    intro k env h
    unfold forD
    split
    · exact .refl _
    · rename_i d hd
      rcases asgD_le R tg d env h with e | e
      · rw [e]; exact .inl rfl
      · rw [← e]
        split
        · rename_i env2 h2 _
          rcases R.s body env2 h2 with e2 | e2
          · rw [e2]; exact .inl rfl
          · rw [← e2]
            split
            · exact ih _ _ _
            · exact ih _ _ _
            · exact .refl _
            · exact .refl _
        · exact .refl _
    · exact .refl _
theorem evT_le (x : Ex) (env : Env) (h : MH) : Le (evT r r.t x env h) (evT r' r'.t x env h) := by
  unfold evT
  split
  · exact go_le R _ env _ h
  · exact go_le R _ env _ h
  · exact (R.t _ env h).bind fun _ _ => .refl _
  · exact .refl _
  · exact (R.e _ env h).bind fun _ h => (R.e _ env h).bind fun _ h => .refl _
  · refine (R.e _ env h).bind fun x h => (R.e _ env h).bind fun y h => ?_
    split
    · exact (R.e _ env h).bind fun _ h => .refl _
    · exact .refl _
    · exact .refl _
  · exact (R.e _ env h).bind fun _ _ => .refl _
include F
theorem stepE_le (x : Ex) (env : Env) (h : MH) : Le (stepE P r f x env h) (stepE P r' f' x env h) := by
  unfold stepE
  split
  any_goals exact .refl _
  · exact (R.e _ env h).bind fun _ h => (R.e _ env h).bind fun _ h => .refl _
  · exact (R.e _ env h).bind fun _ h => .refl _
  · exact (R.e _ env h).bind fun _ h => .refl _
  · exact andV_le R _ env _ h
  · exact andV_le R _ env _ h
  · exact (R.e _ env h).bind fun _ h => (R.e _ env h).bind fun _ h => .refl _
  · refine (R.e _ env h).bind fun x h => (R.e _ env h).bind fun y h => ?_
    split
    · exact (R.e _ env h).bind fun _ h => .refl _
    · exact .refl _
    · exact .refl _
  · refine (R.t _ env h).bind fun c h => ?_
    split
    · exact R.e _ env h
    · exact R.e _ env h
  · exact (evS_le R _ _ env h).bind fun _ _ => .refl _
  · exact (evS_le R _ _ env h).bind fun _ _ => .refl _
  · exact (R.e _ env h).bind fun _ h => (R.e _ env h).bind fun _ h => .refl _
  · split
    · exact .refl _
    · exact (evP_le R _ _ env _).bind fun _ _ => .refl _
  · exact (R.e _ env h).bind fun _ h => (evO_le R _ env h).bind fun _ h => (evO_le R _ env h).bind fun _ h => .refl _
  · exact (R.e _ env h).bind fun _ h => (evO_le R _ env h).bind fun _ h => (evO_le R _ env h).bind fun _ h => (R.e _ env h).bind fun _ h => .refl _
  · exact (evL_le R _ env h).bind fun ds h => F _ ds h
  · exact (evL_le R _ env h).bind fun ds h => .refl _
  · exact (R.e _ env h).bind fun _ h => .refl _
  · refine (R.e _ env h).bind fun x h => ?_
    split
    · exact (evL_le R _ env h).bind fun _ _ => .refl _
    · exact .refl _
  · exact (wkD_le R _ env h).bind fun w h => noEx_le R (lcD_le R _ _ _ _ _ _ _ _ _)
omit F in
theorem stepS1_le (x : St) (env : Env) (h : MH) : LeS (stepS1 r x env h) (stepS1 r' x env h) := by
  unfold stepS1
  split
  any_goals exact .refl _
  · exact .of (R.e _ env h) fun _ _ => .refl _
  · exact .of (R.e _ env h) fun d h => asgD_le R _ d env h
  · exact .of (evL_le R _ env h) fun _ _ => .refl _
  · split
    · exact .of (R.e _ env h) fun _ h => .refl _
    · exact .refl _
  · refine .of (R.t _ env h) fun c h => ?_
    split
    · exact R.s _ env h
    · exact R.s _ env h
  · refine .of (R.t _ env h) fun c h => ?_
    split
    · rename_i t a _
      rcases R.s a env h with e | e
      · rw [e]; exact .inl rfl
      · rw [← e]
        split
        · exact R.s _ _ _
        · exact R.s _ _ _
        · exact .refl _
        · exact .refl _
    · exact .refl _
  · exact .of (wkD_le R _ env h) fun w h => forD_le R _ _ _ _ _ _ _
  · exact .of (R.e _ env h) fun _ _ => .refl _
omit F in
theorem stepS_le : ∀ (x : List St) (env : Env) (h : MH), LeS (stepS r x env h) (stepS r' x env h)
  | [], _, _ => .refl _
  | s :: ss, env, h => (stepS1_le R s env h).seq fun env h => stepS_le ss env h
theorem step_le : RecLe (step P f r) (step P f' r') := ⟨stepE_le R F, evT_le R, stepS_le R⟩
end
theorem bot_le {r : Rec} : RecLe Rec.bot r := ⟨fun _ _ _ => .inl rfl, fun _ _ _ => .inl rfl, fun _ _ _ => .inl rfl⟩
theorem inner_le {P : Prog} {f f' : Nat → List D → MH → Res D} (F : FLe f f') : ∀ {n n' : Nat}, n ≤ n' → RecLe (inner P f n) (inner P f' n')
  | 0, _, _ => bot_le
  | n + 1, 0, h => absurd h (Nat.not_succ_le_zero n)
  | n + 1, n' + 1, h => step_le (inner_le F (Nat.le_of_succ_le_succ h)) F
theorem run_le {r r' : Rec} (R : RecLe r r') (fn : Fn) (ds : List D) (h : MH) : Le (runD r fn ds h) (runD r' fn ds h) := by
  unfold runD
  rcases R.s fn.body (startD fn ds) h with e | e
  · rw [e]; exact .inl rfl
  · rw [e]; exact .refl _
theorem call_le {P : Prog} {r r' : Rec} (R : RecLe r r') : FLe (callD P r) (callD P r') := by
  intro i ds h
  unfold callD
  split
  · exact .refl _
  · split
    · split
      · split
        · rename_i fn _ _ _ _
          rcases run_le R fn ds MH.nil with e | e
          · rw [e]; exact .inl rfl
          · rw [e]; exact .refl _
        · exact .refl _
      · exact run_le R _ ds h
    · exact .refl _
theorem evk_le {P : Prog} {N N' : Nat} (hN : N ≤ N') : ∀ {k k' : Nat}, k ≤ k' → FLe (evk P N k) (evk P N' k')
  | 0, _, _ => fun _ _ _ => .inl rfl
  | k + 1, 0, h => absurd h (Nat.not_succ_le_zero k)
  | k + 1, k' + 1, h => call_le (inner_le (evk_le hN (Nat.le_of_succ_le_succ h)) hN)
end MP
namespace MP
open PySem
structure Kt where
  nx : Env → MH → Prop
  rt : D → MH → Prop
  bk : Env → MH → Prop := fun _ _ => False
  ct : Env → MH → Prop := fun _ _ => False
def Kt.at (K : Kt) : RS → Prop
  | .nx e h => K.nx e h
  | .rt d h => K.rt d h
  | .bk e h => K.bk e h
  | .ct e h => K.ct e h
  | _ => False
def RO {α : Type} (r : Res α) (Q : α → MH → Prop) : Prop := ∃ a h, r = .ok a h ∧ Q a h
def Big (P : Prog) (k N : Nat) (f : FT) (r : Rec) : Prop := FLe (evk P N k) f ∧ RecLe (inner P (evk P N k) N) r
def WR (P : Prog) (k : Nat) {α : Type} (F : FT → Rec → Res α) (Q : α → MH → Prop) : Prop := ∃ N a h, (∀ f r, Big P k N f r → F f r = .ok a h) ∧ Q a h
def WX' (P : Prog) (k : Nat) (F : FT → Rec → RS) (K : Kt) : Prop := ∃ N x, (∀ f r, Big P k N f r → F f r = x) ∧ K.at x
abbrev WE (P : Prog) (k : Nat) (e : Ex) (env : Env) (h : MH) (Q : D → MH → Prop) : Prop := WR P k (fun _ r => r.e e env h) Q
abbrev WT (P : Prog) (k : Nat) (e : Ex) (env : Env) (h : MH) (Q : Bool → MH → Prop) : Prop := WR P k (fun _ r => r.t e env h) Q
abbrev WL (P : Prog) (k : Nat) (es : List Ex) (env : Env) (h : MH) (Q : List D → MH → Prop) : Prop := WR P k (fun _ r => evL r es env h) Q
abbrev WW (P : Prog) (k : Nat) (e : Ex) (env : Env) (h : MH) (Q : Wk → MH → Prop) : Prop := WR P k (fun _ r => wkD r e env h) Q
abbrev WO (P : Prog) (k : Nat) (e : Option Ex) (env : Env) (h : MH) (Q : Option Int → MH → Prop) : Prop := WR P k (fun _ r => evO r e env h) Q
abbrev WD (P : Prog) (k : Nat) (fs : List Bool) (es : List Ex) (env : Env) (h : MH) (Q : List D → MH → Prop) : Prop := WR P k (fun _ r => evS r fs es env h) Q
abbrev WS (P : Prog) (k : Nat) (ss : List St) (env : Env) (h : MH) (K : Kt) : Prop := WX' P k (fun _ r => r.s ss env h) K
abbrev WSt (P : Prog) (k : Nat) (ss : List St) (env : Env) (h : MH) (K : Kt) : Prop := WX' P k (fun _ r => stepS r ss env h) K
abbrev WS1 (P : Prog) (k : Nat) (s : St) (env : Env) (h : MH) (K : Kt) : Prop := WX' P k (fun _ r => stepS1 r s env h) K
def WC (P : Prog) (k i : Nat) (ds : List D) (h : MH) (Q : D → MH → Prop) : Prop := ∃ N d h', evk P N k i ds h = .ok d h' ∧ Q d h'
section
variable {P : Prog} {k : Nat} {α β : Type} {env : Env} {h : MH}
theorem RO.mk {r : Res α} {Q : α → MH → Prop} {a : α} {h' : MH} (e : r = .ok a h') (q : Q a h') : RO r Q := ⟨a, h', e, q⟩
theorem Big.le {N N' : Nat} {f : FT} {r : Rec} (hN : N ≤ N') (b : Big P k N' f r) : Big P k N f r := by
  refine ⟨fun i ds h => ?_, ?_⟩
  · rcases evk_le (P := P) hN (Nat.le_refl k) i ds h with e | e
    · exact .inl e
    · rw [e]; exact b.1 i ds h
  · have x := inner_le (P := P) (evk_le (P := P) hN (Nat.le_refl k)) hN
    refine ⟨fun e env h => ?_, fun e env h => ?_, fun e env h => ?_⟩
    · rcases x.e e env h with q | q
      · exact .inl q
      · rw [q]; exact b.2.e e env h
    · rcases x.t e env h with q | q
      · exact .inl q
      · rw [q]; exact b.2.t e env h
    · rcases x.s e env h with q | q
      · exact .inl q
      · rw [q]; exact b.2.s e env h
theorem Big.self {N : Nat} : Big P k N (evk P N k) (inner P (evk P N k) N) := ⟨fun _ _ _ => .inr rfl, fun _ _ _ => .inr rfl, fun _ _ _ => .inr rfl, fun _ _ _ => .inr rfl⟩
theorem big_in {N : Nat} : Big P k N (evk P (N + 1) k) (inner P (evk P (N + 1) k) N) := ⟨evk_le (Nat.le_succ N) (Nat.le_refl k), inner_le (evk_le (Nat.le_succ N) (Nat.le_refl k)) (Nat.le_refl N)⟩
theorem Le.ok {a b : Res α} {x : α} {h' : MH} (l : Le a b) (e : a = .ok x h') : b = .ok x h' := by
  rcases l with q | q
  · rw [q] at e; cases e
  · rw [← q]; exact e
theorem WR.const {r : Res α} {Q : α → MH → Prop} (h : RO r Q) : WR P k (fun _ _ => r) Q := by
  obtain ⟨a, h', e, q⟩ := h
  exact ⟨0, a, h', fun _ _ _ => e, q⟩
theorem WR.ok {a : α} {Q : α → MH → Prop} (q : Q a h) : WR P k (fun _ _ => .ok a h) Q := ⟨0, a, h, fun _ _ _ => rfl, q⟩
theorem WR.bind {F : FT → Rec → Res α} {G : FT → Rec → α → MH → Res β} {Q : β → MH → Prop} (w : WR P k F fun a h => WR P k (fun f r => G f r a h) Q) : WR P k (fun f r => (F f r).bind (G f r)) Q := by
  obtain ⟨N1, a, h1, e1, N2, b, h2, e2, q⟩ := w
  refine ⟨max N1 N2, b, h2, fun f r B => ?_, q⟩
  show (F f r).bind (G f r) = _
  rw [e1 f r (B.le (Nat.le_max_left ..))]
  exact e2 f r (B.le (Nat.le_max_right ..))
theorem WR.imp {F : FT → Rec → Res α} {Q Q' : α → MH → Prop} (w : WR P k F Q) (i : ∀ a h, Q a h → Q' a h) : WR P k F Q' := by
  obtain ⟨N, a, h', e, q⟩ := w
  exact ⟨N, a, h', e, i _ _ q⟩
theorem WR.stepE {e : Ex} {Q : D → MH → Prop} (w : WR P k (fun f r => stepE P r f e env h) Q) : WE P k e env h Q := by
  obtain ⟨N, a, h', e1, q⟩ := w
  refine ⟨N + 1, a, h', fun f r B => ?_, q⟩
  exact Le.ok (B.2.e e env h) (e1 _ _ big_in)
theorem WR.stepT {e : Ex} {Q : Bool → MH → Prop} (w : WR P k (fun _ r => evT r r.t e env h) Q) : WT P k e env h Q := by
  obtain ⟨N, a, h', e1, q⟩ := w
  refine ⟨N + 1, a, h', fun f r B => ?_, q⟩
  exact Le.ok (B.2.t e env h) (e1 (evk P (N + 1) k) _ big_in)
theorem Kt.ne {K : Kt} {x : RS} (q : K.at x) : x ≠ .bad := by rintro rfl; exact q
theorem WX'.stepS {ss : List St} {K : Kt} (w : WSt P k ss env h K) : WS P k ss env h K := by
  obtain ⟨N, x, e1, q⟩ := w
  refine ⟨N + 1, x, fun f r B => ?_, q⟩
  have e := e1 (evk P (N + 1) k) _ big_in
  rcases B.2.s ss env h with z | z
  · exact absurd (e.symm.trans z) (Kt.ne q)
  · exact z.symm.trans e
theorem WX'.imp {F : FT → Rec → RS} {K K' : Kt} (w : WX' P k F K) (i : ∀ x, K.at x → K'.at x) : WX' P k F K' := by
  obtain ⟨N, x, e, q⟩ := w
  exact ⟨N, x, e, i _ q⟩
theorem WX'.const {x : RS} {K : Kt} (q : K.at x) : WX' P k (fun _ _ => x) K := ⟨0, x, fun _ _ _ => rfl, q⟩
theorem WX'.of {F : FT → Rec → Res α} {G : FT → Rec → α → MH → RS} {K : Kt} {en : Env} (w : WR P k F fun a h => WX' P k (fun f r => G f r a h) K) : WX' P k (fun f r => RS.of (F f r) en (G f r)) K := by
  obtain ⟨N1, a, h1, e1, N2, b, e2, q⟩ := w
  refine ⟨max N1 N2, b, fun f r B => ?_, q⟩
  show RS.of (F f r) en (G f r) = _
  rw [e1 f r (B.le (Nat.le_max_left ..))]
  exact e2 f r (B.le (Nat.le_max_right ..))
theorem WX'.seq {F : FT → Rec → RS} {G : FT → Rec → Env → MH → RS} {K : Kt} (w : WX' P k F { K with nx := fun e h => WX' P k (fun f r => G f r e h) K }) : WX' P k (fun f r => (F f r).seq (G f r)) K := by
  obtain ⟨N1, x, e1, q⟩ := w
  cases x with
  | nx e h1 =>
    obtain ⟨N2, y, e2, q2⟩ := q
    refine ⟨max N1 N2, y, fun f r B => ?_, q2⟩
    show (F f r).seq (G f r) = _
    rw [e1 f r (B.le (Nat.le_max_left ..))]
    exact e2 f r (B.le (Nat.le_max_right ..))
  | rt d h1 => exact ⟨N1, .rt d h1, fun f r B => (congrArg (fun x => x.seq (G f r)) (e1 f r B)), q⟩
  | bk d h1 => exact ⟨N1, .bk d h1, fun f r B => (congrArg (fun x => x.seq (G f r)) (e1 f r B)), q⟩
  | ct d h1 => exact ⟨N1, .ct d h1, fun f r B => (congrArg (fun x => x.seq (G f r)) (e1 f r B)), q⟩
  | ex x e h1 => exact q.elim
  | bad => exact q.elim
def optR {α β : Type} (o : Option α) (f : α → Res β) : Res β := match o with
  | some a => f a
  | none => .bad
theorem WR.opt {o : Option α} {a : α} {f : α → Res β} {Q : β → MH → Prop} (e : o = some a) (w : WR P k (fun _ _ => f a) Q) : WR P k (fun _ _ => optR o f) Q := by subst e; exact w
/-- a loop's body -/
abbrev Kt.loop (K : Kt) (n : Env → MH → Prop) : Kt := { nx := n, ct := n, bk := K.nx, rt := K.rt }
def loopRS (x : RS) (F : Env → MH → RS) : RS := match x with
  | .nx env h => F env h
  | .ct env h => F env h
  | .bk env h => .nx env h
  | x => x
theorem WX'.loop {F : FT → Rec → RS} {G : FT → Rec → Env → MH → RS} {K : Kt} (w : WX' P k F (K.loop fun e h => WX' P k (fun f r => G f r e h) K)) : WX' P k (fun f r => loopRS (F f r) (G f r)) K := by
  obtain ⟨N1, x, e1, q⟩ := w
  cases x with
  | nx e h1 =>
    obtain ⟨N2, y, e2, q2⟩ := q
    refine ⟨max N1 N2, y, fun f r B => ?_, q2⟩
    show loopRS (F f r) (G f r) = _
    rw [e1 f r (B.le (Nat.le_max_left ..))]
    exact e2 f r (B.le (Nat.le_max_right ..))
  | ct e h1 =>
    obtain ⟨N2, y, e2, q2⟩ := q
    refine ⟨max N1 N2, y, fun f r B => ?_, q2⟩
    show loopRS (F f r) (G f r) = _
    rw [e1 f r (B.le (Nat.le_max_left ..))]
    exact e2 f r (B.le (Nat.le_max_right ..))
  | rt d h1 => exact ⟨N1, .rt d h1, fun f r B => (congrArg (fun x => loopRS x (G f r)) (e1 f r B)), q⟩
  | bk d h1 => exact ⟨N1, .nx d h1, fun f r B => (congrArg (fun x => loopRS x (G f r)) (e1 f r B)), q⟩
  | ex x e h1 => exact q.elim
  | bad => exact q.elim
section
variable {Q : D → MH → Prop}
theorem we_var {i : Nat} {d : D} (e : env[i]? = some (some d)) (q : Q d h) : WE P k (.var i) env h Q := by
  refine .stepE ?_
  show WR P k (fun _ _ => match env[i]? with
    | some (some d) => Res.ok d h
    | _ => .bad) Q
  rw [e]
  exact .ok q
theorem we_non (q : Q .non h) : WE P k .non env h Q := .stepE (.ok q)
theorem we_bl {b : Bool} (q : Q (.bl b) h) : WE P k (.bl b) env h Q := .stepE (.ok q)
theorem we_int {i : Int} (q : Q (.int i) h) : WE P k (.int i) env h Q := .stepE (.ok q)
theorem we_str {s : PySem.Str} (q : Q (.str s) h) : WE P k (.str s) env h Q := .stepE (.ok q)
theorem we_glo {g : Nat} {d : D} (e : P.cons[g]? = some d) (q : Q d h) : WE P k (.glo g) env h Q := by
  refine .stepE ?_
  show WR P k (fun _ _ => match P.cons[g]? with
    | some d => Res.ok d h
    | none => .bad) Q
  rw [e]
  exact .ok q
theorem we_bin {o : Bop} {a b : Ex} (w : WE P k a env h fun x h => WE P k b env h fun y h => RO (binD o x y h) Q) : WE P k (.bin o a b) env h Q := .stepE (.bind (w.imp fun _ _ w => .bind (w.imp fun _ _ w => .const w)))
theorem we_neg {a : Ex} (w : WE P k a env h fun x h => ∃ i, x = .int i ∧ Q (.int (-i)) h) : WE P k (.neg a) env h Q := .stepE (.bind (w.imp fun _ _ ⟨i, e, q⟩ => by subst e; exact .ok q))
theorem we_not {a : Ex} (w : WE P k a env h fun x h => ∃ b, truth h x = some b ∧ Q (.bl (!b)) h) : WE P k (.not a) env h Q := by
  refine .stepE (.bind (w.imp fun x h ⟨b, e, q⟩ => ?_))
  show WR P k (fun _ _ => match truth h x with
    | some b => Res.ok (D.bl (!b)) h
    | none => .bad) Q
  rw [e]
  exact .ok q
/-- and, or: the list -/
def WA (P : Prog) (k : Nat) (c : Bool) (es : List Ex) (env : Env) (h : MH) (Q : D → MH → Prop) : Prop := WR P k (fun _ r => andV r c env es h) Q
theorem we_and {es : List Ex} (w : WA P k true es env h Q) : WE P k (.and es) env h Q := .stepE w
theorem we_or {es : List Ex} (w : WA P k false es env h Q) : WE P k (.or es) env h Q := .stepE w
theorem wa_one {c : Bool} {e : Ex} (w : WE P k e env h Q) : WA P k c [e] env h Q := w
theorem wa_cons {c : Bool} {e e2 : Ex} {es : List Ex} (w : WE P k e env h fun d h => ∃ b, truth h d = some b ∧ if b = c then WA P k c (e2 :: es) env h Q else Q d h) : WA P k c (e :: e2 :: es) env h Q := by
  refine WR.bind (G := fun _ r d h => match truth h d with
    | some b => if b = c then andV r c env (e2 :: es) h else .ok d h
    | none => .bad) (w.imp fun d h ⟨b, e, q⟩ => ?_)
  show WR P k (fun _ r => match truth h d with
    | some b => if b = c then andV r c env (e2 :: es) h else .ok d h
    | none => .bad) Q
  rw [e]
  show WR P k (fun _ r => if b = c then andV r c env (e2 :: es) h else .ok d h) Q
  split at q
  · rename_i hb
    simp only [hb, if_true]
    exact q
  · rename_i hb
    simp only [hb, if_false]
    exact .ok q
theorem we_cmp {o : Cop} {a b : Ex} (w : WE P k a env h fun x h => WE P k b env h fun y h => ∃ c, cmpD o x y h = some c ∧ Q (.bl c) h) : WE P k (.cmp o a b) env h Q := by
  refine .stepE (.bind (w.imp fun x h w => .bind (w.imp fun y h ⟨c, e, q⟩ => ?_)))
  show WR P k (fun _ _ => match cmpD o x y h with
    | some b => Res.ok (D.bl b) h
    | none => .bad) Q
  rw [e]
  exact .ok q
theorem we_chain {o p : Cop} {a b c : Ex} (w : WE P k a env h fun x h => WE P k b env h fun y h => ∃ t, cmpD o x y h = some t ∧ if t = true then WE P k c env h fun z h => ∃ u, cmpD p y z h = some u ∧ Q (.bl u) h else Q (.bl false) h) : WE P k (.chain o p a b c) env h Q := by
  refine .stepE (.bind (w.imp fun x h w => .bind (w.imp fun y h ⟨t, e, q⟩ => ?_)))
  show WR P k (fun _ r => match cmpD o x y h with
    | some true => (r.e c env h).bind fun z h => (match cmpD p y z h with
      | some b => .ok (.bl b) h
      | none => .bad)
    | some false => .ok (.bl false) h
    | none => .bad) Q
  rw [e]
  cases t with
  | true =>
    refine WR.bind (F := fun _ r => r.e c env h) (G := fun _ _ z h => (match cmpD p y z h with
      | some b => .ok (.bl b) h
      | none => .bad : Res D)) (WR.imp q fun z h ⟨u, e, q⟩ => ?_)
    show WR P k (fun _ _ => match cmpD p y z h with
      | some b => Res.ok (D.bl b) h
      | none => .bad) Q
    rw [e]
    exact .ok q
  | false => exact .ok q
theorem we_ife {t a b : Ex} (w : WT P k t env h fun c h => if c = true then WE P k a env h Q else WE P k b env h Q) : WE P k (.ife t a b) env h Q := by
  refine .stepE (.bind (w.imp fun c h q => ?_))
  cases c with
  | true => exact q
  | false => exact q
theorem we_tup {fs : List Bool} {es : List Ex} (w : WD P k fs es env h fun ds h => RO (newT h ds) Q) : WE P k (.tup fs es) env h Q := .stepE (.bind (w.imp fun _ _ w => .const w))
theorem we_lst {fs : List Bool} {es : List Ex} (w : WD P k fs es env h fun ds h => RO (newL h ds) Q) : WE P k (.lst fs es) env h Q := .stepE (.bind (w.imp fun _ _ w => .const w))
theorem we_ix {a i : Ex} (w : WE P k a env h fun x h => WE P k i env h fun y h => ∃ d, ixD h x y = some d ∧ Q d h) : WE P k (.ix a i) env h Q := by
  refine .stepE (.bind (w.imp fun x h w => .bind (w.imp fun y h ⟨c, e, q⟩ => ?_)))
  show WR P k (fun _ _ => match ixD h x y with
    | some d => Res.ok d h
    | none => .bad) Q
  rw [e]
  exact .ok q
theorem we_sl {a : Ex} {lo hi : Option Ex} (w : WE P k a env h fun x h => WO P k lo env h fun l h => WO P k hi env h fun u h => RO (slD h x l u) Q) : WE P k (.sl a lo hi) env h Q :=
  .stepE (.bind (w.imp fun _ _ w => .bind (w.imp fun _ _ w => .bind (w.imp fun _ _ w => .const w))))
theorem we_slr {a st : Ex} {lo hi : Option Ex} (w : WE P k a env h fun x h => WO P k lo env h fun l h => WO P k hi env h fun u h => WE P k st env h fun c h => ∃ i, c = .int i ∧ RO (slrD h x l u i) Q) : WE P k (.slr a lo hi st) env h Q :=
  .stepE (.bind (w.imp fun _ _ w => .bind (w.imp fun _ _ w => .bind (w.imp fun _ _ w => .bind (w.imp fun _ _ ⟨i, e, w⟩ => by subst e; exact .const w)))))
theorem we_call {g : Nat} {es : List Ex} (w : WL P k es env h fun ds h => WC P k g ds h Q) : WE P k (.call g es) env h Q := by
  refine .stepE (WR.bind (G := fun f _ ds h => f g ds h) (w.imp fun ds h w => ?_))
  obtain ⟨N, d, h', e, q⟩ := w
  exact ⟨N, d, h', fun f r B => Le.ok (B.1 g ds h) e, q⟩
theorem we_bi {b : Bi} {es : List Ex} (w : WL P k es env h fun ds h => RO (biD b ds h) Q) : WE P k (.bi b es) env h Q := .stepE (.bind (w.imp fun _ _ w => .const w))
theorem we_isi {t : Ty} {a : Ex} (w : WE P k a env h fun x h => ∃ b, isiD t x h = some b ∧ Q (.bl b) h) : WE P k (.isi t a) env h Q := by
  refine .stepE (.bind (w.imp fun x h ⟨c, e, q⟩ => ?_))
  show WR P k (fun _ _ => match isiD t x h with
    | some b => Res.ok (D.bl b) h
    | none => .bad) Q
  rw [e]
  exact .ok q
theorem we_me {m : Me} {o : Ex} {es : List Ex} (w : WE P k o env h fun x h => isLst h x = true ∧ WL P k es env h fun ds h => RO (meD m x ds h) Q) : WE P k (.me m o es) env h Q := by
  refine .stepE (.bind (w.imp fun x h ⟨e, w⟩ => ?_))
  show WR P k (fun _ r => if isLst h x then (evL r es env h).bind fun ds h => meD m x ds h else .bad) Q
  simp only [e, if_true]
  exact WR.bind (F := fun _ r => evL r es env h) (G := fun _ _ ds h => meD m x ds h) (w.imp fun _ _ w => .const w)
end
section
variable {Q : List D → MH → Prop}
theorem wl_nil (q : Q [] h) : WL P k [] env h Q := .ok q
theorem wl_cons {e : Ex} {es : List Ex} (w : WE P k e env h fun d h => WL P k es env h fun ds h => Q (d :: ds) h) : WL P k (e :: es) env h Q := WR.bind (G := fun _ r d h => (evL r es env h).bind fun xs h => .ok (d :: xs) h) (w.imp fun _ _ w => .bind (w.imp fun _ _ q => .ok q))
theorem wd_nil (q : Q [] h) : WD P k [] [] env h Q := .ok q
theorem wd_cons {e : Ex} {fs : List Bool} {es : List Ex} (w : WE P k e env h fun d h => WD P k fs es env h fun ds h => Q (d :: ds) h) : WD P k (false :: fs) (e :: es) env h Q := WR.bind (G := fun _ r d h => (evS r fs es env h).bind fun xs h => .ok (d :: xs) h) (w.imp fun _ _ w => .bind (w.imp fun _ _ q => .ok q))
theorem wd_star {e : Ex} {fs : List Bool} {es : List Ex} (w : WE P k e env h fun d h => ∃ xs, items h d = some xs ∧ WD P k fs es env h fun ds h => Q (xs ++ ds) h) : WD P k (true :: fs) (e :: es) env h Q := by
  refine WR.bind (G := fun _ r d h => match items h d with
    | some ds => (evS r fs es env h).bind fun xs h => .ok (ds ++ xs) h
    | none => .bad) (w.imp fun d h ⟨xs, e, w⟩ => ?_)
  show WR P k (fun _ r => match items h d with
    | some ds => (evS r fs es env h).bind fun xs h => .ok (ds ++ xs) h
    | none => .bad) Q
  rw [e]
  exact WR.bind (F := fun _ r => evS r fs es env h) (G := fun _ _ ds h => .ok (xs ++ ds) h) (w.imp fun _ _ q => .ok q)
end
theorem wo_none {Q : Option Int → MH → Prop} (q : Q none h) : WO P k none env h Q := .ok q
theorem wo_some {Q : Option Int → MH → Prop} {e : Ex} (w : WE P k e env h fun d h => ∃ i, d = .int i ∧ Q (some i) h) : WO P k (some e) env h Q := WR.bind (G := fun _ _ d h => match d with
    | .int i => .ok (some i) h
    | _ => .bad) (w.imp fun _ _ ⟨i, e, q⟩ => by subst e; exact .ok q)
section
variable {Q : Bool → MH → Prop}
def WB (P : Prog) (k : Nat) (c : Bool) (es : List Ex) (env : Env) (h : MH) (Q : Bool → MH → Prop) : Prop := WR P k (fun _ r => evT.go r.t env c es h) Q
theorem wt_and {es : List Ex} (w : WB P k true es env h Q) : WT P k (.and es) env h Q := .stepT w
theorem wt_or {es : List Ex} (w : WB P k false es env h Q) : WT P k (.or es) env h Q := .stepT w
theorem wb_one {c : Bool} {e : Ex} (w : WT P k e env h Q) : WB P k c [e] env h Q := w
theorem wb_cons {c : Bool} {e e2 : Ex} {es : List Ex} (w : WT P k e env h fun b h => if b = c then WB P k c (e2 :: es) env h Q else Q b h) : WB P k c (e :: e2 :: es) env h Q := by
  refine WR.bind (G := fun _ r b h => if b = c then evT.go r.t env c (e2 :: es) h else .ok b h) (w.imp fun b h q => ?_)
  show WR P k (fun _ r => if b = c then evT.go r.t env c (e2 :: es) h else .ok b h) Q
  split at q
  · rename_i hb
    simp only [hb, if_true]
    exact q
  · rename_i hb
    simp only [hb, if_false]
    exact .ok q
theorem wt_not {a : Ex} (w : WT P k a env h fun b h => Q (!b) h) : WT P k (.not a) env h Q := .stepT (WR.bind (G := fun _ _ b h => .ok (!b) h) (w.imp fun _ _ q => .ok q))
theorem wt_cmp {o : Cop} {a b : Ex} (w : WE P k a env h fun x h => WE P k b env h fun y h => ∃ c, cmpD o x y h = some c ∧ Q c h) : WT P k (.cmp o a b) env h Q := by
  refine .stepT (.bind (w.imp fun x h w => .bind (w.imp fun y h ⟨c, e, q⟩ => ?_)))
  show WR P k (fun _ _ => match cmpD o x y h with
    | some b => Res.ok b h
    | none => .bad) Q
  rw [e]
  exact .ok q
theorem wt_chain {o p : Cop} {a b c : Ex} (w : WE P k a env h fun x h => WE P k b env h fun y h => ∃ t, cmpD o x y h = some t ∧ if t = true then WE P k c env h fun z h => ∃ u, cmpD p y z h = some u ∧ Q u h else Q false h) : WT P k (.chain o p a b c) env h Q := by
  refine .stepT (.bind (w.imp fun x h w => .bind (w.imp fun y h ⟨t, e, q⟩ => ?_)))
  show WR P k (fun _ r => match cmpD o x y h with
    | some true => (r.e c env h).bind fun z h => (match cmpD p y z h with
      | some b => .ok b h
      | none => .bad)
    | some false => .ok false h
    | none => .bad) Q
  rw [e]
  cases t with
  | true =>
    refine WR.bind (F := fun _ r => r.e c env h) (G := fun _ _ z h => (match cmpD p y z h with
      | some b => .ok b h
      | none => .bad : Res Bool)) (WR.imp q fun z h ⟨u, e, q⟩ => ?_)
    show WR P k (fun _ _ => match cmpD p y z h with
      | some b => Res.ok b h
      | none => .bad) Q
    rw [e]
    exact .ok q
  | false => exact .ok q
def isT : Ex → Bool
  | .and _ => false
  | .or _ => false
  | .not _ => false
  | .ife .. => false
  | .cmp .. => false
  | .chain .. => false
  | _ => true
theorem wt_val {e : Ex} (hx : isT e = true) (w : WE P k e env h fun d h => ∃ b, truth h d = some b ∧ Q b h) : WT P k e env h Q := by
  have : ∀ (r : Rec), evT r r.t e env h = (r.e e env h).bind fun d h => match truth h d with
    | some b => .ok b h
    | none => .bad := fun r => by cases e <;> first | rfl | cases hx
  refine .stepT ?_
  obtain ⟨N, d, h1, e1, b, e2, q⟩ := w
  refine ⟨N, b, h1, fun f r B => ?_, q⟩
  show evT r r.t e env h = _
  have e1' : r.e e env h = .ok d h1 := e1 f r B
  rw [this r, e1']
  show (match truth h1 d with
    | some b => Res.ok b h1
    | none => .bad) = _
  rw [e2]
end
section
variable {K : Kt}
theorem ws_go {ss : List St} (w : WSt P k ss env h K) : WS P k ss env h K := .stepS w
theorem ws_nil (q : K.nx env h) : WSt P k [] env h K := .const q
theorem ws_cons {s : St} {ss : List St} (w : WS1 P k s env h { K with nx := fun e h => WSt P k ss e h K }) : WSt P k (s :: ss) env h K := .seq (G := fun _ r e h => stepS r ss e h) w
theorem w1_expr {e : Ex} (w : WE P k e env h fun _ h => K.nx env h) : WS1 P k (.expr e) env h K := .of (G := fun _ _ _ h => .nx env h) (w.imp fun _ _ q => .const q)
theorem w1_var {i : Nat} {e : Ex} (w : WE P k e env h fun d h => K.nx (env.set i (some d)) h) : WS1 P k (.asg (.var i) e) env h K := .of (G := fun _ r d h => asgD r (.var i) d env h) (w.imp fun _ _ q => .const q)
/-- the names of a tuple target, stored -/
def goE : List Ex → List D → Env → Option Env
  | [], [], env => some env
  | .var i :: ts, d :: ds, env => goE ts ds (env.set i (some d))
  | _, _, _ => none
def tgE (t : Ex) (d : D) (env : Env) : Option Env := match t with
  | .var i => some (env.set i (some d))
  | .tup _ ts => match d with
    | .tup ds => goE ts ds env
    | _ => none
  | _ => none
theorem goE_ok {r : Rec} : ∀ {ts : List Ex} {ds : List D} {env e' : Env} {h : MH}, goE ts ds env = some e' → asgD.go ts ds env h = .nx e' h
  | [], [], env, e', h, e => by cases e; rfl
  | .var i :: ts, d :: ds, env, e', h, e => goE_ok (r := r) (ts := ts) (ds := ds) (env := env.set i (some d)) e
  | [], _ :: _, _, _, _, e => by cases e
  | .var _ :: _, [], _, _, _, e => by cases e
  | .non :: _, _, _, _, _, e | .bl _ :: _, _, _, _, _, e | .int _ :: _, _, _, _, _, e | .str _ :: _, _, _, _, _, e | .glo _ :: _, _, _, _, _, e | .bin .. :: _, _, _, _, _, e | .neg _ :: _, _, _, _, _, e | .not _ :: _, _, _, _, _, e | .and _ :: _, _, _, _, _, e
  | .or _ :: _, _, _, _, _, e | .cmp .. :: _, _, _, _, _, e | .chain .. :: _, _, _, _, _, e | .ife .. :: _, _, _, _, _, e | .tup .. :: _, _, _, _, _, e | .lst .. :: _, _, _, _, _, e | .ix .. :: _, _, _, _, _, e | .sl .. :: _, _, _, _, _, e | .slr .. :: _, _, _, _, _, e
  | .call .. :: _, _, _, _, _, e | .bi .. :: _, _, _, _, _, e | .isi .. :: _, _, _, _, _, e | .me .. :: _, _, _, _, _, e | .range _ :: _, _, _, _, _, e | .enum _ :: _, _, _, _, _, e | .zip .. :: _, _, _, _, _, e | .rev _ :: _, _, _, _, _, e | .itv _ :: _, _, _, _, _, e | .lc .. :: _, _, _, _, _, e => by simp [goE] at e
theorem tgE_ok {r : Rec} {t : Ex} {d : D} {env e' : Env} {h : MH} (e : tgE t d env = some e') : asgD r t d env h = .nx e' h := by
  cases t with
  | var i => cases e; rfl
  | tup fs ts =>
    cases d with
    | tup ds => exact goE_ok (r := r) e
    | _ => cases e
  | _ => cases e
theorem w1_tup {fs : List Bool} {ts : List Ex} {e : Ex} (w : WE P k e env h fun d h => ∃ e', tgE (.tup fs ts) d env = some e' ∧ K.nx e' h) : WS1 P k (.asg (.tup fs ts) e) env h K :=
  .of (G := fun _ r d h => asgD r (.tup fs ts) d env h) (w.imp fun d h ⟨e', e1, q⟩ => ⟨0, .nx e' h, fun f r _ => tgE_ok e1, q⟩)
theorem w1_ix {a i e : Ex} (w : WE P k e env h fun d h => WE P k a env h fun x h => WE P k i env h fun y h => ∃ h', setD x y d h = some h' ∧ K.nx env h') : WS1 P k (.asg (.ix a i) e) env h K :=
  .of (G := fun _ r d h => asgD r (.ix a i) d env h) (w.imp fun d h w => .of (G := fun _ r x h => RS.of (r.e i env h) env fun k h => match setD x k d h with
    | some h => .nx env h
    | none => .bad) (w.imp fun x h w => .of (G := fun _ _ k h => match setD x k d h with
    | some h => .nx env h
    | none => .bad) (w.imp fun y h ⟨h', e, q⟩ => by rw [e]; exact .const q)))
theorem w1_par {is : List Nat} {es : List Ex} (w : WL P k es env h fun ds h => ds.length = is.length ∧ K.nx ((is.zip ds).foldl (fun env p => env.set p.1 (some p.2)) env) h) : WS1 P k (.par is es) env h K :=
  .of (G := fun _ _ ds h => if ds.length = is.length then .nx ((is.zip ds).foldl (fun env p => env.set p.1 (some p.2)) env) h else .bad) (w.imp fun _ _ ⟨e, q⟩ => by simp only [e, if_true]; exact .const q)
theorem w1_aug {i : Nat} {o : Bop} {e : Ex} {x : D} (hx : env[i]? = some (some x)) (w : WE P k e env h fun y h => RO (augD o x y h) fun z h => K.nx (env.set i (some z)) h) : WS1 P k (.aug i o e) env h K := by
  have z : ∀ r : Rec, stepS1 r (.aug i o e) env h = RS.of (r.e e env h) env fun y h => RS.of (augD o x y h) env fun z h => .nx (env.set i (some z)) h := fun r => by
    show (match env[i]? with
      | some (some x) => RS.of (r.e e env h) env fun y h => RS.of (augD o x y h) env fun z h => .nx (env.set i (some z)) h
      | _ => .bad) = _
    rw [hx]
  have w2 : WX' P k (fun _ r => RS.of (r.e e env h) env fun y h => RS.of (augD o x y h) env fun z h => .nx (env.set i (some z)) h) K :=
    .of (G := fun _ _ y h => RS.of (augD o x y h) env fun z h => .nx (env.set i (some z)) h) (w.imp fun y h w => .of (F := fun _ _ => augD o x y h) (G := fun _ _ z h => .nx (env.set i (some z)) h) (WR.const (by
      obtain ⟨a, h', e, q⟩ := w
      exact ⟨a, h', e, .const q⟩)))
  obtain ⟨N, y, e1, q⟩ := w2
  exact ⟨N, y, fun f r B => (z r).trans (e1 f r B), q⟩
theorem w1_if {t : Ex} {a b : List St} (w : WT P k t env h fun c h => if c = true then WS P k a env h K else WS P k b env h K) : WS1 P k (.ifs t a b) env h K :=
  .of (F := fun _ r => r.t t env h) (G := fun _ r c h => if c then r.s a env h else r.s b env h) (w.imp fun c h q => by cases c <;> exact q)
theorem w1_while {t : Ex} {a : List St} (w : WT P k t env h fun c h => if c = true then WS P k a env h (K.loop fun e h => WS P k [.whl t a] e h K) else K.nx env h) : WS1 P k (.whl t a) env h K := by
  refine .of (G := fun _ r c h => if c then loopRS (r.s a env h) (fun e h => r.s [.whl t a] e h) else .nx env h) (w.imp fun c h q => ?_)
  cases c with
  | false => exact .const q
  | true => exact WX'.loop (F := fun _ r => r.s a env h) (G := fun _ r e h => r.s [.whl t a] e h) q
theorem w1_ret {e : Ex} (w : WE P k e env h K.rt) : WS1 P k (.ret e) env h K := .of (G := fun _ _ d h => .rt d h) (w.imp fun _ _ q => .const q)
theorem w1_retN (q : K.rt .non h) : WS1 P k .retN env h K := .const q
theorem w1_pass (q : K.nx env h) : WS1 P k .pass env h K := .const q
theorem w1_doc (q : K.nx env h) : WS1 P k .doc env h K := .const q
theorem w1_brk (q : K.bk env h) : WS1 P k .brk env h K := .const q
theorem w1_cont (q : K.ct env h) : WS1 P k .cont env h K := .const q
def WF (P : Prog) (k : Nat) (tg : Ex) (body : List St) (w : Wk) (c i : Nat) (env : Env) (h : MH) (K : Kt) : Prop := WX' P k (fun _ r => forD r tg body w c i env h) K
theorem w1_for {tg it : Ex} {a : List St} (w : WW P k it env h fun w h => WF P k tg a w (w.most h) 0 env h K) : WS1 P k (.for_ tg it a) env h K := .of (G := fun _ r w h => forD r tg a w (w.most h) 0 env h) w
theorem wf_end {tg : Ex} {body : List St} {w : Wk} {c i : Nat} (e : w.at h i = some none) (q : K.nx env h) : WF P k tg body w c i env h K := by
  refine ⟨0, .nx env h, fun f r _ => ?_, q⟩
  cases c <;> (unfold forD; rw [e])
theorem wf_turn {tg : Ex} {body : List St} {w : Wk} {c i : Nat} {d : D} {env2 : Env} (e : w.at h i = some (some d)) (ht : tgE tg d env = some env2) (q : WS P k body env2 h (K.loop fun e h => WF P k tg body w c (i + 1) e h K)) : WF P k tg body w (c + 1) i env h K := by
  have z : ∀ r : Rec, forD r tg body w (c + 1) i env h = loopRS (r.s body env2 h) (fun e h => forD r tg body w c (i + 1) e h) := fun r => by
    show (match w.at h i with
      | some none => RS.nx env h
      | some (some d) => (match asgD r tg d env h with
        | .nx env h => loopRS (r.s body env h) (fun e h => forD r tg body w c (i + 1) e h)
        | _ => .bad)
      | none => .bad) = _
    rw [e]
    show (match asgD r tg d env h with
      | .nx env h => loopRS (r.s body env h) (fun e h => forD r tg body w c (i + 1) e h)
      | _ => .bad) = _
    rw [tgE_ok (r := r) ht]
  obtain ⟨N, y, e1, q1⟩ := WX'.loop (F := fun _ r => r.s body env2 h) (G := fun _ r e h => forD r tg body w c (i + 1) e h) q
  exact ⟨N, y, fun f r B => (z r).trans (e1 f r B), q1⟩
/-- a walk over data that stands still, item by item -/
def WFD (P : Prog) (k : Nat) (tg : Ex) (body : List St) : List D → Env → MH → Kt → Prop
  | [], env, h, K => K.nx env h
  | d :: ds, env, h, K => ∃ env2, tgE tg d env = some env2 ∧ WS P k body env2 h (K.loop fun e h => WFD P k tg body ds e h K)
theorem Kt.loop_imp {K : Kt} {n n' : Env → MH → Prop} (i : ∀ e h, n e h → n' e h) (x : RS) (q : (K.loop n).at x) : (K.loop n').at x := by
  cases x with
  | nx e h => exact i _ _ q
  | ct e h => exact i _ _ q
  | _ => exact q
theorem wfd_of {tg : Ex} {body : List St} {w : Wk} (full : List D) (hw : ∀ h i, w.at h i = some full[i]?) : ∀ (ds : List D) (i c : Nat) (env : Env) (h : MH), full.drop i = ds → ds.length ≤ c → WFD P k tg body ds env h K → WF P k tg body w c i env h K := by
  intro ds
  induction ds with
  | nil =>
    intro i c env h e hc q
    have : full[i]? = none := by
      have := List.drop_eq_nil_iff.mp e
      exact List.getElem?_eq_none this
    exact wf_end (by rw [hw, this]) q
  | cons d ds ih =>
    intro i c env h e hc q
    obtain ⟨env2, e1, q⟩ := q
    cases c with
    | zero => simp at hc
    | succ c =>
      have hd : full[i]? = some d := by
        have := congrArg (fun l => l[0]?) e
        simpa using this
      have hr : full.drop (i + 1) = ds := by
        have := congrArg List.tail e
        simpa using this
      refine wf_turn (by rw [hw, hd]) e1 (q.imp (Kt.loop_imp fun e h q => ih (i + 1) c e h hr (by simpa using hc) q))
theorem wf_tup {tg : Ex} {body : List St} {ds : List D} (q : WFD P k tg body ds env h K) : WF P k tg body (.tup ds) ((Wk.tup ds).most h) 0 env h K := wfd_of ds (fun _ _ => rfl) ds 0 _ env h (List.drop_zero ..) (Nat.le_refl _) q
theorem wf_rol {tg : Ex} {body : List St} {ds : List D} (q : WFD P k tg body ds env h K) : WF P k tg body (.rol ds) ((Wk.rol ds).most h) 0 env h K := wfd_of ds (fun _ _ => rfl) ds 0 _ env h (List.drop_zero ..) (Nat.le_refl _) q
def rngL (lo c : Int) (n : Nat) : List D := (List.range n).map fun (i : Nat) => .int (lo + i * c)
theorem wf_rng {tg : Ex} {body : List St} {lo c : Int} {n : Nat} (q : WFD P k tg body (rngL lo c n) env h K) : WF P k tg body (.rng lo c n) ((Wk.rng lo c n).most h) 0 env h K := by
  refine wfd_of (rngL lo c n) (fun h i => ?_) _ 0 _ env h (List.drop_zero ..) (by simp [rngL, Wk.most]) q
  show some (if i < n then some (D.int (lo + i * c)) else none) = _
  congr 1
  unfold rngL
  rw [List.getElem?_map]
  by_cases hi : i < n
  · rw [if_pos hi, List.getElem?_range hi]; rfl
  · rw [if_neg hi, List.getElem?_eq_none (by simpa using Nat.le_of_not_lt hi)]; rfl
/-- a list of ours that stands still -/
def WFR (P : Prog) (k : Nat) (tg : Ex) (body : List St) (i : Nat) (full : List D) : List D → Env → MH → Kt → Prop
  | [], env, h, K => items h (.ref i) = some full ∧ K.nx env h
  | d :: ds, env, h, K => items h (.ref i) = some full ∧ ∃ env2, tgE tg d env = some env2 ∧ WS P k body env2 h (K.loop fun e h => WFR P k tg body i full ds e h K)
theorem wf_lst {tg : Ex} {body : List St} {j : Nat} {full : List D} (hf : items h (.ref j) = some full) (q : WFR P k tg body j full full env h K) : WF P k tg body (.lst j) ((Wk.lst j).most h) 0 env h K := by
  have go : ∀ (ds : List D) (i c : Nat) (env : Env) (h : MH), full.drop i = ds → ds.length ≤ c → WFR P k tg body j full ds env h K → WF P k tg body (.lst j) c i env h K := by
    intro ds
    induction ds with
    | nil =>
      rintro i c env h e hc ⟨q0, q⟩
      have : full[i]? = none := List.getElem?_eq_none (List.drop_eq_nil_iff.mp e)
      exact wf_end (by show (items h (.ref j)).map _ = _; rw [q0, ← this]; rfl) q
    | cons d ds ih =>
      rintro i c env h e hc ⟨q0, env2, e1, q⟩
      cases c with
      | zero => simp at hc
      | succ c =>
        have hd : full[i]? = some d := by
          have := congrArg (fun l => l[0]?) e
          simpa using this
        have hr : full.drop (i + 1) = ds := by
          have := congrArg List.tail e
          simpa using this
        exact wf_turn (by show (items h (.ref j)).map _ = _; rw [q0, ← hd]; rfl) e1 (q.imp (Kt.loop_imp fun e h q => ih (i + 1) c e h hr (by simpa using hc) q))
  refine go full 0 _ env h (List.drop_zero ..) ?_ q
  show full.length ≤ ((items h (.ref j)).map List.length).getD 0
  rw [hf]
  exact Nat.le_refl _
end
section
variable {Q : Wk → MH → Prop}
theorem ww_rng1 {a : Ex} (w : WE P k a env h fun d h => ∃ j, d = .int j ∧ (-(2 ^ 62) ≤ j ∧ j < 2 ^ 62) ∧ Q (.rng 0 1 j.toNat) h) : WW P k (.range [a]) env h Q := by
  refine WR.bind (F := fun _ r => r.e a env h) (G := fun _ _ d h => (match d with
    | .int j => if -(2 ^ 62) ≤ j ∧ j < 2 ^ 62 then .ok (.rng 0 1 j.toNat) h else .bad
    | _ => .bad : Res Wk)) (w.imp fun _ h ⟨j, e, b, q⟩ => ?_)
  subst e
  show WR P k (fun _ _ => if -(2 ^ 62) ≤ j ∧ j < 2 ^ 62 then Res.ok (Wk.rng 0 1 j.toNat) h else .bad) Q
  rw [if_pos b]
  exact .ok q
theorem ww_rng2 {a b : Ex} (w : WL P k [a, b] env h fun ds h => ∃ i j, ds = [.int i, .int j] ∧ (-(2 ^ 62) ≤ i ∧ i < 2 ^ 62 ∧ -(2 ^ 62) ≤ j ∧ j < 2 ^ 62) ∧ Q (.rng i 1 (j - i).toNat) h) : WW P k (.range [a, b]) env h Q := by
  refine WR.bind (F := fun _ r => evL r [a, b] env h) (G := fun _ _ ds h => (match ds with
    | [.int i, .int j] => if -(2 ^ 62) ≤ i ∧ i < 2 ^ 62 ∧ -(2 ^ 62) ≤ j ∧ j < 2 ^ 62 then .ok (.rng i 1 (j - i).toNat) h else .bad
    | _ => .bad : Res Wk)) (w.imp fun _ h ⟨i, j, e, b, q⟩ => ?_)
  subst e
  show WR P k (fun _ _ => if -(2 ^ 62) ≤ i ∧ i < 2 ^ 62 ∧ -(2 ^ 62) ≤ j ∧ j < 2 ^ 62 then Res.ok (Wk.rng i 1 (j - i).toNat) h else .bad) Q
  rw [if_pos b]
  exact .ok q
theorem ww_itv {a : Ex} (w : WE P k a env h fun d h => (match d with
    | .tup ds => Q (.tup ds) h
    | .rol ds => Q (.rol ds) h
    | .ref i => (items h (.ref i)).isSome = true ∧ Q (.lst i) h
    | _ => False)) : WW P k (.itv a) env h Q := by
  refine WR.bind (F := fun _ r => r.e a env h) (G := fun _ _ d h => (match d with
    | .tup ds => .ok (.tup ds) h
    | .rol ds => .ok (.rol ds) h
    | .ref i => match items h (.ref i) with
      | some ds => .ok (.lst i) h
      | none => .bad
    | _ => .bad : Res Wk)) (w.imp fun d h q => ?_)
  cases d with
  | tup ds => exact .ok q
  | rol ds => exact .ok q
  | ref i =>
    obtain ⟨a, b⟩ := q
    obtain ⟨ds, e⟩ := Option.isSome_iff_exists.mp a
    show WR P k (fun _ _ => match items h (.ref i) with
      | some ds => Res.ok (Wk.lst i) h
      | none => .bad) Q
    rw [e]
    exact .ok b
  | _ => exact q.elim
end
section
variable {Q : D → MH → Prop}
/-- the turns of a comprehension over data that stands still -/
def WLC (P : Prog) (k : Nat) (elt tg : Ex) (ifs : List Ex) (a : Nat) (env : Env) : List D → MH → (D → MH → Prop) → Prop
  | [], h, Q => Q (.ref a) h
  | d :: ds, h, Q => ∃ env2, tgE tg d env = some env2 ∧ WR P k (fun _ r => lcT r ifs env2 h) fun b h => if b = true then WE P k elt env2 h fun x h => ∃ xs, h.get a = some (.lst xs) ∧ xs.length < sizeLine ∧ WLC P k elt tg ifs a env ds (h.put a (.lst (xs ++ [x]))) Q else WLC P k elt tg ifs a env ds h Q
theorem wlc_of {elt tg : Ex} {ifs : List Ex} {a : Nat} {w : Wk} (full : List D) (hw : ∀ h i, w.at h i = some full[i]?) : ∀ (ds : List D) (i c : Nat) (h : MH), full.drop i = ds → ds.length ≤ c → WLC P k elt tg ifs a env ds h Q → WR P k (fun _ r => lcD r elt tg ifs a w env c i h) Q := by
  intro ds
  induction ds with
  | nil =>
    intro i c h e hc q
    have : full[i]? = none := List.getElem?_eq_none (List.drop_eq_nil_iff.mp e)
    refine ⟨0, .ref a, h, fun f r _ => ?_, q⟩
    cases c <;> (show lcD r elt tg ifs a w env _ i h = _; unfold lcD; rw [hw, this])
  | cons d ds ih =>
    intro i c h e hc q
    obtain ⟨env2, e1, q⟩ := q
    cases c with
    | zero => simp at hc
    | succ c =>
      have hd : full[i]? = some d := by
        have := congrArg (fun l => l[0]?) e
        simpa using this
      have hr : full.drop (i + 1) = ds := by
        have := congrArg List.tail e
        simpa using this
      have z : ∀ r : Rec, lcD r elt tg ifs a w env (c + 1) i h = (lcT r ifs env2 h).bind fun b h => if b then (r.e elt env2 h).bind fun x h => (match h.get a with
          | some (.lst ds) => if ds.length < sizeLine then lcD r elt tg ifs a w env c (i + 1) (h.put a (.lst (ds ++ [x]))) else .bad
          | _ => .bad) else lcD r elt tg ifs a w env c (i + 1) h := fun r => by
        show (match w.at h i with
          | some none => Res.ok (D.ref a) h
          | some (some d) => (match asgD r tg d env h with
            | .nx env2 h => (lcT r ifs env2 h).bind fun b h => if b then (r.e elt env2 h).bind fun x h => (match h.get a with
              | some (.lst ds) => if ds.length < sizeLine then lcD r elt tg ifs a w env c (i + 1) (h.put a (.lst (ds ++ [x]))) else .bad
              | _ => .bad) else lcD r elt tg ifs a w env c (i + 1) h
            | _ => .bad)
          | none => .bad) = _
        rw [hw, hd]
        show (match asgD r tg d env h with
          | .nx env2 h => (lcT r ifs env2 h).bind fun b h => if b then (r.e elt env2 h).bind fun x h => (match h.get a with
            | some (.lst ds) => if ds.length < sizeLine then lcD r elt tg ifs a w env c (i + 1) (h.put a (.lst (ds ++ [x]))) else .bad
            | _ => .bad) else lcD r elt tg ifs a w env c (i + 1) h
          | _ => .bad) = _
        rw [tgE_ok (r := r) e1]
      have w2 : WR P k (fun _ r => (lcT r ifs env2 h).bind fun b h => if b then (r.e elt env2 h).bind fun x h => (match h.get a with
          | some (.lst ds) => if ds.length < sizeLine then lcD r elt tg ifs a w env c (i + 1) (h.put a (.lst (ds ++ [x]))) else .bad
          | _ => .bad) else lcD r elt tg ifs a w env c (i + 1) h) Q := by
        refine WR.bind (G := fun _ r b h => if b then (r.e elt env2 h).bind fun x h => (match h.get a with
          | some (.lst ds) => if ds.length < sizeLine then lcD r elt tg ifs a w env c (i + 1) (h.put a (.lst (ds ++ [x]))) else .bad
          | _ => .bad) else lcD r elt tg ifs a w env c (i + 1) h) (q.imp fun b h q => ?_)
        cases b with
        | false => exact ih (i + 1) c h hr (by simpa using hc) (by simpa using q)
        | true =>
          rw [if_pos rfl] at q
          refine WR.bind (G := fun _ r x h => match h.get a with
            | some (.lst ds) => if ds.length < sizeLine then lcD r elt tg ifs a w env c (i + 1) (h.put a (.lst (ds ++ [x]))) else .bad
            | _ => .bad) (q.imp fun x h ⟨xs, q1, q2, q3⟩ => ?_)
          rw [q1]
          simp only [q2, if_true]
          exact ih (i + 1) c _ hr (by simpa using hc) q3
      obtain ⟨N, y, h1, e2, q2⟩ := w2
      exact ⟨N, y, h1, fun f r B => (z r).trans (e2 f r B), q2⟩
theorem we_lc {elt tg it : Ex} {own : List Nat} {ifs : List Ex} (w : WW P k it env h fun w h => WR P k (fun _ r => lcD r elt tg ifs h.n w (wipeD env own) (w.most h) 0 (h.new (.lst []))) Q) : WE P k (.lc elt own tg it ifs) env h Q := by
  refine .stepE (.bind (w.imp fun w h ⟨N, a, h', e, q⟩ => ⟨N, a, h', fun f r B => ?_, q⟩))
  show noEx (lcD r elt tg ifs h.n w (wipeD env own) (w.most h) 0 (h.new (.lst []))) = _
  rw [show lcD r elt tg ifs h.n w (wipeD env own) (w.most h) 0 (h.new (.lst [])) = _ from e f r B]
  rfl
theorem wlc_tup {elt tg : Ex} {ifs : List Ex} {a : Nat} {ds : List D} {h0 : MH} (q : WLC P k elt tg ifs a env ds h Q) : WR P k (fun _ r => lcD r elt tg ifs a (.tup ds) env ((Wk.tup ds).most h0) 0 h) Q := wlc_of ds (fun _ _ => rfl) ds 0 _ h (List.drop_zero ..) (Nat.le_refl _) q
theorem wlc_rol {elt tg : Ex} {ifs : List Ex} {a : Nat} {ds : List D} {h0 : MH} (q : WLC P k elt tg ifs a env ds h Q) : WR P k (fun _ r => lcD r elt tg ifs a (.rol ds) env ((Wk.rol ds).most h0) 0 h) Q := wlc_of ds (fun _ _ => rfl) ds 0 _ h (List.drop_zero ..) (Nat.le_refl _) q
theorem wlc_rng {elt tg : Ex} {ifs : List Ex} {a : Nat} {lo c : Int} {n : Nat} {h0 : MH} (q : WLC P k elt tg ifs a env (rngL lo c n) h Q) : WR P k (fun _ r => lcD r elt tg ifs a (.rng lo c n) env ((Wk.rng lo c n).most h0) 0 h) Q := by
  refine wlc_of (rngL lo c n) (fun h i => ?_) _ 0 _ h (List.drop_zero ..) (by simp [rngL, Wk.most]) q
  show some (if i < n then some (D.int (lo + i * c)) else none) = _
  congr 1
  unfold rngL
  rw [List.getElem?_map]
  by_cases hi : i < n
  · rw [if_pos hi, List.getElem?_range hi]; rfl
  · rw [if_neg hi, List.getElem?_eq_none (by simpa using Nat.le_of_not_lt hi)]; rfl
theorem lct_nil {Q : Bool → MH → Prop} (q : Q true h) : WR P k (fun _ r => lcT r [] env h) Q := .ok q
theorem lct_one {Q : Bool → MH → Prop} {t : Ex} (w : WT P k t env h Q) : WR P k (fun _ r => lcT r [t] env h) Q := w
end
section
variable {Q : D → MH → Prop}
theorem WC.le {k' i : Nat} {ds : List D} (hk : k ≤ k') (w : WC P k i ds h Q) : WC P k' i ds h Q := by
  obtain ⟨N, d, h', e, q⟩ := w
  exact ⟨N, d, h', Le.ok (evk_le (Nat.le_refl N) hk i ds h) e, q⟩
theorem WC.imp {i : Nat} {ds : List D} {Q' : D → MH → Prop} (w : WC P k i ds h Q) (f : ∀ d h, Q d h → Q' d h) : WC P k i ds h Q' := by
  obtain ⟨N, d, h', e, q⟩ := w
  exact ⟨N, d, h', e, f _ _ q⟩
theorem run_of {fn : Fn} {ds : List D} {Q : D → MH → Prop} (w : WSt P k fn.body (startD fn ds) h { nx := fun _ h => Q .non h, rt := Q }) : ∃ N d h', runD (inner P (evk P N k) N) fn ds h = .ok d h' ∧ Q d h' := by
  obtain ⟨N, x, e, q⟩ := ws_go w
  have e := e _ _ Big.self
  have z : ∀ y, (inner P (evk P N k) N).s fn.body (startD fn ds) h = y → runD (inner P (evk P N k) N) fn ds h = match y with
    | .rt d h => .ok d h
    | .nx _ h => .ok .non h
    | .ex x _ h => .ex x h
    | _ => .bad := fun y e => by
    unfold runD
    first
      | (rw [e]; done)
      | (rw [e]; cases y <;> rfl)
  cases x with
  | nx env h1 => exact ⟨N, .non, h1, z _ e, q⟩
  | rt d h1 => exact ⟨N, d, h1, z _ e, q⟩
  | _ => exact q.elim
theorem wc_imp {i : Nat} {fn : Fn} {ds : List D} (hf : P.fns[i]? = some fn) (hn : ds.length = fn.np) (hp : fn.pur = false) (w : WSt P k fn.body (startD fn ds) h { nx := fun _ h => Q .non h, rt := Q }) : WC P (k + 1) i ds h Q := by
  obtain ⟨N, d, h', e, q⟩ := run_of w
  refine ⟨N, d, h', ?_, q⟩
  show callD P (inner P (evk P N k) N) i ds h = _
  unfold callD
  rw [hf]
  simp only [hn, if_true, hp, Bool.false_eq_true, if_false]
  exact e
theorem wc_pur {i : Nat} {fn : Fn} {ds : List D} (hf : P.fns[i]? = some fn) (hn : ds.length = fn.np) (hp : fn.pur = true) (hd : ds.all (noref 70) = true) (w : WSt P k fn.body (startD fn ds) MH.nil { nx := fun _ _ => Q .non h, rt := fun d _ => noref 70 d = true ∧ Q d h }) : WC P (k + 1) i ds h Q := by
  have w2 : WSt P k fn.body (startD fn ds) MH.nil { nx := fun _ _ => noref 70 .non = true ∧ Q .non h, rt := fun d _ => noref 70 d = true ∧ Q d h } := w.imp fun x q => by
    cases x with
    | nx e h => exact ⟨rfl, q⟩
    | _ => exact q
  obtain ⟨N, d, h', e, q1, q2⟩ := run_of (Q := fun d _ => noref 70 d = true ∧ Q d h) w2
  refine ⟨N, d, h, ?_, q2⟩
  show callD P (inner P (evk P N k) N) i ds h = _
  unfold callD
  rw [hf]
  simp only [hn, if_true, hp, hd]
  rw [e]
  simp only [q1, if_true]
end
end
end MP
namespace MP
open PySem
section
variable {P : Prog} {k : Nat} {α β : Type} {env : Env} {h : MH} {Q : D → MH → Prop}
theorem log2_of {i : Int} {a : Nat} (hi : i.natAbs < 2 ^ a) (h0 : 0 < a) : i.natAbs.log2 < a := by
  by_cases z : i.natAbs = 0
  · rw [z]; simpa using h0
  · exact (Nat.log2_lt z).mpr hi
theorem mul_ok {i j : Int} (hi : i.natAbs < 2 ^ 400000) (hj : j.natAbs < 2 ^ 400000) : i.natAbs.log2 + j.natAbs.log2 < 1000000 := by
  have := log2_of hi (by decide)
  have := log2_of hj (by decide)
  omega
theorem ro_mul {i j : Int} (q : Q (.int (i * j)) h) (hb : i.natAbs.log2 + j.natAbs.log2 < 1000000) : RO (binD .mul (.int i) (.int j) h) Q := by
  refine ⟨.int (i * j), h, ?_, q⟩
  show (if i.natAbs.log2 + j.natAbs.log2 < 1000000 then Res.ok (D.int (i * j)) h else .bad) = _
  rw [if_pos hb]
theorem ro_mod {i j : Int} (q : Q (.int (i % j)) h) (hb : 0 < j) : RO (binD .mod (.int i) (.int j) h) Q := by
  refine ⟨.int (i % j), h, ?_, q⟩
  show (if 0 < j then Res.ok (D.int (i % j)) h else .bad) = _
  rw [if_pos hb]
theorem ro_fdiv {i j : Int} (q : Q (.int (i / j)) h) (hb : 0 < j ∧ j.natAbs.log2 < 9000) : RO (binD .fdiv (.int i) (.int j) h) Q := by
  refine ⟨.int (i / j), h, ?_, q⟩
  show (if 0 < j ∧ j.natAbs.log2 < 9000 then Res.ok (D.int (i / j)) h else .bad) = _
  rw [if_pos hb]
theorem ro_newT {ds : List D} (q : Q (.tup ds) h) (hb : ds.length ≤ sizeLine) : RO (newT h ds) Q := ⟨.tup ds, h, by unfold newT; rw [if_pos hb], q⟩
theorem ro_newL {ds : List D} (q : Q (.ref h.n) (h.new (.lst ds))) (hb : ds.length ≤ sizeLine) : RO (newL h ds) Q := ⟨.ref h.n, h.new (.lst ds), by unfold newL; rw [if_pos hb], q⟩
theorem if_t {p : Prop} {A B : Prop} [Decidable p] (hp : p) (a : A) : if decide p = true then A else B := by rw [if_pos (decide_eq_true hp)]; exact a
theorem if_f {p : Prop} {A B : Prop} [Decidable p] (hp : ¬ p) (b : B) : if decide p = true then A else B := by rw [if_neg (by simpa using hp)]; exact b
theorem MH.put_self {i : Nat} {o : Ob} (e : h.get i = some o) : h.put i o = h := by
  have hi := MH.get_lt e
  rw [MH.get_of hi] at e
  obtain ⟨n, l⟩ := h
  show MH.mk n (l.set (n - 1 - i) o) = _
  congr 1
  apply List.ext_getElem?
  intro j
  by_cases hj : n - 1 - i = j
  · subst hj
    have e : l[n - 1 - i]? = some o := e
    obtain ⟨q, _⟩ := List.getElem?_eq_some_iff.mp e
    rw [List.getElem?_set_self q, e]
  · rw [List.getElem?_set_ne hj]
theorem MH.put_put {i : Nat} {o u : Ob} : (h.put i o).put i u = h.put i u := by
  obtain ⟨n, l⟩ := h
  show MH.mk n ((l.set (n - 1 - i) o).set (n - 1 - i) u) = MH.mk n (l.set (n - 1 - i) u)
  rw [List.set_set]
theorem MH.new_put {o u : Ob} : (h.new o).put h.n u = h.new u := by
  obtain ⟨n, l⟩ := h
  show MH.mk (n + 1) ((o :: l).set (n + 1 - 1 - n) u) = MH.mk (n + 1) (u :: l)
  rw [show n + 1 - 1 - n = 0 by omega]
  rfl
theorem items_get {i : Nat} {ds : List D} (e : h.get i = some (.lst ds)) : items h (.ref i) = some ds := by
  show (match h.get i with
    | some (.lst ds) => some ds
    | _ => none) = _
  rw [e]
/-- a comprehension whose items change nothing -/
theorem wlc_map {elt tg : Ex} {a : Nat} {g : D → D} : ∀ {ds acc : List D} {h : MH}, (∀ d ∈ ds, ∃ env2, tgE tg d env = some env2 ∧ ∀ (h : MH) (Q : D → MH → Prop), Q (g d) h → WE P k elt env2 h Q) → acc.length + ds.length ≤ sizeLine → h.get a = some (.lst acc) →
    Q (.ref a) (h.put a (.lst (acc ++ ds.map g))) → WLC P k elt tg [] a env ds h Q := by
  intro ds
  induction ds with
  | nil =>
    intro acc h _ _ e q
    rw [List.map_nil, List.append_nil, MH.put_self e] at q
    exact q
  | cons d ds ih =>
    intro acc h hg hl e q
    obtain ⟨env2, e1, e2⟩ := hg d (List.mem_cons_self ..)
    refine ⟨env2, e1, lct_nil ?_⟩
    rw [if_pos rfl]
    refine e2 _ _ ⟨acc, e, by rw [List.length_cons] at hl; omega, ?_⟩
    refine ih (fun x hx => hg x (List.mem_cons_of_mem _ hx)) (by rw [List.length_append, List.length_singleton]; rw [List.length_cons] at hl; omega) (MH.get_put_same e) ?_
    rw [MH.put_put, List.append_assoc]
    exact q
/-- .. over a tuple -/
theorem we_lc_tup {elt tg it : Ex} {own : List Nat} {ds : List D} {g : D → D} (hi : WE P k it env h fun d h' => d = .tup ds ∧ h' = h) (hg : ∀ d ∈ ds, ∃ env2, tgE tg d (wipeD env own) = some env2 ∧ ∀ (h : MH) (Q : D → MH → Prop), Q (g d) h → WE P k elt env2 h Q) (hl : ds.length ≤ sizeLine)
    (q : Q (.ref h.n) (h.new (.lst (ds.map g)))) : WE P k (.lc elt own tg (.itv it) []) env h Q := by
  refine we_lc (ww_itv (hi.imp fun d h' hd => ?_))
  obtain ⟨rfl, rfl⟩ := hd
  show WR P k (fun _ r => lcD r elt tg [] h'.n (.tup ds) (wipeD env own) ((Wk.tup ds).most h') 0 (h'.new (.lst []))) Q
  refine wlc_tup (wlc_map hg (by simpa using hl) MH.get_new_same ?_)
  rw [MH.new_put, List.nil_append]
  exact q
theorem asBl_all {bs : List Bool} : mapO asBl (bs.map D.bl) = some bs := by
  induction bs with
  | nil => rfl
  | cons b bs ih =>
    simp only [List.map_cons, mapO, asBl, ih]
theorem bi_all {i : Nat} {bs : List Bool} (e : h.get i = some (.lst (bs.map D.bl))) (q : Q (.bl (bs.all id)) h) : RO (biD .all [.ref i] h) Q := by
  refine ⟨_, h, ?_, q⟩
  show (match items h (.ref i) with
    | some ds => (match mapO asBl ds with
      | some bs => Res.ok (D.bl (bs.all id)) h
      | none => .bad)
    | none => .bad) = _
  rw [items_get e]
  show (match mapO asBl (bs.map D.bl) with
      | some bs => Res.ok (D.bl (bs.all id)) h
      | none => .bad) = _
  rw [asBl_all]
end
end MP
namespace MP
open PySem PySem.Spec PyProof.Rows L2
/-- a promise with any fuel -/
def spN (K : PySem.W.Frag) (P : Prog) (k i : Nat) : Sp := fun vs H Q E => ∃ N, spF K noT (evk P N k) 1 i vs H Q E
theorem ok_any {P : Prog} {k i : Nat} {prog : Program} {wd : World} {K : PySem.W.Frag} {mg : PySem.Str → Option Value} {bs : Heap} {f : Addr} {fd : FuncData} {ps : List PySem.Str}
    (F : ∀ N, FnG prog wd K mg bs k f fd ps (spF K noT (evk P N k) 1 i)) : FnG prog wd K mg bs k f fd ps (spN K P k i) :=
  ⟨fun vs H Q E ⟨N, z⟩ => (F N).len vs H Q E z, fun A outer s H args us vs Q E r1 r2 r3 r4 r5 ⟨N, z⟩ => (F N).run A outer s H args us vs Q E r1 r2 r3 r4 r5 z⟩
/-- the call of the law's def behind the head -/
theorem call_G {pr : Program} {wd : World} {K : PySem.W.Frag} {mg mb : PySem.Str → Option Value} {k : Nat} {fa ad : Addr} {fd : FuncData} {nm : PySem.Str} {sp : Sp} {t1 : Shared} {us : List Value} {ns : List Int}
    (KX : K.In t1.heap) (g1 : t1.heap.Ns mainGlobals mg) (g2 : t1.heap.Ns builtinsNs mb) (g3 : ∀ y : PySem.Str, y ≠ "__name__" → mb y = bootBuiltins y) (g4 : t1.heap.NoLimit) (g5 : t1.gens = #[])
    (hob : t1.heap.get? ad = some { cls := .type "list", data := .seq us.toArray }) (hin : IntsAre us ns) (hlen : ns.length ≤ sizeLine) (hr : Room k callerA)
    (F : ∀ bs : Heap, K.In bs → bs.Ns mainGlobals mg → FnG pr wd K mg bs k fa fd [nm] sp) (bd : ∀ (t : Shared) (u : Value), BindsTo t fd ⟨[u], []⟩ [(nm, u)])
    (hsp : ∀ H : Hp, Only H → SqL K H ad (ns.map V.int) → sp [.ref ad] H (fun v _ => v = .bl true) fun _ _ _ => False) :
    codeAny (model pr wd) callerA (.call (.ref fa) ⟨[.ref ad], []⟩) (fun out t2 => out = .ok (.ret (.bool true)) ∧ OldK t1.heap t2.heap ∧ t2.os = t1.os ∧ AllBare t2.gens) t1 := by
  have rv : Vals (ns.map V.int) us := vals_ints hin
  have el := hin.length
  have main : ∀ H : Hp, Only H → SqL K H ad (ns.map V.int) → HOk pr wd H t1.heap → (∀ c, H c ≠ none → c = ad) → (H ad ≠ none → K.lookup ad = none) →
      codeAny (model pr wd) callerA (.call (.ref fa) ⟨[.ref ad], []⟩) (fun out t2 => out = .ok (.ret (.bool true)) ∧ OldK t1.heap t2.heap ∧ t2.os = t1.os ∧ AllBare t2.gens) t1 := by
    intro H hO hS hok only off
    have seen : ∀ {c : Addr} {o : Obj}, t1.heap.get? c = some o → H c = none → (hidT t1.heap H).get? c = some o := fun e n => hidT_get e n
    have free : ∀ c o, (t1.heap.get? c = some o) → (c = ad → False) → H c = none := fun c o _ hn => by
      cases q : H c with
      | none => rfl
      | some u => exact (hn (only c (by rw [q]; simp))).elim
    have ns2 : ∀ {c : Addr} {mm : PySem.Str → Option Value}, t1.heap.Ns c mm → (hidT t1.heap H).Ns c mm := by
      rintro c mm ⟨o, es, ep, e, d, rr⟩
      refine ⟨o, es, ep, seen e (free c o e fun z => ?_), d, rr⟩
      subst z
      rw [hob] at e
      cases e
      exact absurd (show Data.seq us.toArray _ = Data.dict es ep from d) (fun z => by cases z)
    have hKb : K.In (hidT t1.heap H) := fun c o e => seen (KX c o e) (by
      cases q : H c with
      | none => rfl
      | some u =>
        have z := only c (by rw [q]; simp)
        subst z
        rw [off (by rw [q]; simp)] at e
        cases e)
    have hM : Mod K mg (hidT t1.heap H) := ⟨hKb, ns2 g1, ⟨mb, ns2 g2, g3⟩, let ⟨mc, y1, y2⟩ := g4; ⟨mc, ns2 y1, y2⟩⟩
    have e0 : Env0 pr wd K mg (hidT t1.heap H) callerA [] t1 H := ⟨rfl, hM, fun c o e => of_hidT e, Nat.le_of_eq (hidT_size _ _), trivial, fun c hc => absurd (show c ∈ ([] : List Addr) from hc) (by simp), hok, .of_eq g5⟩
    refine codeAny_mono ((F _ hKb (ns2 g1)).run callerA [] t1 H ⟨[.ref ad], []⟩ [.ref ad] [.ref ad] _ _ hr rfl e0 (bd t1 (.ref ad)) (.cons rfl .nil) (hsp H hO hS)) fun out t2 hq => ?_
    match out, hq with
    | .error e, hq => exact (cx_no hq).elim
    | .ok .next, hq => exact False.elim hq
    | .ok .brk, hq => exact False.elim hq
    | .ok .cont, hq => exact False.elim hq
    | .ok (.ret u), ⟨v, H2, os, bare, un, hok2, r2, q⟩ =>
      have q2 : v = .bl true := q
      subst q2
      obtain rfl : u = Value.bool true := r2
      refine ⟨rfl, OldK.of_keep fun c o e => ?_, os, bare⟩
      cases z : H c with
      | none => exact un.keep c o e z (by intro y; exact absurd (show c ∈ ([] : List Addr) from y) (by simp)) (by simp)
      | some u =>
        rcases hO c with y | ⟨ob, xs, y⟩
        · rw [z] at y; cases y
        · obtain ⟨y1, _⟩ := hok c _ y
          obtain ⟨y2, _⟩ := hok2 c _ (un.frzs c ob _ y)
          rw [e] at y1
          cases y1
          exact y2
  cases hk : K.lookup ad with
  | some o =>
    have e := KX ad o hk
    rw [hob] at e
    cases e
    exact main (fun _ => none) (fun _ => .inl rfl) (.inr ⟨_, us.toArray, _, hk, rfl, rfl, rfl, by rw [List.size_toArray, el]; exact hlen, by simpa using rv⟩) (fun c u z => by cases (show (none : Option HO) = some u from z)) (fun c z => absurd rfl z) fun z => absurd rfl z
  | none =>
    refine main (fun c => if c = ad then some (.frz { cls := .type "list", data := .seq us.toArray } (.lst (ns.map V.int))) else none) (fun c => ?_) (.inl (.inr ⟨{ cls := .type "list", data := .seq us.toArray }, if_pos rfl⟩)) (fun c u z => ?_) (fun c z => ?_) fun _ => hk
    · by_cases hc : c = ad
      · exact .inr ⟨_, _, if_pos hc⟩
      · exact .inl (if_neg hc)
    · by_cases hc : c = ad
      · have y := (if_pos hc).symm.trans z
        cases y
        subst hc
        exact ⟨hob, by rw [List.length_map]; exact hlen, us, _, rv, hob⟩
      · have y := (if_neg hc).symm.trans z
        cases y
    · by_cases hc : c = ad
      · exact hc
      · exact absurd (if_neg hc) z
theorem walk_M {lw : PySem.W.OpenLaw} {mx k : Nat} {vw : Program} {ls : List PySem.Str} {XP : (PySem.Str → Option Value) → Heap → Prop} {YP : World → Heap → Prop} {dr : DefRec} {P : Prog} {i : Nat}
    (hn : lw.most = some mx) (hz : mx ≤ sizeLine) (hdf : dr.params.defaults = []) (hr : Room k callerA)
    (F : ∀ (wd : World) (mg : PySem.Str → Option Value) (fa : Addr) (hp : Heap), YP wd hp → hp.Ns mainGlobals mg → mg dr.name = some (.ref fa) → ∃ (K : PySem.W.Frag) (fd : FuncData), K.In hp ∧ (∀ (s : Shared) (u : Value), BindsTo s fd ⟨[u], []⟩ [("script", u)]) ∧
      ∀ bs : Heap, K.In bs → bs.Ns mainGlobals mg → ∀ N, FnG lw.prog wd K mg bs k fa fd ["script"] (spF K noT (evk P N k) 1 i))
    (law : ∀ ns : List Int, ns.length ≤ mx → (∀ z ∈ ns, Builtin.Int.intBits z ≤ 1048576) → ∃ N h', evk P N k i [.rol (ns.map .int)] MH.nil = .ok (.bl true) h') :
    PySem.W.WalkO vw ls XP YP lw.row.toRowW dr [] (fun f vs => PySem.call f vs) := by
  refine Att.attach_callB hn hdf fun wd s0 s1 mg mb fa o pm cd doc a vs ns G Y c1 c2 c3 c4 c5 c6 c7 c8 c9 => ?_
  obtain ⟨K, fd, KX, hb, hF⟩ := F wd mg fa _ Y G.T.g c4
  refine call_G (sp := spN K P k i) KX G.T.g G.T.b G.T.builtins G.T.nolimit c9 c5 c6 (Nat.le_trans c7 hz) hr (fun bs b1 b2 => ok_any (hF bs b1 b2)) hb (fun H hO hS => ?_)
  obtain ⟨N, h', e⟩ := law ns c7 c8
  exact ⟨N, law_sp hO hS e⟩
end MP
namespace MP
open PySem
section
variable {P : Prog} {k : Nat} {env : Env} {h : MH} {Q : D → MH → Prop}
def WP (P : Prog) (k : Nat) (ks vs : List Ex) (env : Env) (h : MH) (Q : List (D × D) → MH → Prop) : Prop := WR P k (fun _ r => evP r ks vs env h) Q
theorem wp_nil {Q : List (D × D) → MH → Prop} (q : Q [] h) : WP P k [] [] env h Q := .ok q
theorem wp_cons {Q : List (D × D) → MH → Prop} {e v : Ex} {es vs : List Ex} (w : WE P k e env h fun x h => WE P k v env h fun y h => WP P k es vs env h fun ps h => Q ((x, y) :: ps) h) : WP P k (e :: es) (v :: vs) env h Q :=
  WR.bind (G := fun _ r x h => (r.e v env h).bind fun y h => (evP r es vs env h).bind fun ps h => .ok ((x, y) :: ps) h) (w.imp fun _ _ w => WR.bind (G := fun _ r y h => (evP r es vs env h).bind fun ps h => .ok ((_, y) :: ps) h) (w.imp fun _ _ w => .bind (w.imp fun _ _ q => .ok q)))
theorem we_dct {e : Ex} {es vs : List Ex} (w : WP P k (e :: es) vs env (h.new (.dK [])) fun ps h1 => RO (dctD h.n ps h1) Q) : WE P k (.dct (e :: es) vs) env h Q := by
  have z : ∀ (f : FT) (r : Rec), stepE P r f (.dct (e :: es) vs) env h = (evP r (e :: es) vs env (h.new (.dK []))).bind fun ps h1 => dctD h.n ps h1 := fun f r => by
    cases vs <;> rfl
  refine .stepE ?_
  simp only [z]
  exact .bind (w.imp fun _ _ w => .const w)
theorem we_dct0 (q : Q (.ref h.n) (h.new (.dK []))) : WE P k (.dct [] []) env h Q := .stepE (.ok q)
/-- the new dict, whose pairs are done -/
theorem ro_dct {a : Nat} {ps : List (D × D)} {kvs : List (Key × D)} (hg : h.get a = some (.dK [])) (hk : mapO keyP ps = some kvs) (hl : ps.length ≤ 15) (q : Q (.ref a) (h.put a (.dK (mergeD [] kvs)))) : RO (dctD a ps h) Q := by
  refine ⟨_, _, ?_, q⟩
  unfold dctD
  rw [hg, hk]
  dsimp only
  rw [if_pos hl]
def okR (p : PyData) : Prop := p.showable = true ∧ p.hasDict = false ∧ p.depth ≤ 100 ∧ p.shown.length ≤ sizeLine
theorem ro_repr {d : D} {p : PyData} (e : pd 70 h d = some p) (o : okR p) (q : Q (.str p.shown) h) : RO (biD .repr [d] h) Q := by
  refine ⟨.str p.shown, h, ?_, q⟩
  have e0 : biD .repr [d] h = (match reprD h d with
    | some s => .ok (.str s) h
    | none => .bad) := by cases d <;> rfl
  have e1 : reprD h d = some p.shown := by
    unfold reprD
    rw [e]
    dsimp only
    exact if_pos o
  rw [e0, e1]
theorem okR_int {i : Int} (hi : i.natAbs.log2 < 1920) : okR (.int i) := by
  refine ⟨by simp [PyData.showable, hi], by simp [PyData.hasDict], by simp [PyData.depth], ?_⟩
  have z := int_text_length_le (k := 1920) (by decide) hi
  have e : (PyData.shown (.int i)).length = (toString i).length := by
    simp only [PyData.shown]
    exact PySem.ofString_length _
  rw [e, sizeLine_eq]
  omega
end
end MP
namespace MP
open PySem
section
variable {h : MH}
abbrev DI (n : Nat) : D := .int (n : Int)
theorem sizeLine_big : 100000 ≤ sizeLine := by decide
theorem nn_f {p : Prop} {A B : Prop} [Decidable p] (hp : p) (b : B) : if (!decide p) = true then A else B := by
  rw [decide_eq_true hp]
  exact b
theorem ro_append {i : Nat} {ds : List D} {d : D} {h : MH} {R : D → MH → Prop} (e : h.get i = some (.lst ds)) (hl : ds.length < sizeLine) (q : R .non (h.put i (.lst (ds ++ [d])))) : RO (meD .append (.ref i) [d] h) R := by
  refine ⟨.non, h.put i (.lst (ds ++ [d])), ?_, q⟩
  show (match h.get i with
    | some (.lst ds) => if ds.length < sizeLine then Res.ok D.non (h.put i (.lst (ds ++ [d]))) else .bad
    | _ => .bad) = _
  rw [e]
  show (if ds.length < sizeLine then Res.ok D.non (h.put i (.lst (ds ++ [d]))) else .bad) = _
  rw [if_pos hl]
theorem isl {i : Nat} {ds : List D} {h : MH} (e : h.get i = some (.lst ds)) : isLst h (.ref i) = true := by
  show (match h.get i with
    | some (.lst _) => true
    | _ => false) = true
  rw [e]
theorem ix_get {i : Nat} {ds : List D} {h : MH} {x : Int} {d : D} (e : h.get i = some (.lst ds)) (q : L2.atI ds x = some d) : ixD h (.ref i) (.int x) = some d := by
  show (match items h (.ref i) with
    | some ds => L2.atI ds x
    | none => (match dkvs h (.ref i) with
      | some kvs => lookK kvs (.inl x)
      | none => none)) = some d
  rw [items_get e]
  exact q
theorem set_get {i j : Nat} {ds : List D} {h : MH} {x : Int} {d : D} (e : h.get i = some (.lst ds)) (q : L2.ixN ds.length x = some j) : setD (.ref i) (.int x) d h = some (h.put i (.lst (ds.set j d))) := by
  show (match h.get i with
    | some (.lst ds) => (match L2.ixN ds.length x with
      | some j => some (h.put i (.lst (ds.set j d)))
      | none => none)
    | some (.dK kvs) => if kvs.length < sizeLine then some (h.put i (.dK (storeK kvs (.inl x) d))) else none
    | none => none) = _
  rw [e]
  show (match L2.ixN ds.length x with
      | some j => some (h.put i (.lst (ds.set j d)))
      | none => none) = _
  rw [q]
theorem at_last {xs : List D} {x : D} : L2.atI (xs ++ [x]) (-1) = some x := by
  unfold L2.atI L2.ixN
  rw [if_neg (by decide), if_pos (by rw [List.length_append]; simp; omega)]
  show (xs ++ [x])[((-1 : Int) + ((xs ++ [x]).length : Int)).toNat]? = some x
  rw [show ((-1 : Int) + ((xs ++ [x]).length : Int)).toNat = xs.length by rw [List.length_append]; simp; omega]
  simp
theorem at_last2 {xs : List D} {x y : D} : L2.atI (xs ++ [x] ++ [y]) (-2) = some x := by
  unfold L2.atI L2.ixN
  rw [if_neg (by decide), if_pos (by simp; omega)]
  show (xs ++ [x] ++ [y])[((-2 : Int) + ((xs ++ [x] ++ [y]).length : Int)).toNat]? = some x
  rw [show ((-2 : Int) + ((xs ++ [x] ++ [y]).length : Int)).toNat = xs.length by simp; omega]
  simp
theorem at_nat {ds : List D} {t : Nat} {d : D} (e : ds[t]? = some d) : L2.atI ds (t : Int) = some d := by
  have hl := (List.getElem?_eq_some_iff.mp e).1
  unfold L2.atI L2.ixN
  rw [if_pos (by omega), if_pos (by omega)]
  show ds[((t : Int)).toNat]? = some d
  rw [Int.toNat_natCast, e]
theorem cutD_to (ds : List D) (a : Nat) : cutD ds none (some (a : Int)) = ds.take a := by
  unfold cutD
  have e1 : HT.sIx ds.length 0 none = 0 := rfl
  have e2 : HT.sIx ds.length ds.length (some (a : Int)) = min a ds.length := by
    show (if (a : Int) < 0 then ((a : Int) + (ds.length : Int)).toNat else min (a : Int).toNat ds.length) = _
    rw [if_neg (by omega), Int.toNat_natCast]
  rw [e1, e2, Nat.sub_zero, List.drop_zero]
  by_cases h : a ≤ ds.length
  · rw [Nat.min_eq_left h]
  · rw [Nat.min_eq_right (by omega), List.take_of_length_le (by omega), List.take_of_length_le (by omega)]
theorem cutD_from (ds : List D) (a : Nat) : cutD ds (some (a : Int)) none = ds.drop a := by
  unfold cutD
  have e1 : HT.sIx ds.length ds.length none = ds.length := rfl
  have e2 : HT.sIx ds.length 0 (some (a : Int)) = min a ds.length := by
    show (if (a : Int) < 0 then ((a : Int) + (ds.length : Int)).toNat else min (a : Int).toNat ds.length) = _
    rw [if_neg (by omega), Int.toNat_natCast]
  rw [e1, e2]
  by_cases h : a ≤ ds.length
  · rw [Nat.min_eq_left h, List.take_of_length_le (by simp)]
  · rw [Nat.min_eq_right (by omega), List.drop_of_length_le (by omega), List.drop_of_length_le (by omega)]; simp
theorem pick_back {α : Type} (ds : List α) {a : Nat} (ha : a < ds.length) : pick ds (stepT ds.length none (some (a : Int)) (-1)) = (ds.drop (a + 1)).reverse := by
  have e0 : Builtin.Slice.sliceAdjust none (some (a : Int)) (-1) (ds.length : Int) = ((ds.length : Int) - 1, (a : Int)) := by
    unfold Builtin.Slice.sliceAdjust
    simp only [show ((-1 : Int) < 0) from by decide, if_true, if_neg (show ¬ (a : Int) < 0 by omega)]
    refine Prod.ext rfl ?_
    show min (a : Int) ((ds.length : Int) - 1) = a
    omega
  have e1 : Builtin.Slice.slicePlaces ((ds.length : Int) - 1) (a : Int) (-1) = ds.length - 1 - a := by
    unfold Builtin.Slice.slicePlaces
    rw [if_neg (by decide)]
    by_cases h : (ds.length : Int) - 1 > a
    · rw [if_pos h, show (-(-1 : Int)) = 1 by decide, Int.ediv_one]; omega
    · rw [if_neg h]; omega
  have e2 : stepT ds.length none (some (a : Int)) (-1) = (List.range (ds.length - 1 - a)).map fun m => ds.length - 1 - m := by
    unfold stepT
    rw [e0, e1]
    apply List.map_congr_left
    intro m hm
    have := List.mem_range.mp hm
    show ((ds.length : Int) - 1 + (m : Int) * (-1)).toNat = _
    omega
  rw [e2]
  unfold pick
  rw [List.filterMap_map]
  have e3 : ∀ n, n ≤ ds.length - 1 - a → (List.range n).filterMap ((fun i => ds[i]?) ∘ fun m => ds.length - 1 - m) = (ds.reverse).take n := by
    intro n hn
    induction n with
    | zero => rfl
    | succ n ih =>
      have hlt : n < ds.reverse.length := by rw [List.length_reverse]; omega
      rw [List.range_succ, List.filterMap_append, ih (by omega), List.take_succ_eq_append_getElem hlt]
      congr 1
      have : ds[ds.length - 1 - n]? = some ds.reverse[n] := by
        rw [List.getElem_reverse, List.getElem?_eq_getElem]
      have hf : ((fun i => ds[i]?) ∘ fun m => ds.length - 1 - m) n = some ds.reverse[n] := this
      rw [List.filterMap_cons_some hf, List.filterMap_nil]
  rw [e3 _ (Nat.le_refl _), List.reverse_drop]
  congr 1
  omega
theorem bnd {i : Int} (h0 : 0 ≤ i) (h1 : i < 2 ^ 200) : i.natAbs < 2 ^ 400000 := by
  have h1 : i < 1606938044258990275541962092341162602522202993782792835301376 := h1
  have : i.natAbs < 2 ^ 200 := by
    show i.natAbs < 1606938044258990275541962092341162602522202993782792835301376
    omega
  exact Nat.lt_of_lt_of_le this (Nat.pow_le_pow_right (by decide) (by decide))
def Dice (d n : Nat) (h : MH) : Prop := ∃ a b c : Nat, h.get d = some (.lst [DI a, DI b, DI c]) ∧ b < 2 ^ 70 ∧ c ≤ n
structure Fr (d n : Nat) (h h' : MH) : Prop where
  le : h.n ≤ h'.n
  fr : ∀ j, j < h.n → j ≠ d → h'.get j = h.get j
  di : Dice d n h'
theorem Fr.trans {d n n' : Nat} {h h' h'' : MH} (a : Fr d n h h') (b : Fr d n' h' h'') : Fr d n' h h'' :=
  ⟨Nat.le_trans a.le b.le, fun j hj hd => (b.fr j (Nat.lt_of_lt_of_le hj a.le) hd).trans (a.fr j hj hd), b.di⟩
theorem Fr.put {d n : Nat} {h : MH} {a b c : Nat} {o : Ob} (e : h.get d = some o) (hb : b < 2 ^ 70) (hc : c ≤ n) : Fr d n h (h.put d (.lst [DI a, DI b, DI c])) :=
  ⟨Nat.le_refl _, fun j _ hd => MH.get_put_ne (MH.get_lt e) hd, a, b, c, MH.get_put_same e, hb, hc⟩
theorem Fr.new {d n : Nat} {h : MH} {o : Ob} (e : Dice d n h) : Fr d n h (h.new o) := by
  obtain ⟨a, b, c, e1, e2, e3⟩ := e
  exact ⟨Nat.le_succ _, fun j hj _ => MH.get_new hj, a, b, c, (MH.get_new (MH.get_lt e1)).trans e1, e2, e3⟩
theorem Dice.lt {d n : Nat} {h : MH} (e : Dice d n h) : d < h.n := by
  obtain ⟨a, b, c, e1, _⟩ := e
  exact MH.get_lt e1
theorem Dice.mono {d n n' : Nat} {h : MH} (e : Dice d n h) (hn : n ≤ n') : Dice d n' h := by
  obtain ⟨a, b, c, e1, e2, e3⟩ := e
  exact ⟨a, b, c, e1, e2, by omega⟩
theorem bi_len {i : Nat} {ds : List D} {h : MH} {R : D → MH → Prop} (e : h.get i = some (.lst ds)) (q : R (DI ds.length) h) : RO (biD .len [.ref i] h) R := by
  refine ⟨_, h, ?_, q⟩
  show (match h.get i with
    | some (.lst ds) => Res.ok (D.int ds.length) h
    | some (.dK kvs) => Res.ok (D.int kvs.length) h
    | none => .bad) = _
  rw [e]
theorem bi_tuple {i : Nat} {ds : List D} {R : D → MH → Prop} (e : h.get i = some (.lst ds)) (q : R (.tup ds) h) : RO (biD .tuple [.ref i] h) R := by
  refine ⟨_, h, ?_, q⟩
  show (match h.get i with
    | some (.lst ds) => Res.ok (D.tup ds) h
    | _ => .bad) = _
  rw [e]
theorem cat_tup {xs ys : List D} {R : D → MH → Prop} (q : R (.tup (xs ++ ys)) h) (hl : (xs ++ ys).length ≤ sizeLine) : RO (binD .add (.tup xs) (.tup ys) h) R := ro_newT q hl
theorem ix_tup {ds : List D} {t : Nat} {x : D} (e : ds[t]? = some x) : ixD h (.tup ds) (.int (t : Int)) = some x := at_nat e
theorem ix_neg {ds : List D} {i : Int} {x : D} (e : L2.atI ds i = some x) : ixD h (.tup ds) (.int i) = some x := e
theorem dice_new {X Y : Int} (hX : 0 ≤ X) (hY : 0 ≤ Y) (hY2 : Y < 2 ^ 70) : Dice h.n 0 (h.new (.lst [.int X, .int Y, .int 0])) := by
  refine ⟨X.toNat, Y.toNat, 0, ?_, ?_, Nat.le_refl _⟩
  · rw [MH.get_new_same]
    show some (Ob.lst [.int X, .int Y, .int 0]) = some (Ob.lst [.int (X.toNat : Int), .int (Y.toNat : Int), .int 0])
    rw [Int.toNat_of_nonneg hX, Int.toNat_of_nonneg hY]
  · have : Y < 1180591620717411303424 := hY2
    show Y.toNat < 1180591620717411303424
    omega
theorem pd_ints {a : Nat} {ns : List Int} (e : h.get a = some (.lst (ns.map D.int))) : pd 70 h (.ref a) = some (.list (ns.map PyData.int)) := by
  show (match h.get a with
    | some (.lst ds) => (mapO (pd 69 h) ds).map PyData.list
    | _ => none) = _
  rw [e]
  have : mapO (pd 69 h) (ns.map D.int) = some (ns.map PyData.int) := by
    clear e
    induction ns with
    | nil => rfl
    | cons n ns ih => rw [List.map_cons]; unfold mapO; rw [ih]; rfl
  show (mapO (pd 69 h) (ns.map D.int)).map PyData.list = _
  rw [this]
  rfl
theorem eq_refs {i j : Nat} {ns : List Int} (e1 : h.get i = some (.lst (ns.map D.int))) (e2 : h.get j = some (.lst (ns.map D.int))) (hs : SeqAt.shaped (.list (ns.map PyData.int)) = true) (he : PyData.eqv (.list (ns.map PyData.int)) (.list (ns.map PyData.int)) = true) :
    cmpD .eq (.ref i) (.ref j) h = some true := by
  show (match pd 70 h (.ref i), pd 70 h (.ref j) with
    | some x, some y => if SeqAt.shaped x && SeqAt.shaped y then some (PyData.eqv x y) else none
    | _, _ => none) = some true
  rw [pd_ints e1, pd_ints e2]
  show (if SeqAt.shaped (.list (ns.map PyData.int)) && SeqAt.shaped (.list (ns.map PyData.int)) then some (PyData.eqv (.list (ns.map PyData.int)) (.list (ns.map PyData.int))) else none) = some true
  rw [hs, he]
  rfl
theorem nr_ints {ns : List Int} : [D.rol (ns.map D.int)].all (noref 70) = true := by
  show ((ns.map D.int).all (noref 69) && true) = true
  have : (ns.map D.int).all (noref 69) = true := by
    rw [List.all_eq_true]
    intro d hd
    obtain ⟨m, _, rfl⟩ := List.mem_map.mp hd
    rfl
  rw [this]
  rfl
theorem ro_slr {ds : List D} {a : Nat} {R : D → MH → Prop} (ha : a < ds.length) (hl : ds.length ≤ sizeLine) (q : R (.tup (ds.drop (a + 1)).reverse) h) : RO (slrD h (.tup ds) none (some (a : Int)) (-1)) R := by
  refine ⟨.tup (ds.drop (a + 1)).reverse, h, ?_, q⟩
  show (if (-1 : Int) ≠ 0 ∧ (-1 : Int) ≠ 1 then newT h (pick ds (stepT ds.length none (some (a : Int)) (-1))) else .bad) = _
  rw [if_pos (by decide), pick_back ds ha]
  unfold newT
  rw [if_pos (by rw [List.length_reverse, List.length_drop]; omega)]
end
end MP
namespace Hd
open PySem PySem.Spec PyProof.Rows L2 MP
def top (i : Nat) : Stmt := PySem.Challenge.pw_runslips_k01_whole_numbers_orders_and_lo.main.body.getD i (.Pass ⟨0, 0, 0, 0⟩)
def mkD (x : PySem.Str) (i : Nat) : He.DefD := ⟨(x, none), x, x, defArgs (top i), defBody (top i), defScope (top i), [], []⟩
def b_is_whole : List MP.St := [.ret (.and [.isi .int (.var 0), .not (.isi .bool (.var 0))])]
def b_is_near : List MP.St := [.ret (.and [.call 0 [.var 0], .chain .lt .lt (.neg (.glo 0)) (.var 0) (.glo 0)])]
def b_is_within : List MP.St := [.ret (.and [.call 0 [.var 0], .chain .le .le (.var 1) (.var 0) (.var 2)])]
def b_common_divisor : List MP.St := [.par [2, 3] [.bi .abs [.var 0], .bi .abs [.var 1]],
  .whl (.var 3) [.par [2, 3] [.var 3, .bin .mod (.var 2) (.var 3)]],
  .ret (.var 2)]
def b_is_prime_told : List MP.St := [.ret (.and [.call 2 [.var 0, .ix (.glo 1) (.int (0)), .ix (.glo 1) (.neg (.int (1)))], .cmp .isin (.var 0) (.glo 1)])]
def b_is_number_by : List MP.St := [.ret (.call 2 [.var 1, .int (0), .bin .sub (.var 0) (.int (1))])]
def b_power_in : List MP.St := [.par [3, 4, 5] [.int (1), .bin .mod (.var 1) (.var 0), .var 2],
  .whl (.cmp .gt (.var 5) (.int (0))) [.ifs (.cmp .eq (.bin .mod (.var 5) (.glo 3)) (.int (1))) [.asg (.var 3) (.bin .mod (.bin .mul (.var 3) (.var 4)) (.var 0))] [], .par [4, 5] [.bin .mod (.bin .mul (.var 4) (.var 4)) (.var 0), .bin .fdiv (.var 5) (.glo 3)]],
  .ret (.var 3)]
def b_back_in : List MP.St := [.ret (.call 6 [.var 0, .var 1, .bin .sub (.var 0) (.glo 3)])]
def b_any_power_in : List MP.St := [.ret (.ife (.cmp .ge (.var 2) (.int (0))) (.call 6 [.var 0, .var 1, .var 2]) (.call 6 [.var 0, .call 7 [.var 0, .var 1], .neg (.var 2)]))]
def b_log_in : List MP.St := [.asg (.tup [] [.var 2, .var 3]) (.tup [false, false] [.int (1), .int (0)]),
  .whl (.cmp .ne (.var 2) (.var 1)) [.par [2, 3] [.bin .mod (.bin .mul (.var 2) (.ix (.glo 2) (.var 0))) (.var 0), .bin .add (.var 3) (.int (1))]],
  .ret (.var 3)]
def b_order_in : List MP.St := [.ret (.bin .fdiv (.bin .sub (.var 0) (.int (1))) (.call 3 [.bin .sub (.var 0) (.int (1)), .call 9 [.var 0, .var 1]]))]
def b_require_prime : List MP.St := [.ifs (.not (.call 4 [.var 0])) [.raise] []]
def b_require_number_by : List MP.St := [.ifs (.not (.call 5 [.var 0, .var 1])) [.raise] []]
def b_require_prime_and_number : List MP.St := [.expr (.call 11 [.var 0]),
  .expr (.call 12 [.var 0, .var 1])]
def b_require_not_zero : List MP.St := [.expr (.call 13 [.var 0, .var 1]),
  .ifs (.cmp .eq (.var 1) (.int (0))) [.raise] []]
def b_require_exponent : List MP.St := [.ifs (.or [.not (.call 1 [.var 0]), .and [.cmp .notN (.var 1) (.non), .cmp .lt (.var 0) (.var 1)]]) [.raise] []]
def b_root_of : List MP.St := [.expr (.call 11 [.var 0]),
  .ret (.ix (.glo 2) (.var 0))]
def b_back_by : List MP.St := [.expr (.call 14 [.var 0, .var 1]),
  .ret (.call 7 [.var 0, .var 1])]
def b_order_by : List MP.St := [.expr (.call 14 [.var 0, .var 1]),
  .ret (.call 10 [.var 0, .var 1])]
def b_log_by : List MP.St := [.expr (.call 14 [.var 0, .var 1]),
  .ret (.call 9 [.var 0, .var 1])]
def b_power_by : List MP.St := [.expr (.call 13 [.var 0, .var 1]),
  .expr (.call 15 [.var 2, .non]),
  .ifs (.and [.cmp .eq (.var 1) (.int (0)), .cmp .lt (.var 2) (.int (0))]) [.raise] [],
  .ret (.call 8 [.var 0, .var 1, .var 2])]
def b__law_dice : List MP.St := [.asg (.var 2) (.ife (.cmp .lt (.var 1) (.bi .len [.var 0])) (.bi .int [.ix (.var 0) (.var 1)]) (.bin .add (.bin .mul (.int (97)) (.var 1)) (.int (43)))),
  .asg (.var 3) (.bin .mod (.bi .max [.int (0), .bin .sub (.bi .abs [.var 2]) (.bin .pow (.int (10)) (.int (17)))]) (.bin .mul (.bin .pow (.int (10)) (.int (60))) (.bin .pow (.int (10)) (.int (60))))),
  .ret (.lst [false, false, false] [.var 3, .bin .add (.bin .add (.bin .add (.bin .mul (.bin .mod (.bi .abs [.var 2]) (.int (1152921504606846737))) (.int (37))) (.bin .mul (.int (859)) (.var 1))) (.bin .mul (.int (31)) (.bi .int [.cmp .lt (.var 2) (.int (0))]))) (.int (17)), .int (0)])]
def b__law_roll : List MP.St := [.ifs (.cmp .gt (.ix (.var 0) (.int (0))) (.int (0))) [.asg (.var 2) (.bin .mod (.bi .int [.ix (.var 0) (.int (0))]) (.var 1)), .asg (.ix (.var 0) (.int (0))) (.bin .fdiv (.ix (.var 0) (.int (0))) (.var 1)), .ret (.var 2)] [],
  .asg (.ix (.var 0) (.int (2))) (.bin .add (.ix (.var 0) (.int (2))) (.int (1))),
  .asg (.var 3) (.bin .mod (.bi .int [.bin .add (.ix (.var 0) (.int (1))) (.bin .mul (.int (15486209)) (.ix (.var 0) (.int (2))))]) (.int (2305843009213693951))),
  .asg (.var 4) (.bin .add (.bin .mul (.bin .mod (.bi .int [.bin .add (.bin .mul (.var 3) (.var 3)) (.bin .mul (.int (199)) (.ix (.var 0) (.int (2))))]) (.int (2305843009213693907))) (.int (7368751))) (.var 3)),
  .ret (.bin .mod (.bi .int [.bin .fdiv (.var 4) (.int (65536))]) (.var 1))]
def b__law_pick : List MP.St := [.ret (.ix (.var 1) (.call 22 [.var 0, .bi .len [.var 1]]))]
def b__law_is_integer : List MP.St := [.ret (.and [.isi .int (.var 0), .not (.isi .bool (.var 0)), .chain .le .le (.var 1) (.var 0) (.var 2)])]
def b__law_primes : List MP.St := [.ret (.lst [false, false, false, false, false, false] [.int (97), .int (193), .int (257), .int (769), .int (7681), .int (12289)])]
def b__law_root : List MP.St := [.ret (.ix (.dct [.int (97), .int (193), .int (257), .int (769), .int (7681), .int (12289)] [.int (5), .int (5), .int (3), .int (11), .int (17), .int (11)]) (.var 0))]
def b__law_power : List MP.St := [.par [3, 4] [.int (1), .bin .mod (.bi .int [.var 1]) (.var 0)],
  .whl (.cmp .gt (.var 2) (.int (0))) [.ifs (.cmp .eq (.bin .mod (.bi .int [.var 2]) (.int (2))) (.int (1))) [.asg (.var 3) (.bin .mod (.bi .int [.bin .mul (.var 3) (.var 4)]) (.var 0))] [], .par [4, 2] [.bin .mod (.bi .int [.bin .mul (.var 4) (.var 4)]) (.var 0), .bin .fdiv (.var 2) (.int (2))]],
  .ret (.var 3)]
def b__law_back : List MP.St := [.ret (.call 27 [.var 0, .var 1, .bin .sub (.var 0) (.int (2))])]
def b__law_order : List MP.St := [.par [2, 3] [.int (1), .var 1],
  .whl (.cmp .ne (.var 3) (.int (1))) [.par [2, 3] [.bin .add (.var 2) (.int (1)), .bin .mod (.bi .int [.bin .mul (.var 3) (.var 1)]) (.var 0)]],
  .ret (.var 2)]
def b__law_common : List MP.St := [.whl (.cmp .gt (.var 1) (.int (0))) [.par [0, 1] [.var 1, .bin .mod (.bi .int [.var 0]) (.var 1)]],
  .ret (.var 0)]
def b__law_right : List MP.St := [.asg (.var 1) (.call 23 [.var 0, .call 25 []]),
  .par [2, 3] [.bin .add (.int (1)) (.call 22 [.var 0, .bin .sub (.var 1) (.int (1))]), .bin .add (.int (1)) (.call 22 [.var 0, .bin .sub (.var 1) (.int (1))])],
  .asg (.var 4) (.call 26 [.var 1]),
  .ifs (.or [.cmp .ne (.bi .repr [.lst [false, false] [.call 16 [.var 1], .call 17 [.var 1, .var 2]]]) (.bi .repr [.lst [false, false] [.var 4, .call 28 [.var 1, .var 2]]]), .cmp .ne (.bin .mod (.bi .int [.bin .mul (.call 17 [.var 1, .var 2]) (.var 2)]) (.var 1)) (.int (1))]) [.ret (.bl false)] [],
  .asg (.var 5) (.call 23 [.var 0, .lst [false, false, false, false, false, false] [.int (0), .int (1), .bin .sub (.var 1) (.int (1)), .var 1, .call 22 [.var 0, .int (1000)], .bin .sub (.bin .sub (.bin .pow (.int (10)) (.int (60))) (.int (1))) (.call 22 [.var 0, .int (99)])]]),
  .ifs (.cmp .ne (.bi .repr [.call 20 [.var 1, .var 2, .var 5]]) (.bi .repr [.call 27 [.var 1, .var 2, .var 5]])) [.ret (.bl false)] [],
  .ifs (.or [.cmp .ne (.call 20 [.var 1, .var 2, .bin .sub (.int (0)) (.var 5)]) (.call 27 [.var 1, .call 28 [.var 1, .var 2], .var 5]), .cmp .ne (.call 20 [.var 1, .var 2, .bin .sub (.var 1) (.int (1))]) (.int (1))]) [.ret (.bl false)] [],
  .ifs (.cmp .ne (.call 20 [.var 1, .int (0), .var 5]) (.bi .int [.cmp .eq (.var 5) (.int (0))])) [.ret (.bl false)] [],
  .asg (.var 6) (.call 19 [.var 1, .var 2]),
  .ifs (.or [.not (.call 24 [.var 6, .int (0), .bin .sub (.var 1) (.int (2))]), .cmp .ne (.call 27 [.var 1, .var 4, .var 6]) (.var 2)]) [.ret (.bl false)] [],
  .asg (.var 7) (.call 18 [.var 1, .var 2]),
  .ifs (.or [.cmp .ne (.bi .repr [.var 7]) (.bi .repr [.bin .fdiv (.bin .sub (.var 1) (.int (1))) (.call 30 [.bin .sub (.var 1) (.int (1)), .var 6])]), .cmp .ne (.call 27 [.var 1, .var 2, .var 7]) (.int (1))]) [.ret (.bl false)] [],
  .ifs (.and [.cmp .lt (.var 1) (.int (800)), .cmp .ne (.var 7) (.call 29 [.var 1, .var 2])]) [.ret (.bl false)] [],
  .ret (.cmp .eq (.call 19 [.var 1, .bin .mod (.bi .int [.bin .mul (.var 2) (.var 3)]) (.var 1)]) (.bin .mod (.bi .int [.bin .add (.var 6) (.call 19 [.var 1, .var 3])]) (.bin .sub (.var 1) (.int (1)))))]
def b_law : List MP.St := [.for_ (.var 1) (.range [.bi .max [.int (1), .bi .min [.int (5), .bi .len [.var 0]]]]) [.asg (.var 2) (.call 21 [.var 0, .var 1]), .for_ (.var 3) (.range [.int (6)]) [.ifs (.not (.call 31 [.var 2])) [.ret (.bl false)] []]],
  .ifs (.or [.cmp .ne (.glo 1) (.bi .tuple [.call 25 []]), .cmp .ne (.lc (.call 18 [.var 4, .call 16 [.var 4]]) [4] (.var 4) (.itv (.glo 1)) []) (.lc (.bin .sub (.var 4) (.int (1))) [4] (.var 4) (.itv (.glo 1)) [])]) [.ret (.bl false)] [],
  .asg (.var 5) (.lst [false, false, false, false, false, false] [.call 17 [.int (97), .int (2)], .call 20 [.int (97), .int (5), .int (2)], .call 20 [.int (257), .int (3), .neg (.int (1))], .call 18 [.int (97), .int (22)], .call 18 [.int (97), .int (1)], .call 19 [.int (97), .int (25)]]),
  .asg (.var 5) (.bin .add (.var 5) (.lst [false, false, false, false] [.call 20 [.int (97), .int (0), .int (0)], .call 17 [.int (12289), .int (12288)], .call 19 [.int (12289), .int (1)], .call 18 [.int (7681), .int (7680)]])),
  .ret (.cmp .eq (.var 5) (.lst [false, false, false, false, false, false, false, false, false, false] [.int (49), .int (25), .int (86), .int (4), .int (1), .int (2), .int (1), .int (12288), .int (0), .int (2)]))]
def cs : List (PySem.Str × MP.D) := [("FAR", (.int (1000000000000000000000000000000000000000000000000000000000000))), ("PRIMES", (.tup [(.int (97)), (.int (193)), (.int (257)), (.int (769)), (.int (7681)), (.int (12289))])), ("ROOTS", (.rod [.inl (97), .inl (193), .inl (257), .inl (769), .inl (7681), .inl (12289)] [(.int (5)), (.int (5)), (.int (3)), (.int (11)), (.int (17)), (.int (11))])), ("TWO", (.int (2)))]
def fr : List PySem.Str := ["abs", "bool", "int", "isinstance", "len", "max", "min", "range", "repr", "tuple"]
def s_is_whole : Src := ⟨mkD "is_whole" 6, ["value"], ["value"], true, b_is_whole⟩
def s_is_near : Src := ⟨mkD "is_near" 7, ["value"], ["value"], true, b_is_near⟩
def s_is_within : Src := ⟨mkD "is_within" 8, ["value", "least", "most"], ["value", "least", "most"], true, b_is_within⟩
def s_common_divisor : Src := ⟨mkD "common_divisor" 9, ["one", "other"], ["one", "other", "left", "right"], true, b_common_divisor⟩
def s_is_prime_told : Src := ⟨mkD "is_prime_told" 14, ["value"], ["value"], true, b_is_prime_told⟩
def s_is_number_by : Src := ⟨mkD "is_number_by" 15, ["p", "value"], ["p", "value"], true, b_is_number_by⟩
def s_power_in : Src := ⟨mkD "power_in" 16, ["p", "a", "n"], ["p", "a", "n", "found", "square", "left"], true, b_power_in⟩
def s_back_in : Src := ⟨mkD "back_in" 17, ["p", "a"], ["p", "a"], true, b_back_in⟩
def s_any_power_in : Src := ⟨mkD "any_power_in" 18, ["p", "a", "n"], ["p", "a", "n"], true, b_any_power_in⟩
def s_log_in : Src := ⟨mkD "log_in" 19, ["p", "a"], ["p", "a", "here", "found"], true, b_log_in⟩
def s_order_in : Src := ⟨mkD "order_in" 20, ["p", "a"], ["p", "a"], true, b_order_in⟩
def s_require_prime : Src := ⟨mkD "require_prime" 21, ["p"], ["p"], true, b_require_prime⟩
def s_require_number_by : Src := ⟨mkD "require_number_by" 22, ["p", "a"], ["p", "a"], true, b_require_number_by⟩
def s_require_prime_and_number : Src := ⟨mkD "require_prime_and_number" 23, ["p", "a"], ["p", "a"], true, b_require_prime_and_number⟩
def s_require_not_zero : Src := ⟨mkD "require_not_zero" 24, ["p", "a"], ["p", "a"], true, b_require_not_zero⟩
def s_require_exponent : Src := ⟨mkD "require_exponent" 25, ["n", "least"], ["n", "least"], true, b_require_exponent⟩
def s_root_of : Src := ⟨mkD "root_of" 26, ["p"], ["p"], true, b_root_of⟩
def s_back_by : Src := ⟨mkD "back_by" 27, ["p", "a"], ["p", "a"], true, b_back_by⟩
def s_order_by : Src := ⟨mkD "order_by" 28, ["p", "a"], ["p", "a"], true, b_order_by⟩
def s_log_by : Src := ⟨mkD "log_by" 29, ["p", "a"], ["p", "a"], true, b_log_by⟩
def s_power_by : Src := ⟨mkD "power_by" 30, ["p", "a", "n"], ["p", "a", "n"], true, b_power_by⟩
def s__law_dice : Src := ⟨mkD "_law_dice" 32, ["script", "spot"], ["script", "spot", "cell", "left"], false, b__law_dice⟩
def s__law_roll : Src := ⟨mkD "_law_roll" 33, ["dice", "total"], ["dice", "total", "found", "one", "two"], false, b__law_roll⟩
def s__law_pick : Src := ⟨mkD "_law_pick" 34, ["dice", "items"], ["dice", "items"], false, b__law_pick⟩
def s__law_is_integer : Src := ⟨mkD "_law_is_integer" 35, ["value", "least", "most"], ["value", "least", "most"], true, b__law_is_integer⟩
def s__law_primes : Src := ⟨mkD "_law_primes" 36, [], [], false, b__law_primes⟩
def s__law_root : Src := ⟨mkD "_law_root" 37, ["p"], ["p"], true, b__law_root⟩
def s__law_power : Src := ⟨mkD "_law_power" 38, ["p", "a", "n"], ["p", "a", "n", "found", "step"], true, b__law_power⟩
def s__law_back : Src := ⟨mkD "_law_back" 39, ["p", "a"], ["p", "a"], true, b__law_back⟩
def s__law_order : Src := ⟨mkD "_law_order" 40, ["p", "a"], ["p", "a", "found", "here"], true, b__law_order⟩
def s__law_common : Src := ⟨mkD "_law_common" 41, ["one", "other"], ["one", "other"], true, b__law_common⟩
def s__law_right : Src := ⟨mkD "_law_right" 42, ["dice"], ["dice", "p", "a", "b", "g", "n", "log", "order"], false, b__law_right⟩
def s_law : Src := ⟨mkD "law" 43, ["script"], ["script", "spot", "dice", "turn", "p", "told"], true, b_law⟩
def srcs : List Src := [s_is_whole, s_is_near, s_is_within, s_common_divisor, s_is_prime_told, s_is_number_by, s_power_in, s_back_in, s_any_power_in, s_log_in, s_order_in, s_require_prime, s_require_number_by, s_require_prime_and_number, s_require_not_zero, s_require_exponent, s_root_of, s_back_by, s_order_by, s_log_by, s_power_by, s__law_dice, s__law_roll, s__law_pick, s__law_is_integer, s__law_primes, s__law_root, s__law_power, s__law_back, s__law_order, s__law_common, s__law_right, s_law]
def G : GT := gtOf fr cs srcs
def P : MP.Prog := progOf cs srcs
theorem ok_is_whole : SrcOk G s_is_whole := ⟨⟨rfl, rfl, rfl, by decide +kernel, rfl, by decide +kernel, by decide +kernel⟩, ⟨60, by kernel_rfl⟩, rfl, fun _ _ _ _ _ _ us hl => match us, hl with | [_], _ => rfl⟩
theorem ok_is_near : SrcOk G s_is_near := ⟨⟨rfl, rfl, rfl, by decide +kernel, rfl, by decide +kernel, by decide +kernel⟩, ⟨60, by kernel_rfl⟩, rfl, fun _ _ _ _ _ _ us hl => match us, hl with | [_], _ => rfl⟩
theorem ok_is_within : SrcOk G s_is_within := ⟨⟨rfl, rfl, rfl, by decide +kernel, rfl, by decide +kernel, by decide +kernel⟩, ⟨60, by kernel_rfl⟩, rfl, fun _ _ _ _ _ _ us hl => match us, hl with | [_, _, _], _ => rfl⟩
theorem ok_common_divisor : SrcOk G s_common_divisor := ⟨⟨rfl, rfl, rfl, by decide +kernel, rfl, by decide +kernel, by decide +kernel⟩, ⟨60, by kernel_rfl⟩, rfl, fun _ _ _ _ _ _ us hl => match us, hl with | [_, _], _ => rfl⟩
theorem ok_is_prime_told : SrcOk G s_is_prime_told := ⟨⟨rfl, rfl, rfl, by decide +kernel, rfl, by decide +kernel, by decide +kernel⟩, ⟨60, by kernel_rfl⟩, rfl, fun _ _ _ _ _ _ us hl => match us, hl with | [_], _ => rfl⟩
theorem ok_is_number_by : SrcOk G s_is_number_by := ⟨⟨rfl, rfl, rfl, by decide +kernel, rfl, by decide +kernel, by decide +kernel⟩, ⟨60, by kernel_rfl⟩, rfl, fun _ _ _ _ _ _ us hl => match us, hl with | [_, _], _ => rfl⟩
theorem ok_power_in : SrcOk G s_power_in := ⟨⟨rfl, rfl, rfl, by decide +kernel, rfl, by decide +kernel, by decide +kernel⟩, ⟨60, by kernel_rfl⟩, rfl, fun _ _ _ _ _ _ us hl => match us, hl with | [_, _, _], _ => rfl⟩
theorem ok_back_in : SrcOk G s_back_in := ⟨⟨rfl, rfl, rfl, by decide +kernel, rfl, by decide +kernel, by decide +kernel⟩, ⟨60, by kernel_rfl⟩, rfl, fun _ _ _ _ _ _ us hl => match us, hl with | [_, _], _ => rfl⟩
theorem ok_any_power_in : SrcOk G s_any_power_in := ⟨⟨rfl, rfl, rfl, by decide +kernel, rfl, by decide +kernel, by decide +kernel⟩, ⟨60, by kernel_rfl⟩, rfl, fun _ _ _ _ _ _ us hl => match us, hl with | [_, _, _], _ => rfl⟩
theorem ok_log_in : SrcOk G s_log_in := ⟨⟨rfl, rfl, rfl, by decide +kernel, rfl, by decide +kernel, by decide +kernel⟩, ⟨60, by kernel_rfl⟩, rfl, fun _ _ _ _ _ _ us hl => match us, hl with | [_, _], _ => rfl⟩
theorem ok_order_in : SrcOk G s_order_in := ⟨⟨rfl, rfl, rfl, by decide +kernel, rfl, by decide +kernel, by decide +kernel⟩, ⟨60, by kernel_rfl⟩, rfl, fun _ _ _ _ _ _ us hl => match us, hl with | [_, _], _ => rfl⟩
theorem ok_require_prime : SrcOk G s_require_prime := ⟨⟨rfl, rfl, rfl, by decide +kernel, rfl, by decide +kernel, by decide +kernel⟩, ⟨60, by kernel_rfl⟩, rfl, fun _ _ _ _ _ _ us hl => match us, hl with | [_], _ => rfl⟩
theorem ok_require_number_by : SrcOk G s_require_number_by := ⟨⟨rfl, rfl, rfl, by decide +kernel, rfl, by decide +kernel, by decide +kernel⟩, ⟨60, by kernel_rfl⟩, rfl, fun _ _ _ _ _ _ us hl => match us, hl with | [_, _], _ => rfl⟩
theorem ok_require_prime_and_number : SrcOk G s_require_prime_and_number := ⟨⟨rfl, rfl, rfl, by decide +kernel, rfl, by decide +kernel, by decide +kernel⟩, ⟨60, by kernel_rfl⟩, rfl, fun _ _ _ _ _ _ us hl => match us, hl with | [_, _], _ => rfl⟩
theorem ok_require_not_zero : SrcOk G s_require_not_zero := ⟨⟨rfl, rfl, rfl, by decide +kernel, rfl, by decide +kernel, by decide +kernel⟩, ⟨60, by kernel_rfl⟩, rfl, fun _ _ _ _ _ _ us hl => match us, hl with | [_, _], _ => rfl⟩
theorem ok_require_exponent : SrcOk G s_require_exponent := ⟨⟨rfl, rfl, rfl, by decide +kernel, rfl, by decide +kernel, by decide +kernel⟩, ⟨60, by kernel_rfl⟩, rfl, fun _ _ _ _ _ _ us hl => match us, hl with | [_, _], _ => rfl⟩
theorem ok_root_of : SrcOk G s_root_of := ⟨⟨rfl, rfl, rfl, by decide +kernel, rfl, by decide +kernel, by decide +kernel⟩, ⟨60, by kernel_rfl⟩, rfl, fun _ _ _ _ _ _ us hl => match us, hl with | [_], _ => rfl⟩
theorem ok_back_by : SrcOk G s_back_by := ⟨⟨rfl, rfl, rfl, by decide +kernel, rfl, by decide +kernel, by decide +kernel⟩, ⟨60, by kernel_rfl⟩, rfl, fun _ _ _ _ _ _ us hl => match us, hl with | [_, _], _ => rfl⟩
theorem ok_order_by : SrcOk G s_order_by := ⟨⟨rfl, rfl, rfl, by decide +kernel, rfl, by decide +kernel, by decide +kernel⟩, ⟨60, by kernel_rfl⟩, rfl, fun _ _ _ _ _ _ us hl => match us, hl with | [_, _], _ => rfl⟩
theorem ok_log_by : SrcOk G s_log_by := ⟨⟨rfl, rfl, rfl, by decide +kernel, rfl, by decide +kernel, by decide +kernel⟩, ⟨60, by kernel_rfl⟩, rfl, fun _ _ _ _ _ _ us hl => match us, hl with | [_, _], _ => rfl⟩
theorem ok_power_by : SrcOk G s_power_by := ⟨⟨rfl, rfl, rfl, by decide +kernel, rfl, by decide +kernel, by decide +kernel⟩, ⟨60, by kernel_rfl⟩, rfl, fun _ _ _ _ _ _ us hl => match us, hl with | [_, _, _], _ => rfl⟩
theorem ok__law_dice : SrcOk G s__law_dice := ⟨⟨rfl, rfl, rfl, by decide +kernel, rfl, by decide +kernel, by decide +kernel⟩, ⟨60, by kernel_rfl⟩, rfl, fun _ _ _ _ _ _ us hl => match us, hl with | [_, _], _ => rfl⟩
theorem ok__law_roll : SrcOk G s__law_roll := ⟨⟨rfl, rfl, rfl, by decide +kernel, rfl, by decide +kernel, by decide +kernel⟩, ⟨60, by kernel_rfl⟩, rfl, fun _ _ _ _ _ _ us hl => match us, hl with | [_, _], _ => rfl⟩
theorem ok__law_pick : SrcOk G s__law_pick := ⟨⟨rfl, rfl, rfl, by decide +kernel, rfl, by decide +kernel, by decide +kernel⟩, ⟨60, by kernel_rfl⟩, rfl, fun _ _ _ _ _ _ us hl => match us, hl with | [_, _], _ => rfl⟩
theorem ok__law_is_integer : SrcOk G s__law_is_integer := ⟨⟨rfl, rfl, rfl, by decide +kernel, rfl, by decide +kernel, by decide +kernel⟩, ⟨60, by kernel_rfl⟩, rfl, fun _ _ _ _ _ _ us hl => match us, hl with | [_, _, _], _ => rfl⟩
theorem ok__law_primes : SrcOk G s__law_primes := ⟨⟨rfl, rfl, rfl, by decide +kernel, rfl, by decide +kernel, by decide +kernel⟩, ⟨60, by kernel_rfl⟩, rfl, fun _ _ _ _ _ _ us hl => match us, hl with | [], _ => rfl⟩
theorem ok__law_root : SrcOk G s__law_root := ⟨⟨rfl, rfl, rfl, by decide +kernel, rfl, by decide +kernel, by decide +kernel⟩, ⟨60, by kernel_rfl⟩, rfl, fun _ _ _ _ _ _ us hl => match us, hl with | [_], _ => rfl⟩
theorem ok__law_power : SrcOk G s__law_power := ⟨⟨rfl, rfl, rfl, by decide +kernel, rfl, by decide +kernel, by decide +kernel⟩, ⟨60, by kernel_rfl⟩, rfl, fun _ _ _ _ _ _ us hl => match us, hl with | [_, _, _], _ => rfl⟩
theorem ok__law_back : SrcOk G s__law_back := ⟨⟨rfl, rfl, rfl, by decide +kernel, rfl, by decide +kernel, by decide +kernel⟩, ⟨60, by kernel_rfl⟩, rfl, fun _ _ _ _ _ _ us hl => match us, hl with | [_, _], _ => rfl⟩
theorem ok__law_order : SrcOk G s__law_order := ⟨⟨rfl, rfl, rfl, by decide +kernel, rfl, by decide +kernel, by decide +kernel⟩, ⟨60, by kernel_rfl⟩, rfl, fun _ _ _ _ _ _ us hl => match us, hl with | [_, _], _ => rfl⟩
theorem ok__law_common : SrcOk G s__law_common := ⟨⟨rfl, rfl, rfl, by decide +kernel, rfl, by decide +kernel, by decide +kernel⟩, ⟨60, by kernel_rfl⟩, rfl, fun _ _ _ _ _ _ us hl => match us, hl with | [_, _], _ => rfl⟩
theorem ok__law_right : SrcOk G s__law_right := ⟨⟨rfl, rfl, rfl, by decide +kernel, rfl, by decide +kernel, by decide +kernel⟩, ⟨60, by kernel_rfl⟩, rfl, fun _ _ _ _ _ _ us hl => match us, hl with | [_], _ => rfl⟩
theorem ok_law : SrcOk G s_law := ⟨⟨rfl, rfl, rfl, by decide +kernel, rfl, by decide +kernel, by decide +kernel⟩, ⟨60, by kernel_rfl⟩, rfl, fun _ _ _ _ _ _ us hl => match us, hl with | [_], _ => rfl⟩
theorem ok_all : ∀ s ∈ srcs, SrcOk G s := by
  intro s hs
  simp only [srcs, List.mem_cons, List.not_mem_nil, or_false] at hs
  rcases hs with rfl | rfl | rfl | rfl | rfl | rfl | rfl | rfl | rfl | rfl | rfl | rfl | rfl | rfl | rfl | rfl | rfl | rfl | rfl | rfl | rfl | rfl | rfl | rfl | rfl | rfl | rfl | rfl | rfl | rfl | rfl | rfl | rfl
  · exact ok_is_whole
  · exact ok_is_near
  · exact ok_is_within
  · exact ok_common_divisor
  · exact ok_is_prime_told
  · exact ok_is_number_by
  · exact ok_power_in
  · exact ok_back_in
  · exact ok_any_power_in
  · exact ok_log_in
  · exact ok_order_in
  · exact ok_require_prime
  · exact ok_require_number_by
  · exact ok_require_prime_and_number
  · exact ok_require_not_zero
  · exact ok_require_exponent
  · exact ok_root_of
  · exact ok_back_by
  · exact ok_order_by
  · exact ok_log_by
  · exact ok_power_by
  · exact ok__law_dice
  · exact ok__law_roll
  · exact ok__law_pick
  · exact ok__law_is_integer
  · exact ok__law_primes
  · exact ok__law_root
  · exact ok__law_power
  · exact ok__law_back
  · exact ok__law_order
  · exact ok__law_common
  · exact ok__law_right
  · exact ok_law
def loose0 : List PySem.Str := (["SlipError", "InvalidOperation", "InvalidNumber", "FAR", "is_whole", "is_near", "is_within", "common_divisor", "PRIMES", "ROOTS", "TWO", "is_prime_told", "is_number_by", "power_in", "back_in", "any_power_in", "log_in", "order_in", "require_prime", "require_number_by", "require_prime_and_number", "require_not_zero", "require_exponent", "root_of", "back_by"] : List String).map PySem.Str.ofString
def loose1 : List PySem.Str := (["order_by", "log_by", "power_by", "_law_dice", "_law_roll", "_law_pick", "_law_is_integer", "_law_primes", "_law_root", "_law_power", "_law_back", "_law_order", "_law_common", "_law_right"] : List String).map PySem.Str.ofString
def loose : List PySem.Str := loose0 ++ loose1
abbrev R : PySem.W.OpenRow := PySem.W.OpenLaw.row PySem.Challenge.rw_runslips_k01_whole_numbers_orders_and_lo
abbrev hk : PySem.W.Hook := hookM 4 fr cs (srcs.map (·.d))
def ob (s : PySem.W.SharedT) : He.AlD := obsMG 4 fr cs (srcs.map (·.d)) (HandSHeadRun.getT s)
theorem ob_eq (s : PySem.W.SharedT) : ob s = hk.obs s.abs := obsMG_eq (HandSHeadRun.getT_eq s)
theorem run (w : World) : HandSHeadRun.RunEq R (PySem.W.view R.prog [43]) hk ob 6000 loose w := by
  refine PySem.W.byRow2 "special-get-raises" (P := fun w => HandSHeadRun.RunEq R (PySem.W.view R.prog [43]) hk ob 6000 loose w) (fun w => ?_) (fun w => ?_) w <;> (intro os; kernel_rfl)
abbrev lawIx : Nat := 32
abbrev lawTop : Nat := 43
theorem facts {prog : Program} {w : World} {K : PySem.W.Frag} {h : Heap} {mg : PySem.Str → Option Value} {f : Addr} {k : Nat} (X : K.In h) (Gm : h.Ns mainGlobals mg) (hfa : mg ("law" : PySem.Str) = some (.ref f)) (c : SaysM fr cs (srcs.map (·.d)) K) :
    ∃ fd : FuncData, (∀ (s : Shared) (v : Value), BindsTo s fd ⟨[v], []⟩ [("script", v)]) ∧ ∀ base : Heap, K.In base → base.Ns mainGlobals mg → ∀ N, FnG prog w K mg base (k + 1) f fd ["script"] (spF K noT (evk P N (k + 1)) 1 lawIx) := by
  obtain ⟨fd, F⟩ := c.def_ lawIx (d := s_law.d) rfl
  have e := hfa.symm.trans (c.glo X Gm (d := s_law.d) (List.mem_of_getElem? (i := lawIx) rfl))
  cases e
  have b := FunD.bindsA (ps := ["script"]) (show FunD K _ _ _ _ _ [] _ _ fd from F) ok_law.bind
  refine ⟨fd, fun s v => b s [v] rfl, fun base hK hG N => ?_⟩
  exact ok_src (i := lawIx) (levels c hK hG ok_all k) rfl ok_law F
end Hd
namespace NT
/-- b^e mod p, by squares -/
def pm (p : Nat) : Nat → Nat → Nat → Nat
  | 0, _, _ => 1 % p
  | f + 1, b, e => if e = 0 then 1 % p else if e % 2 = 1 then b * pm p f (b * b % p) (e / 2) % p else pm p f (b * b % p) (e / 2)
theorem pm_ok (p : Nat) : ∀ (f b e : Nat), e < 2 ^ f → pm p f b e = b ^ e % p := by
  intro f
  induction f with
  | zero =>
    intro b e h
    have : e = 0 := by simpa using h
    subst this
    rfl
  | succ f ih =>
    intro b e h
    have h2 : e / 2 < 2 ^ f := by
      rw [Nat.pow_succ] at h
      omega
    unfold pm
    by_cases h0 : e = 0
    · subst h0; rfl
    · rw [if_neg h0]
      have key : (b * b % p) ^ (e / 2) % p = b ^ (2 * (e / 2)) % p := by
        rw [← Nat.pow_mod, ← Nat.pow_two, ← Nat.pow_mul]
      by_cases h1 : e % 2 = 1
      · rw [if_pos h1, ih _ _ h2, key, Nat.mul_mod, Nat.mod_mod, ← Nat.mul_mod]
        have : e = 2 * (e / 2) + 1 := by omega
        conv => rhs; rw [this, Nat.pow_succ, Nat.mul_comm]
      · rw [if_neg h1, ih _ _ h2, key]
        have : 2 * (e / 2) = e := by omega
        rw [this]
/-- a row of unlike numbers below n is no longer than n -/
theorem nodup_len : ∀ (n : Nat) (l : List Nat), l.Nodup → (∀ x ∈ l, x < n) → l.length ≤ n := by
  intro n
  induction n with
  | zero =>
    intro l _ h
    cases l with
    | nil => exact Nat.le_refl _
    | cons x l => exact absurd (h x (List.mem_cons_self ..)) (Nat.not_lt_zero _)
  | succ n ih =>
    intro l hl h
    by_cases hm : n ∈ l
    · have h1 : (l.erase n).length = l.length - 1 := List.length_erase_of_mem hm
      have h2 := ih (l.erase n) (hl.erase n) fun x hx => by
        have hx' := (List.Nodup.mem_erase_iff hl).mp hx
        have := h x hx'.2
        omega
      have h3 : 0 < l.length := List.length_pos_of_mem hm
      omega
    · have := ih l hl fun x hx => by
        have h1 := h x hx
        have h2 : x ≠ n := fun e => hm (e ▸ hx)
        omega
      omega
section
variable {p g n : Nat}
theorem pow_add_mul (hp : g ^ n % p = 1 % p) (i t : Nat) : g ^ (i + t * n) % p = g ^ i % p := by
  induction t with
  | zero => simp
  | succ t ih =>
    rw [show i + (t + 1) * n = (i + t * n) + n by rw [Nat.add_mul]; omega, Nat.pow_add, Nat.mul_mod, ih, hp, ← Nat.mul_mod, Nat.mul_one]
/-- the powers of g come to 1 at the common divisor, too -/
theorem pow_gcd (hg : g ^ n % p = 1 % p) : ∀ (a b : Nat), g ^ a % p = 1 % p → g ^ b % p = 1 % p → g ^ (Nat.gcd a b) % p = 1 % p := by
  intro a b
  induction a, b using Nat.gcd.induction with
  | H0 b => intro _ h; rw [Nat.gcd_zero_left]; exact h
  | H1 a b ha ih =>
    intro h1 h2
    rw [Nat.gcd_rec]
    refine ih ?_ h1
    have e : b = b % a + b / a * a := by have := Nat.mod_add_div b a; rw [Nat.mul_comm] at this; omega
    have z := pow_add_mul (g := g) (n := a) (p := p) h1 (b % a) (b / a)
    rw [← e] at z
    rw [← z]
    exact h2
/-- q divides what divides n and is not 1, for some q of the row -/
def prB (q : Nat) : Bool := (List.range q).all fun d => d = 0 || d = 1 || q % d != 0
theorem prB_ok {q m : Nat} (h : prB q = true) (hq : 1 < q) (hm : ¬ q ∣ m) : Nat.Coprime m q := by
  have hd : Nat.gcd m q ∣ q := Nat.gcd_dvd_right m q
  have hle : Nat.gcd m q ≤ q := Nat.le_of_dvd (by omega) hd
  by_cases e : Nat.gcd m q = q
  · exact absurd (e ▸ Nat.gcd_dvd_left m q) hm
  · have hlt : Nat.gcd m q < q := by omega
    have := List.all_eq_true.mp h _ (List.mem_range.mpr hlt)
    simp only [Bool.or_eq_true, decide_eq_true_eq, bne_iff_ne] at this
    rcases this with (z | z) | z
    · rw [Nat.gcd_eq_zero_iff] at z; omega
    · exact z
    · exact absurd (Nat.mod_eq_zero_of_dvd hd) z
theorem dvd_row : ∀ (qs : List Nat) (m : Nat), (∀ q ∈ qs, prB q = true ∧ 1 < q) → m ∣ qs.foldr (· * ·) 1 → m ≠ 1 → ∃ q ∈ qs, q ∣ m := by
  intro qs
  induction qs with
  | nil =>
    intro m _ h h1
    exact absurd (Nat.dvd_one.mp h) h1
  | cons q qs ih =>
    intro m hq h h1
    by_cases hd : q ∣ m
    · exact ⟨q, List.mem_cons_self .., hd⟩
    · obtain ⟨q1, q2⟩ := hq q (List.mem_cons_self ..)
      obtain ⟨r, r1, r2⟩ := ih m (fun x hx => hq x (List.mem_cons_of_mem _ hx)) ((prB_ok q1 q2 hd).dvd_of_dvd_mul_left h) h1
      exact ⟨r, List.mem_cons_of_mem _ r1, r2⟩
/-- g's powers: all of the numbers 1 .. p - 1 -/
structure Root (p g n : Nat) (qs : List Nat) : Prop where
  np : n + 1 = p
  n0 : 1 < n
  row : qs.foldr (· * ·) 1 = n
  pr : ∀ q ∈ qs, prB q = true ∧ 1 < q
  one : g ^ n % p = 1
  not1 : ∀ q ∈ qs, g ^ (n / q) % p ≠ 1
variable {qs : List Nat}
theorem Root.p1 (R : Root p g n qs) : 1 % p = 1 := Nat.mod_eq_of_lt (by have := R.np; have := R.n0; omega)
theorem Root.low (R : Root p g n qs) {e : Nat} (h0 : 0 < e) (h1 : e < n) : g ^ e % p ≠ 1 := by
  intro h
  have hn : g ^ n % p = 1 % p := by rw [R.p1]; exact R.one
  have hg := pow_gcd hn e n (by rw [R.p1]; exact h) hn
  have hd : Nat.gcd e n ∣ n := Nat.gcd_dvd_right e n
  have hle : Nat.gcd e n ≤ e := Nat.le_of_dvd h0 (Nat.gcd_dvd_left e n)
  have hpos : 0 < Nat.gcd e n := Nat.gcd_pos_of_pos_left n h0
  obtain ⟨m, hm⟩ := hd
  have hm1 : m ≠ 1 := by rintro rfl; omega
  obtain ⟨q, hq, t, ht⟩ := dvd_row qs m R.pr (by rw [R.row]; exact ⟨_, by rw [Nat.mul_comm]; exact hm⟩) hm1
  refine R.not1 q hq ?_
  have hq0 : 0 < q := by have := (R.pr q hq).2; omega
  have e0 : n = q * (Nat.gcd e n * t) := by
    conv => lhs; rw [hm, ht, Nat.mul_left_comm]
  have e1 : n / q = Nat.gcd e n * t := Nat.div_eq_of_eq_mul_right hq0 e0
  rw [e1, Nat.pow_mul, Nat.pow_mod, hg, R.p1, Nat.one_pow, R.p1]
theorem Root.inj (R : Root p g n qs) {i j : Nat} (hij : i < j) (hj : j < n) : g ^ i % p ≠ g ^ j % p := by
  intro h
  have hn : g ^ n % p = 1 := R.one
  refine R.low (e := j - i) (by omega) (by omega) ?_
  have e1 : g ^ (j + (n - i)) % p = g ^ (j - i) % p := by
    have := pow_add_mul (g := g) (n := n) (p := p) (by rw [R.p1]; exact hn) (j - i) 1
    rw [show j + (n - i) = j - i + 1 * n by omega]
    exact this
  have e2 : g ^ (i + (n - i)) % p = g ^ (j + (n - i)) % p := by
    rw [Nat.pow_add, Nat.mul_mod, h, ← Nat.mul_mod, ← Nat.pow_add]
  rw [← e1, ← e2, show i + (n - i) = n by omega]
  exact hn
theorem Root.pos (R : Root p g n qs) {i : Nat} (hi : i < n) : g ^ i % p ≠ 0 := by
  intro h
  have hn : g ^ n % p = 1 := R.one
  have : g ^ (i + (n - i)) % p = 0 := by rw [Nat.pow_add, Nat.mul_mod, h, Nat.zero_mul, Nat.zero_mod]
  rw [show i + (n - i) = n by omega, hn] at this
  cases this
theorem nodup_map {f : Nat → Nat} {m : Nat} (h : ∀ i j, i < j → j < m → f i ≠ f j) : ((List.range m).map f).Nodup := by
  rw [List.nodup_iff_pairwise_ne, List.pairwise_map]
  have := List.pairwise_lt_range (n := m)
  rw [List.pairwise_iff_forall_sublist] at this ⊢
  intro a b hs
  have hb : b ∈ List.range m := hs.subset (by simp)
  exact h a b (this hs) (List.mem_range.mp hb)
theorem Root.onto (R : Root p g n qs) {x : Nat} (h0 : 0 < x) (hx : x < p) : ∃ i, i < n ∧ g ^ i % p = x := by
  by_cases hm : x ∈ (List.range n).map fun i => g ^ i % p
  · obtain ⟨i, h1, h2⟩ := List.mem_map.mp hm
    exact ⟨i, List.mem_range.mp h1, h2⟩
  · exfalso
    have nd : (0 :: x :: (List.range n).map fun i => g ^ i % p).Nodup := by
      refine List.nodup_cons.mpr ⟨?_, List.nodup_cons.mpr ⟨hm, nodup_map fun i j hij hj => R.inj hij hj⟩⟩
      intro h
      rcases List.mem_cons.mp h with h | h
      · omega
      · obtain ⟨i, h1, h2⟩ := List.mem_map.mp h
        exact R.pos (List.mem_range.mp h1) h2
    have hp0 : 0 < p := by omega
    have := nodup_len p _ nd fun y hy => by
      rcases List.mem_cons.mp hy with h | hy
      · omega
      · rcases List.mem_cons.mp hy with h | hy
        · omega
        · obtain ⟨i, _, h2⟩ := List.mem_map.mp hy
          rw [← h2]
          exact Nat.mod_lt _ hp0
    simp at this
    have := R.np
    omega
/-- Fermat -/
theorem Root.pow (R : Root p g n qs) {x : Nat} (hx : x < p) (t : Nat) : x ^ (1 + t * n) % p = x := by
  by_cases h0 : x = 0
  · subst h0
    rw [Nat.zero_pow (by omega)]
    exact Nat.zero_mod _
  · obtain ⟨i, hi, rfl⟩ := R.onto (by omega) hx
    rw [← Nat.pow_mod, ← Nat.pow_mul, show i * (1 + t * n) = i + i * t * n by rw [Nat.mul_add, Nat.mul_one, Nat.mul_assoc]]
    exact pow_add_mul (by rw [R.p1]; exact R.one) i (i * t)
end
end NT

namespace NT
section
variable {p g n : Nat} {qs : List Nat}
theorem Root.mk' (np : n + 1 = p) (n0 : 1 < n) (row : qs.foldr (· * ·) 1 = n) (pr : ∀ q ∈ qs, prB q = true ∧ 1 < q) (hn : n < 2 ^ 20) (one : pm p 20 g n = 1) (not1 : ∀ q ∈ qs, pm p 20 g (n / q) ≠ 1) : Root p g n qs where
  np := np
  n0 := n0
  row := row
  pr := pr
  one := by rw [← pm_ok p 20 g _ hn]; exact one
  not1 := fun q hq h => not1 q hq (by rw [pm_ok p 20 g _ (Nat.lt_of_le_of_lt (Nat.div_le_self _ _) hn)]; exact h)
theorem Root.dvd (R : Root p g n qs) {e : Nat} (h : g ^ e % p = 1) : n ∣ e := by
  have hn : g ^ n % p = 1 % p := by rw [R.p1]; exact R.one
  have e0 : e = e % n + (e / n) * n := by rw [Nat.mul_comm]; exact (Nat.mod_add_div e n).symm
  have h1 : g ^ (e % n) % p = 1 := by
    rw [← pow_add_mul hn (e % n) (e / n), ← e0]
    exact h
  by_cases hz : e % n = 0
  · exact Nat.dvd_of_mod_eq_zero hz
  · exact absurd h1 (R.low (Nat.pos_of_ne_zero hz) (Nat.mod_lt _ (by have := R.n0; omega)))
theorem Root.of_dvd (R : Root p g n qs) {e : Nat} (h : n ∣ e) : g ^ e % p = 1 := by
  have hn : g ^ n % p = 1 % p := by rw [R.p1]; exact R.one
  obtain ⟨t, rfl⟩ := h
  have := pow_add_mul hn 0 t
  rw [Nat.zero_add, Nat.mul_comm t n, Nat.pow_zero, R.p1] at this
  exact this
theorem Root.mod (R : Root p g n qs) (e : Nat) : g ^ (e % n) % p = g ^ e % p := by
  have hn : g ^ n % p = 1 % p := by rw [R.p1]; exact R.one
  rw [← pow_add_mul hn (e % n) (e / n)]
  congr 2
  rw [Nat.mul_comm]
  exact Nat.mod_add_div e n
/-- how often a power of the root is multiplied till 1 comes -/
theorem ord_iff {i m : Nat} (hn : 0 < n) : n ∣ i * m ↔ n / Nat.gcd n i ∣ m := by
  have hg : 0 < Nat.gcd n i := Nat.gcd_pos_of_pos_left i hn
  obtain ⟨a, ha⟩ := Nat.gcd_dvd_left n i
  obtain ⟨b, hb⟩ := Nat.gcd_dvd_right n i
  have hc : Nat.Coprime (n / Nat.gcd n i) (i / Nat.gcd n i) := Nat.coprime_div_gcd_div_gcd hg
  have e1 : n / Nat.gcd n i = a := Nat.div_eq_of_eq_mul_right hg ha
  have e2 : i / Nat.gcd n i = b := Nat.div_eq_of_eq_mul_right hg hb
  rw [e1, e2] at hc
  rw [e1]
  constructor
  · intro h
    have h2 : Nat.gcd n i * a ∣ Nat.gcd n i * (b * m) := by
      rw [← ha, ← Nat.mul_assoc, ← hb]
      exact h
    exact hc.dvd_of_dvd_mul_left (Nat.dvd_of_mul_dvd_mul_left hg h2)
  · rintro ⟨t, rfl⟩
    refine ⟨b * t, ?_⟩
    conv => lhs; rw [hb]
    conv => rhs; rw [ha]
    simp only [Nat.mul_assoc, Nat.mul_left_comm, Nat.mul_comm]
end
def Prm (p g : Nat) : Prop := (p = 97 ∧ g = 5) ∨ (p = 193 ∧ g = 5) ∨ (p = 257 ∧ g = 3) ∨ (p = 769 ∧ g = 11) ∨ (p = 7681 ∧ g = 17) ∨ (p = 12289 ∧ g = 11)
theorem Prm.root {p g : Nat} (h : Prm p g) : ∃ qs, Root p g (p - 1) qs := by
  rcases h with ⟨rfl, rfl⟩ | ⟨rfl, rfl⟩ | ⟨rfl, rfl⟩ | ⟨rfl, rfl⟩ | ⟨rfl, rfl⟩ | ⟨rfl, rfl⟩
  · exact ⟨[2, 2, 2, 2, 2, 3], .mk' rfl (by decide) (by decide) (by decide +kernel) (by decide) (by decide +kernel) (by decide +kernel)⟩
  · exact ⟨[2, 2, 2, 2, 2, 2, 3], .mk' rfl (by decide) (by decide) (by decide +kernel) (by decide) (by decide +kernel) (by decide +kernel)⟩
  · exact ⟨[2, 2, 2, 2, 2, 2, 2, 2], .mk' rfl (by decide) (by decide) (by decide +kernel) (by decide) (by decide +kernel) (by decide +kernel)⟩
  · exact ⟨[2, 2, 2, 2, 2, 2, 2, 2, 3], .mk' rfl (by decide) (by decide) (by decide +kernel) (by decide) (by decide +kernel) (by decide +kernel)⟩
  · exact ⟨[2, 2, 2, 2, 2, 2, 2, 2, 2, 3, 5], .mk' rfl (by decide) (by decide) (by decide +kernel) (by decide) (by decide +kernel) (by decide +kernel)⟩
  · exact ⟨[2, 2, 2, 2, 2, 2, 2, 2, 2, 2, 2, 2, 3], .mk' rfl (by decide) (by decide) (by decide +kernel) (by decide) (by decide +kernel) (by decide +kernel)⟩
end NT
namespace Hd
open PySem MP NT
section
variable {k : Nat} {h : MH} {Q : MP.D → MH → Prop}
theorem w_whole {i : Int} (q : Q (.bl true) h) : WC P (k + 1) 0 [.int i] h Q := by
  refine wc_pur rfl rfl rfl rfl ?_
  repeat (first | refine ws_go ?_ | refine ws_nil ?_ | refine ws_cons ?_ | refine w1_expr ?_ | refine w1_var ?_ | refine w1_tup ?_ | refine w1_ix ?_ | refine w1_par ?_ | refine w1_aug rfl ?_ | refine w1_if ?_ | refine w1_for ?_ | refine w1_ret ?_ | refine w1_retN ?_ | refine w1_pass ?_ | refine w1_doc ?_ | refine w1_brk ?_ | refine w1_cont ?_ | refine we_var rfl ?_ | refine we_int ?_ | refine we_glo rfl ?_ | refine we_bin ?_ | refine we_cmp ?_ | refine we_call ?_ | refine we_ix ?_ | refine we_bi ?_ | refine we_tup ?_ | refine we_lst ?_ | refine we_str ?_ | refine we_bl ?_ | refine we_non ?_ | refine we_neg ?_ | refine we_not ?_ | refine we_and ?_ | refine we_or ?_ | refine we_chain ?_ | refine we_ife ?_ | refine we_sl ?_ | refine we_slr ?_ | refine we_isi ?_ | refine we_me ?_ | refine we_lc ?_ | refine wl_nil ?_ | refine wl_cons ?_ | refine wd_nil ?_ | refine wd_cons ?_ | refine wd_star ?_ | refine wo_none ?_ | refine wo_some ?_ | refine wa_one ?_ | refine wa_cons ?_ | refine wb_one ?_ | refine wb_cons ?_ | refine we_dct ?_ | refine we_dct0 ?_ | refine wp_nil ?_ | refine wp_cons ?_ | refine wt_and ?_ | refine wt_or ?_ | refine wt_not ?_ | refine wt_cmp ?_ | refine wt_chain ?_ | refine wt_val rfl ?_ | refine ww_rng1 ?_ | refine ww_rng2 ?_ | refine ww_itv ?_ | refine lct_nil ?_ | refine lct_one ?_ | refine ro_mul ?_ ?_ | refine ro_mod ?_ (by first | assumption | decide) | refine RO.mk rfl ?_ | refine ⟨_, rfl, ?_⟩ | refine ⟨rfl, ?_⟩)
  exact q
theorem w_within {i a b : Int} (h1 : a ≤ i) (h2 : i ≤ b) (q : Q (.bl true) h) : WC P (k + 2) 2 [.int i, .int a, .int b] h Q := by
  refine wc_pur rfl rfl rfl rfl ?_
  repeat (first | refine ws_go ?_ | refine ws_nil ?_ | refine ws_cons ?_ | refine w1_expr ?_ | refine w1_var ?_ | refine w1_tup ?_ | refine w1_ix ?_ | refine w1_par ?_ | refine w1_aug rfl ?_ | refine w1_if ?_ | refine w1_for ?_ | refine w1_ret ?_ | refine w1_retN ?_ | refine w1_pass ?_ | refine w1_doc ?_ | refine w1_brk ?_ | refine w1_cont ?_ | refine we_var rfl ?_ | refine we_int ?_ | refine we_glo rfl ?_ | refine we_bin ?_ | refine we_cmp ?_ | refine we_call ?_ | refine we_ix ?_ | refine we_bi ?_ | refine we_tup ?_ | refine we_lst ?_ | refine we_str ?_ | refine we_bl ?_ | refine we_non ?_ | refine we_neg ?_ | refine we_not ?_ | refine we_and ?_ | refine we_or ?_ | refine we_chain ?_ | refine we_ife ?_ | refine we_sl ?_ | refine we_slr ?_ | refine we_isi ?_ | refine we_me ?_ | refine we_lc ?_ | refine wl_nil ?_ | refine wl_cons ?_ | refine wd_nil ?_ | refine wd_cons ?_ | refine wd_star ?_ | refine wo_none ?_ | refine wo_some ?_ | refine wa_one ?_ | refine wa_cons ?_ | refine wb_one ?_ | refine wb_cons ?_ | refine we_dct ?_ | refine we_dct0 ?_ | refine wp_nil ?_ | refine wp_cons ?_ | refine wt_and ?_ | refine wt_or ?_ | refine wt_not ?_ | refine wt_cmp ?_ | refine wt_chain ?_ | refine wt_val rfl ?_ | refine ww_rng1 ?_ | refine ww_rng2 ?_ | refine ww_itv ?_ | refine lct_nil ?_ | refine lct_one ?_ | refine ro_mul ?_ ?_ | refine ro_mod ?_ (by first | assumption | decide) | refine RO.mk rfl ?_ | refine ⟨_, rfl, ?_⟩ | refine ⟨rfl, ?_⟩)
  refine w_whole ?_
  repeat (first | refine ws_go ?_ | refine ws_nil ?_ | refine ws_cons ?_ | refine w1_expr ?_ | refine w1_var ?_ | refine w1_tup ?_ | refine w1_ix ?_ | refine w1_par ?_ | refine w1_aug rfl ?_ | refine w1_if ?_ | refine w1_for ?_ | refine w1_ret ?_ | refine w1_retN ?_ | refine w1_pass ?_ | refine w1_doc ?_ | refine w1_brk ?_ | refine w1_cont ?_ | refine we_var rfl ?_ | refine we_int ?_ | refine we_glo rfl ?_ | refine we_bin ?_ | refine we_cmp ?_ | refine we_call ?_ | refine we_ix ?_ | refine we_bi ?_ | refine we_tup ?_ | refine we_lst ?_ | refine we_str ?_ | refine we_bl ?_ | refine we_non ?_ | refine we_neg ?_ | refine we_not ?_ | refine we_and ?_ | refine we_or ?_ | refine we_chain ?_ | refine we_ife ?_ | refine we_sl ?_ | refine we_slr ?_ | refine we_isi ?_ | refine we_me ?_ | refine we_lc ?_ | refine wl_nil ?_ | refine wl_cons ?_ | refine wd_nil ?_ | refine wd_cons ?_ | refine wd_star ?_ | refine wo_none ?_ | refine wo_some ?_ | refine wa_one ?_ | refine wa_cons ?_ | refine wb_one ?_ | refine wb_cons ?_ | refine we_dct ?_ | refine we_dct0 ?_ | refine wp_nil ?_ | refine wp_cons ?_ | refine wt_and ?_ | refine wt_or ?_ | refine wt_not ?_ | refine wt_cmp ?_ | refine wt_chain ?_ | refine wt_val rfl ?_ | refine ww_rng1 ?_ | refine ww_rng2 ?_ | refine ww_itv ?_ | refine lct_nil ?_ | refine lct_one ?_ | refine ro_mul ?_ ?_ | refine ro_mod ?_ (by first | assumption | decide) | refine RO.mk rfl ?_ | refine ⟨_, rfl, ?_⟩ | refine ⟨rfl, ?_⟩)
  refine if_t h1 ?_
  repeat (first | refine ws_go ?_ | refine ws_nil ?_ | refine ws_cons ?_ | refine w1_expr ?_ | refine w1_var ?_ | refine w1_tup ?_ | refine w1_ix ?_ | refine w1_par ?_ | refine w1_aug rfl ?_ | refine w1_if ?_ | refine w1_for ?_ | refine w1_ret ?_ | refine w1_retN ?_ | refine w1_pass ?_ | refine w1_doc ?_ | refine w1_brk ?_ | refine w1_cont ?_ | refine we_var rfl ?_ | refine we_int ?_ | refine we_glo rfl ?_ | refine we_bin ?_ | refine we_cmp ?_ | refine we_call ?_ | refine we_ix ?_ | refine we_bi ?_ | refine we_tup ?_ | refine we_lst ?_ | refine we_str ?_ | refine we_bl ?_ | refine we_non ?_ | refine we_neg ?_ | refine we_not ?_ | refine we_and ?_ | refine we_or ?_ | refine we_chain ?_ | refine we_ife ?_ | refine we_sl ?_ | refine we_slr ?_ | refine we_isi ?_ | refine we_me ?_ | refine we_lc ?_ | refine wl_nil ?_ | refine wl_cons ?_ | refine wd_nil ?_ | refine wd_cons ?_ | refine wd_star ?_ | refine wo_none ?_ | refine wo_some ?_ | refine wa_one ?_ | refine wa_cons ?_ | refine wb_one ?_ | refine wb_cons ?_ | refine we_dct ?_ | refine we_dct0 ?_ | refine wp_nil ?_ | refine wp_cons ?_ | refine wt_and ?_ | refine wt_or ?_ | refine wt_not ?_ | refine wt_cmp ?_ | refine wt_chain ?_ | refine wt_val rfl ?_ | refine ww_rng1 ?_ | refine ww_rng2 ?_ | refine ww_itv ?_ | refine lct_nil ?_ | refine lct_one ?_ | refine ro_mul ?_ ?_ | refine ro_mod ?_ (by first | assumption | decide) | refine RO.mk rfl ?_ | refine ⟨_, rfl, ?_⟩ | refine ⟨rfl, ?_⟩)
  rw [decide_eq_true h2]
  repeat (first | refine ws_go ?_ | refine ws_nil ?_ | refine ws_cons ?_ | refine w1_expr ?_ | refine w1_var ?_ | refine w1_tup ?_ | refine w1_ix ?_ | refine w1_par ?_ | refine w1_aug rfl ?_ | refine w1_if ?_ | refine w1_for ?_ | refine w1_ret ?_ | refine w1_retN ?_ | refine w1_pass ?_ | refine w1_doc ?_ | refine w1_brk ?_ | refine w1_cont ?_ | refine we_var rfl ?_ | refine we_int ?_ | refine we_glo rfl ?_ | refine we_bin ?_ | refine we_cmp ?_ | refine we_call ?_ | refine we_ix ?_ | refine we_bi ?_ | refine we_tup ?_ | refine we_lst ?_ | refine we_str ?_ | refine we_bl ?_ | refine we_non ?_ | refine we_neg ?_ | refine we_not ?_ | refine we_and ?_ | refine we_or ?_ | refine we_chain ?_ | refine we_ife ?_ | refine we_sl ?_ | refine we_slr ?_ | refine we_isi ?_ | refine we_me ?_ | refine we_lc ?_ | refine wl_nil ?_ | refine wl_cons ?_ | refine wd_nil ?_ | refine wd_cons ?_ | refine wd_star ?_ | refine wo_none ?_ | refine wo_some ?_ | refine wa_one ?_ | refine wa_cons ?_ | refine wb_one ?_ | refine wb_cons ?_ | refine we_dct ?_ | refine we_dct0 ?_ | refine wp_nil ?_ | refine wp_cons ?_ | refine wt_and ?_ | refine wt_or ?_ | refine wt_not ?_ | refine wt_cmp ?_ | refine wt_chain ?_ | refine wt_val rfl ?_ | refine ww_rng1 ?_ | refine ww_rng2 ?_ | refine ww_itv ?_ | refine lct_nil ?_ | refine lct_one ?_ | refine ro_mul ?_ ?_ | refine ro_mod ?_ (by first | assumption | decide) | refine RO.mk rfl ?_ | refine ⟨_, rfl, ?_⟩ | refine ⟨rfl, ?_⟩)
  exact q
theorem small {n p : Nat} (hp : p < 2 ^ 20) (hn : n < p) : ((n : Int)).natAbs < 2 ^ 400000 := by
  rw [Int.natAbs_natCast]
  exact Nat.lt_trans hn (Nat.lt_of_lt_of_le hp (Nat.pow_le_pow_right (by decide) (by decide)))
theorem cast_mul_mod (p a b : Nat) : ((a : Int) * (b : Int)) % (p : Int) = ((a * b % p : Nat) : Int) := by
  rw [Int.natCast_emod, Int.natCast_mul]
/-- the halving loop -/
theorem pow_step1 {p f s l R : Nat} (h1 : l % 2 = 1) (he : f * s ^ l % p = R) : f * s % p * (s * s % p) ^ (l / 2) % p = R := by
  have hsq : (s * s % p) ^ (l / 2) % p = s ^ (2 * (l / 2)) % p := by rw [← Nat.pow_mod, ← Nat.pow_two, ← Nat.pow_mul]
  rw [Nat.mul_mod, Nat.mod_mod, hsq, ← Nat.mul_mod, Nat.mul_assoc, Nat.mul_comm s, ← Nat.pow_succ, show (2 * (l / 2)).succ = l by omega]
  exact he
theorem pow_step0 {p f s l R : Nat} (h1 : ¬ l % 2 = 1) (he : f * s ^ l % p = R) : f * (s * s % p) ^ (l / 2) % p = R := by
  have hsq : (s * s % p) ^ (l / 2) % p = s ^ (2 * (l / 2)) % p := by rw [← Nat.pow_mod, ← Nat.pow_two, ← Nat.pow_mul]
  rw [Nat.mul_mod, hsq, ← Nat.mul_mod, show 2 * (l / 2) = l by omega]
  exact he
theorem w_power {p b e : Nat} (hp1 : 1 < p) (hp : p < 2 ^ 20) (q : Q (DI (b ^ e % p)) h) : WC P (k + 1) 6 [DI p, DI b, DI e] h Q := by
  have hp0 : (0 : Int) < (p : Int) := by omega
  have ml : ∀ x : Nat, x % p < p := fun x => Nat.mod_lt _ (by omega)
  refine wc_pur rfl rfl rfl rfl ?_
  repeat (first | refine ws_go ?_ | refine ws_nil ?_ | refine ws_cons ?_ | refine w1_expr ?_ | refine w1_var ?_ | refine w1_tup ?_ | refine w1_ix ?_ | refine w1_par ?_ | refine w1_aug rfl ?_ | refine w1_if ?_ | refine w1_for ?_ | refine w1_ret ?_ | refine w1_retN ?_ | refine w1_pass ?_ | refine w1_doc ?_ | refine w1_brk ?_ | refine w1_cont ?_ | refine we_var rfl ?_ | refine we_int ?_ | refine we_glo rfl ?_ | refine we_bin ?_ | refine we_cmp ?_ | refine we_call ?_ | refine we_ix ?_ | refine we_bi ?_ | refine we_tup ?_ | refine we_lst ?_ | refine we_str ?_ | refine we_bl ?_ | refine we_non ?_ | refine we_neg ?_ | refine we_not ?_ | refine we_and ?_ | refine we_or ?_ | refine we_chain ?_ | refine we_ife ?_ | refine we_sl ?_ | refine we_slr ?_ | refine we_isi ?_ | refine we_me ?_ | refine we_lc ?_ | refine wl_nil ?_ | refine wl_cons ?_ | refine wd_nil ?_ | refine wd_cons ?_ | refine wd_star ?_ | refine wo_none ?_ | refine wo_some ?_ | refine wa_one ?_ | refine wa_cons ?_ | refine wb_one ?_ | refine wb_cons ?_ | refine we_dct ?_ | refine we_dct0 ?_ | refine wp_nil ?_ | refine wp_cons ?_ | refine wt_and ?_ | refine wt_or ?_ | refine wt_not ?_ | refine wt_cmp ?_ | refine wt_chain ?_ | refine wt_val rfl ?_ | refine ww_rng1 ?_ | refine ww_rng2 ?_ | refine ww_itv ?_ | refine lct_nil ?_ | refine lct_one ?_ | refine ro_mul ?_ ?_ | refine ro_mod ?_ (by first | assumption | decide) | refine RO.mk rfl ?_ | refine ⟨_, rfl, ?_⟩ | refine ⟨rfl, ?_⟩)
  have loop : ∀ (l f s : Nat), f < p → s < p → f * s ^ l % p = b ^ e % p → ∀ K : Kt, (∀ s' : Nat, K.nx [some (DI p), some (DI b), some (DI e), some (DI (b ^ e % p)), some (DI s'), some (.int 0)] MH.nil) →
      WS1 P k (b_power_in.getD 1 .pass) [some (DI p), some (DI b), some (DI e), some (DI f), some (DI s), some (DI l)] MH.nil K := by
    intro l
    induction l using Nat.strongRecOn with
    | _ l ih =>
    intro f s hf hs he K hK
    refine w1_while ?_
    repeat (first | refine ws_go ?_ | refine ws_nil ?_ | refine ws_cons ?_ | refine w1_expr ?_ | refine w1_var ?_ | refine w1_tup ?_ | refine w1_ix ?_ | refine w1_par ?_ | refine w1_aug rfl ?_ | refine w1_if ?_ | refine w1_for ?_ | refine w1_ret ?_ | refine w1_retN ?_ | refine w1_pass ?_ | refine w1_doc ?_ | refine w1_brk ?_ | refine w1_cont ?_ | refine we_var rfl ?_ | refine we_int ?_ | refine we_glo rfl ?_ | refine we_bin ?_ | refine we_cmp ?_ | refine we_call ?_ | refine we_ix ?_ | refine we_bi ?_ | refine we_tup ?_ | refine we_lst ?_ | refine we_str ?_ | refine we_bl ?_ | refine we_non ?_ | refine we_neg ?_ | refine we_not ?_ | refine we_and ?_ | refine we_or ?_ | refine we_chain ?_ | refine we_ife ?_ | refine we_sl ?_ | refine we_slr ?_ | refine we_isi ?_ | refine we_me ?_ | refine we_lc ?_ | refine wl_nil ?_ | refine wl_cons ?_ | refine wd_nil ?_ | refine wd_cons ?_ | refine wd_star ?_ | refine wo_none ?_ | refine wo_some ?_ | refine wa_one ?_ | refine wa_cons ?_ | refine wb_one ?_ | refine wb_cons ?_ | refine we_dct ?_ | refine we_dct0 ?_ | refine wp_nil ?_ | refine wp_cons ?_ | refine wt_and ?_ | refine wt_or ?_ | refine wt_not ?_ | refine wt_cmp ?_ | refine wt_chain ?_ | refine wt_val rfl ?_ | refine ww_rng1 ?_ | refine ww_rng2 ?_ | refine ww_itv ?_ | refine lct_nil ?_ | refine lct_one ?_ | refine ro_mul ?_ ?_ | refine ro_mod ?_ (by first | assumption | decide) | refine RO.mk rfl ?_ | refine ⟨_, rfl, ?_⟩ | refine ⟨rfl, ?_⟩)
    by_cases h0 : l = 0
    · subst h0
      refine if_f (by simp) ?_
      have : f = b ^ e % p := by rw [← he, Nat.pow_zero, Nat.mul_one, Nat.mod_eq_of_lt hf]
      subst this
      exact hK s
    · refine if_t (by omega) ?_
      repeat (first | refine ws_go ?_ | refine ws_nil ?_ | refine ws_cons ?_ | refine w1_expr ?_ | refine w1_var ?_ | refine w1_tup ?_ | refine w1_ix ?_ | refine w1_par ?_ | refine w1_aug rfl ?_ | refine w1_if ?_ | refine w1_for ?_ | refine w1_ret ?_ | refine w1_retN ?_ | refine w1_pass ?_ | refine w1_doc ?_ | refine w1_brk ?_ | refine w1_cont ?_ | refine we_var rfl ?_ | refine we_int ?_ | refine we_glo rfl ?_ | refine we_bin ?_ | refine we_cmp ?_ | refine we_call ?_ | refine we_ix ?_ | refine we_bi ?_ | refine we_tup ?_ | refine we_lst ?_ | refine we_str ?_ | refine we_bl ?_ | refine we_non ?_ | refine we_neg ?_ | refine we_not ?_ | refine we_and ?_ | refine we_or ?_ | refine we_chain ?_ | refine we_ife ?_ | refine we_sl ?_ | refine we_slr ?_ | refine we_isi ?_ | refine we_me ?_ | refine we_lc ?_ | refine wl_nil ?_ | refine wl_cons ?_ | refine wd_nil ?_ | refine wd_cons ?_ | refine wd_star ?_ | refine wo_none ?_ | refine wo_some ?_ | refine wa_one ?_ | refine wa_cons ?_ | refine wb_one ?_ | refine wb_cons ?_ | refine we_dct ?_ | refine we_dct0 ?_ | refine wp_nil ?_ | refine wp_cons ?_ | refine wt_and ?_ | refine wt_or ?_ | refine wt_not ?_ | refine wt_cmp ?_ | refine wt_chain ?_ | refine wt_val rfl ?_ | refine ww_rng1 ?_ | refine ww_rng2 ?_ | refine ww_itv ?_ | refine lct_nil ?_ | refine lct_one ?_ | refine ro_mul ?_ ?_ | refine ro_mod ?_ (by first | assumption | decide) | refine RO.mk rfl ?_ | refine ⟨_, rfl, ?_⟩ | refine ⟨rfl, ?_⟩)
      have hl : ((l : Int) / 2) = ((l / 2 : Nat) : Int) := by omega
      by_cases h1 : l % 2 = 1
      · refine if_t (by omega) ?_
        repeat (first | refine ws_go ?_ | refine ws_nil ?_ | refine ws_cons ?_ | refine w1_expr ?_ | refine w1_var ?_ | refine w1_tup ?_ | refine w1_ix ?_ | refine w1_par ?_ | refine w1_aug rfl ?_ | refine w1_if ?_ | refine w1_for ?_ | refine w1_ret ?_ | refine w1_retN ?_ | refine w1_pass ?_ | refine w1_doc ?_ | refine w1_brk ?_ | refine w1_cont ?_ | refine we_var rfl ?_ | refine we_int ?_ | refine we_glo rfl ?_ | refine we_bin ?_ | refine we_cmp ?_ | refine we_call ?_ | refine we_ix ?_ | refine we_bi ?_ | refine we_tup ?_ | refine we_lst ?_ | refine we_str ?_ | refine we_bl ?_ | refine we_non ?_ | refine we_neg ?_ | refine we_not ?_ | refine we_and ?_ | refine we_or ?_ | refine we_chain ?_ | refine we_ife ?_ | refine we_sl ?_ | refine we_slr ?_ | refine we_isi ?_ | refine we_me ?_ | refine we_lc ?_ | refine wl_nil ?_ | refine wl_cons ?_ | refine wd_nil ?_ | refine wd_cons ?_ | refine wd_star ?_ | refine wo_none ?_ | refine wo_some ?_ | refine wa_one ?_ | refine wa_cons ?_ | refine wb_one ?_ | refine wb_cons ?_ | refine we_dct ?_ | refine we_dct0 ?_ | refine wp_nil ?_ | refine wp_cons ?_ | refine wt_and ?_ | refine wt_or ?_ | refine wt_not ?_ | refine wt_cmp ?_ | refine wt_chain ?_ | refine wt_val rfl ?_ | refine ww_rng1 ?_ | refine ww_rng2 ?_ | refine ww_itv ?_ | refine lct_nil ?_ | refine lct_one ?_ | refine ro_mul ?_ ?_ | refine ro_mod ?_ (by first | assumption | decide) | refine RO.mk rfl ?_ | refine ⟨_, rfl, ?_⟩ | refine ⟨rfl, ?_⟩)
        · rw [cast_mul_mod, cast_mul_mod, hl]
          exact ih (l / 2) (by omega) (f * s % p) (s * s % p) (ml _) (ml _) (pow_step1 h1 he) _ fun s' => ws_nil (hK s')
        · exact mul_ok (small hp hs) (small hp hs)
        · exact mul_ok (small hp hf) (small hp hs)
      · refine if_f (by omega) ?_
        repeat (first | refine ws_go ?_ | refine ws_nil ?_ | refine ws_cons ?_ | refine w1_expr ?_ | refine w1_var ?_ | refine w1_tup ?_ | refine w1_ix ?_ | refine w1_par ?_ | refine w1_aug rfl ?_ | refine w1_if ?_ | refine w1_for ?_ | refine w1_ret ?_ | refine w1_retN ?_ | refine w1_pass ?_ | refine w1_doc ?_ | refine w1_brk ?_ | refine w1_cont ?_ | refine we_var rfl ?_ | refine we_int ?_ | refine we_glo rfl ?_ | refine we_bin ?_ | refine we_cmp ?_ | refine we_call ?_ | refine we_ix ?_ | refine we_bi ?_ | refine we_tup ?_ | refine we_lst ?_ | refine we_str ?_ | refine we_bl ?_ | refine we_non ?_ | refine we_neg ?_ | refine we_not ?_ | refine we_and ?_ | refine we_or ?_ | refine we_chain ?_ | refine we_ife ?_ | refine we_sl ?_ | refine we_slr ?_ | refine we_isi ?_ | refine we_me ?_ | refine we_lc ?_ | refine wl_nil ?_ | refine wl_cons ?_ | refine wd_nil ?_ | refine wd_cons ?_ | refine wd_star ?_ | refine wo_none ?_ | refine wo_some ?_ | refine wa_one ?_ | refine wa_cons ?_ | refine wb_one ?_ | refine wb_cons ?_ | refine we_dct ?_ | refine we_dct0 ?_ | refine wp_nil ?_ | refine wp_cons ?_ | refine wt_and ?_ | refine wt_or ?_ | refine wt_not ?_ | refine wt_cmp ?_ | refine wt_chain ?_ | refine wt_val rfl ?_ | refine ww_rng1 ?_ | refine ww_rng2 ?_ | refine ww_itv ?_ | refine lct_nil ?_ | refine lct_one ?_ | refine ro_mul ?_ ?_ | refine ro_mod ?_ (by first | assumption | decide) | refine RO.mk rfl ?_ | refine ⟨_, rfl, ?_⟩ | refine ⟨rfl, ?_⟩)
        · rw [cast_mul_mod, hl]
          exact ih (l / 2) (by omega) f (s * s % p) hf (ml _) (pow_step0 h1 he) _ fun s' => ws_nil (hK s')
        · exact mul_ok (small hp hs) (small hp hs)
  have e0 : (b : Int) % (p : Int) = ((b % p : Nat) : Int) := by rw [Int.natCast_emod]
  rw [e0]
  refine loop e 1 (b % p) hp1 (ml _) (by rw [Nat.one_mul, ← Nat.pow_mod]) _ fun s' => ?_
  repeat (first | refine ws_go ?_ | refine ws_nil ?_ | refine ws_cons ?_ | refine w1_expr ?_ | refine w1_var ?_ | refine w1_tup ?_ | refine w1_ix ?_ | refine w1_par ?_ | refine w1_aug rfl ?_ | refine w1_if ?_ | refine w1_for ?_ | refine w1_ret ?_ | refine w1_retN ?_ | refine w1_pass ?_ | refine w1_doc ?_ | refine w1_brk ?_ | refine w1_cont ?_ | refine we_var rfl ?_ | refine we_int ?_ | refine we_glo rfl ?_ | refine we_bin ?_ | refine we_cmp ?_ | refine we_call ?_ | refine we_ix ?_ | refine we_bi ?_ | refine we_tup ?_ | refine we_lst ?_ | refine we_str ?_ | refine we_bl ?_ | refine we_non ?_ | refine we_neg ?_ | refine we_not ?_ | refine we_and ?_ | refine we_or ?_ | refine we_chain ?_ | refine we_ife ?_ | refine we_sl ?_ | refine we_slr ?_ | refine we_isi ?_ | refine we_me ?_ | refine we_lc ?_ | refine wl_nil ?_ | refine wl_cons ?_ | refine wd_nil ?_ | refine wd_cons ?_ | refine wd_star ?_ | refine wo_none ?_ | refine wo_some ?_ | refine wa_one ?_ | refine wa_cons ?_ | refine wb_one ?_ | refine wb_cons ?_ | refine we_dct ?_ | refine we_dct0 ?_ | refine wp_nil ?_ | refine wp_cons ?_ | refine wt_and ?_ | refine wt_or ?_ | refine wt_not ?_ | refine wt_cmp ?_ | refine wt_chain ?_ | refine wt_val rfl ?_ | refine ww_rng1 ?_ | refine ww_rng2 ?_ | refine ww_itv ?_ | refine lct_nil ?_ | refine lct_one ?_ | refine ro_mul ?_ ?_ | refine ro_mod ?_ (by first | assumption | decide) | refine RO.mk rfl ?_ | refine ⟨_, rfl, ?_⟩ | refine ⟨rfl, ?_⟩)
  exact q
end
end Hd
namespace Hd
open PySem MP NT
section
variable {k : Nat} {h : MH} {Q : MP.D → MH → Prop}
theorem w_back {p b : Nat} (hp1 : 1 < p) (hp : p < 2 ^ 20) (q : Q (DI (b ^ (p - 2) % p)) h) : WC P (k + 2) 7 [DI p, DI b] h Q := by
  refine wc_pur rfl rfl rfl rfl ?_
  repeat (first | refine ws_go ?_ | refine ws_nil ?_ | refine ws_cons ?_ | refine w1_expr ?_ | refine w1_var ?_ | refine w1_tup ?_ | refine w1_ix ?_ | refine w1_par ?_ | refine w1_aug rfl ?_ | refine w1_if ?_ | refine w1_for ?_ | refine w1_ret ?_ | refine w1_retN ?_ | refine w1_pass ?_ | refine w1_doc ?_ | refine w1_brk ?_ | refine w1_cont ?_ | refine we_var rfl ?_ | refine we_int ?_ | refine we_glo rfl ?_ | refine we_bin ?_ | refine we_cmp ?_ | refine we_call ?_ | refine we_ix ?_ | refine we_bi ?_ | refine we_tup ?_ | refine we_lst ?_ | refine we_str ?_ | refine we_bl ?_ | refine we_non ?_ | refine we_neg ?_ | refine we_not ?_ | refine we_and ?_ | refine we_or ?_ | refine we_chain ?_ | refine we_ife ?_ | refine we_sl ?_ | refine we_slr ?_ | refine we_isi ?_ | refine we_me ?_ | refine we_lc ?_ | refine wl_nil ?_ | refine wl_cons ?_ | refine wd_nil ?_ | refine wd_cons ?_ | refine wd_star ?_ | refine wo_none ?_ | refine wo_some ?_ | refine wa_one ?_ | refine wa_cons ?_ | refine wb_one ?_ | refine wb_cons ?_ | refine we_dct ?_ | refine we_dct0 ?_ | refine wp_nil ?_ | refine wp_cons ?_ | refine wt_and ?_ | refine wt_or ?_ | refine wt_not ?_ | refine wt_cmp ?_ | refine wt_chain ?_ | refine wt_val rfl ?_ | refine ww_rng1 ?_ | refine ww_rng2 ?_ | refine ww_itv ?_ | refine lct_nil ?_ | refine lct_one ?_ | refine ro_mul ?_ ?_ | refine ro_mod ?_ (by first | assumption | decide) | refine RO.mk rfl ?_ | refine ⟨_, rfl, ?_⟩ | refine ⟨rfl, ?_⟩)
  have e : (p : Int) - 2 = ((p - 2 : Nat) : Int) := by omega
  rw [e]
  refine w_power hp1 hp ?_
  repeat (first | refine ws_go ?_ | refine ws_nil ?_ | refine ws_cons ?_ | refine w1_expr ?_ | refine w1_var ?_ | refine w1_tup ?_ | refine w1_ix ?_ | refine w1_par ?_ | refine w1_aug rfl ?_ | refine w1_if ?_ | refine w1_for ?_ | refine w1_ret ?_ | refine w1_retN ?_ | refine w1_pass ?_ | refine w1_doc ?_ | refine w1_brk ?_ | refine w1_cont ?_ | refine we_var rfl ?_ | refine we_int ?_ | refine we_glo rfl ?_ | refine we_bin ?_ | refine we_cmp ?_ | refine we_call ?_ | refine we_ix ?_ | refine we_bi ?_ | refine we_tup ?_ | refine we_lst ?_ | refine we_str ?_ | refine we_bl ?_ | refine we_non ?_ | refine we_neg ?_ | refine we_not ?_ | refine we_and ?_ | refine we_or ?_ | refine we_chain ?_ | refine we_ife ?_ | refine we_sl ?_ | refine we_slr ?_ | refine we_isi ?_ | refine we_me ?_ | refine we_lc ?_ | refine wl_nil ?_ | refine wl_cons ?_ | refine wd_nil ?_ | refine wd_cons ?_ | refine wd_star ?_ | refine wo_none ?_ | refine wo_some ?_ | refine wa_one ?_ | refine wa_cons ?_ | refine wb_one ?_ | refine wb_cons ?_ | refine we_dct ?_ | refine we_dct0 ?_ | refine wp_nil ?_ | refine wp_cons ?_ | refine wt_and ?_ | refine wt_or ?_ | refine wt_not ?_ | refine wt_cmp ?_ | refine wt_chain ?_ | refine wt_val rfl ?_ | refine ww_rng1 ?_ | refine ww_rng2 ?_ | refine ww_itv ?_ | refine lct_nil ?_ | refine lct_one ?_ | refine ro_mul ?_ ?_ | refine ro_mod ?_ (by first | assumption | decide) | refine RO.mk rfl ?_ | refine ⟨_, rfl, ?_⟩ | refine ⟨rfl, ?_⟩)
  exact q
theorem w_any0 {p b n : Nat} (hp1 : 1 < p) (hp : p < 2 ^ 20) (q : Q (DI (b ^ n % p)) h) : WC P (k + 3) 8 [DI p, DI b, DI n] h Q := by
  refine wc_pur rfl rfl rfl rfl ?_
  repeat (first | refine ws_go ?_ | refine ws_nil ?_ | refine ws_cons ?_ | refine w1_expr ?_ | refine w1_var ?_ | refine w1_tup ?_ | refine w1_ix ?_ | refine w1_par ?_ | refine w1_aug rfl ?_ | refine w1_if ?_ | refine w1_for ?_ | refine w1_ret ?_ | refine w1_retN ?_ | refine w1_pass ?_ | refine w1_doc ?_ | refine w1_brk ?_ | refine w1_cont ?_ | refine we_var rfl ?_ | refine we_int ?_ | refine we_glo rfl ?_ | refine we_bin ?_ | refine we_cmp ?_ | refine we_call ?_ | refine we_ix ?_ | refine we_bi ?_ | refine we_tup ?_ | refine we_lst ?_ | refine we_str ?_ | refine we_bl ?_ | refine we_non ?_ | refine we_neg ?_ | refine we_not ?_ | refine we_and ?_ | refine we_or ?_ | refine we_chain ?_ | refine we_ife ?_ | refine we_sl ?_ | refine we_slr ?_ | refine we_isi ?_ | refine we_me ?_ | refine we_lc ?_ | refine wl_nil ?_ | refine wl_cons ?_ | refine wd_nil ?_ | refine wd_cons ?_ | refine wd_star ?_ | refine wo_none ?_ | refine wo_some ?_ | refine wa_one ?_ | refine wa_cons ?_ | refine wb_one ?_ | refine wb_cons ?_ | refine we_dct ?_ | refine we_dct0 ?_ | refine wp_nil ?_ | refine wp_cons ?_ | refine wt_and ?_ | refine wt_or ?_ | refine wt_not ?_ | refine wt_cmp ?_ | refine wt_chain ?_ | refine wt_val rfl ?_ | refine ww_rng1 ?_ | refine ww_rng2 ?_ | refine ww_itv ?_ | refine lct_nil ?_ | refine lct_one ?_ | refine ro_mul ?_ ?_ | refine ro_mod ?_ (by first | assumption | decide) | refine RO.mk rfl ?_ | refine ⟨_, rfl, ?_⟩ | refine ⟨rfl, ?_⟩)
  refine w_power hp1 hp ?_
  repeat (first | refine ws_go ?_ | refine ws_nil ?_ | refine ws_cons ?_ | refine w1_expr ?_ | refine w1_var ?_ | refine w1_tup ?_ | refine w1_ix ?_ | refine w1_par ?_ | refine w1_aug rfl ?_ | refine w1_if ?_ | refine w1_for ?_ | refine w1_ret ?_ | refine w1_retN ?_ | refine w1_pass ?_ | refine w1_doc ?_ | refine w1_brk ?_ | refine w1_cont ?_ | refine we_var rfl ?_ | refine we_int ?_ | refine we_glo rfl ?_ | refine we_bin ?_ | refine we_cmp ?_ | refine we_call ?_ | refine we_ix ?_ | refine we_bi ?_ | refine we_tup ?_ | refine we_lst ?_ | refine we_str ?_ | refine we_bl ?_ | refine we_non ?_ | refine we_neg ?_ | refine we_not ?_ | refine we_and ?_ | refine we_or ?_ | refine we_chain ?_ | refine we_ife ?_ | refine we_sl ?_ | refine we_slr ?_ | refine we_isi ?_ | refine we_me ?_ | refine we_lc ?_ | refine wl_nil ?_ | refine wl_cons ?_ | refine wd_nil ?_ | refine wd_cons ?_ | refine wd_star ?_ | refine wo_none ?_ | refine wo_some ?_ | refine wa_one ?_ | refine wa_cons ?_ | refine wb_one ?_ | refine wb_cons ?_ | refine we_dct ?_ | refine we_dct0 ?_ | refine wp_nil ?_ | refine wp_cons ?_ | refine wt_and ?_ | refine wt_or ?_ | refine wt_not ?_ | refine wt_cmp ?_ | refine wt_chain ?_ | refine wt_val rfl ?_ | refine ww_rng1 ?_ | refine ww_rng2 ?_ | refine ww_itv ?_ | refine lct_nil ?_ | refine lct_one ?_ | refine ro_mul ?_ ?_ | refine ro_mod ?_ (by first | assumption | decide) | refine RO.mk rfl ?_ | refine ⟨_, rfl, ?_⟩ | refine ⟨rfl, ?_⟩)
  exact q
theorem w_any1 {p b n : Nat} (h0 : 0 < n) (hp1 : 1 < p) (hp : p < 2 ^ 20) (q : Q (DI ((b ^ (p - 2) % p) ^ n % p)) h) : WC P (k + 3) 8 [DI p, DI b, .int (-(n : Int))] h Q := by
  refine wc_pur rfl rfl rfl rfl ?_
  repeat (first | refine ws_go ?_ | refine ws_nil ?_ | refine ws_cons ?_ | refine w1_expr ?_ | refine w1_var ?_ | refine w1_tup ?_ | refine w1_ix ?_ | refine w1_par ?_ | refine w1_aug rfl ?_ | refine w1_if ?_ | refine w1_for ?_ | refine w1_ret ?_ | refine w1_retN ?_ | refine w1_pass ?_ | refine w1_doc ?_ | refine w1_brk ?_ | refine w1_cont ?_ | refine we_var rfl ?_ | refine we_int ?_ | refine we_glo rfl ?_ | refine we_bin ?_ | refine we_cmp ?_ | refine we_call ?_ | refine we_ix ?_ | refine we_bi ?_ | refine we_tup ?_ | refine we_lst ?_ | refine we_str ?_ | refine we_bl ?_ | refine we_non ?_ | refine we_neg ?_ | refine we_not ?_ | refine we_and ?_ | refine we_or ?_ | refine we_chain ?_ | refine we_ife ?_ | refine we_sl ?_ | refine we_slr ?_ | refine we_isi ?_ | refine we_me ?_ | refine we_lc ?_ | refine wl_nil ?_ | refine wl_cons ?_ | refine wd_nil ?_ | refine wd_cons ?_ | refine wd_star ?_ | refine wo_none ?_ | refine wo_some ?_ | refine wa_one ?_ | refine wa_cons ?_ | refine wb_one ?_ | refine wb_cons ?_ | refine we_dct ?_ | refine we_dct0 ?_ | refine wp_nil ?_ | refine wp_cons ?_ | refine wt_and ?_ | refine wt_or ?_ | refine wt_not ?_ | refine wt_cmp ?_ | refine wt_chain ?_ | refine wt_val rfl ?_ | refine ww_rng1 ?_ | refine ww_rng2 ?_ | refine ww_itv ?_ | refine lct_nil ?_ | refine lct_one ?_ | refine ro_mul ?_ ?_ | refine ro_mod ?_ (by first | assumption | decide) | refine RO.mk rfl ?_ | refine ⟨_, rfl, ?_⟩ | refine ⟨rfl, ?_⟩)
  refine if_f (by omega) ?_
  repeat (first | refine ws_go ?_ | refine ws_nil ?_ | refine ws_cons ?_ | refine w1_expr ?_ | refine w1_var ?_ | refine w1_tup ?_ | refine w1_ix ?_ | refine w1_par ?_ | refine w1_aug rfl ?_ | refine w1_if ?_ | refine w1_for ?_ | refine w1_ret ?_ | refine w1_retN ?_ | refine w1_pass ?_ | refine w1_doc ?_ | refine w1_brk ?_ | refine w1_cont ?_ | refine we_var rfl ?_ | refine we_int ?_ | refine we_glo rfl ?_ | refine we_bin ?_ | refine we_cmp ?_ | refine we_call ?_ | refine we_ix ?_ | refine we_bi ?_ | refine we_tup ?_ | refine we_lst ?_ | refine we_str ?_ | refine we_bl ?_ | refine we_non ?_ | refine we_neg ?_ | refine we_not ?_ | refine we_and ?_ | refine we_or ?_ | refine we_chain ?_ | refine we_ife ?_ | refine we_sl ?_ | refine we_slr ?_ | refine we_isi ?_ | refine we_me ?_ | refine we_lc ?_ | refine wl_nil ?_ | refine wl_cons ?_ | refine wd_nil ?_ | refine wd_cons ?_ | refine wd_star ?_ | refine wo_none ?_ | refine wo_some ?_ | refine wa_one ?_ | refine wa_cons ?_ | refine wb_one ?_ | refine wb_cons ?_ | refine we_dct ?_ | refine we_dct0 ?_ | refine wp_nil ?_ | refine wp_cons ?_ | refine wt_and ?_ | refine wt_or ?_ | refine wt_not ?_ | refine wt_cmp ?_ | refine wt_chain ?_ | refine wt_val rfl ?_ | refine ww_rng1 ?_ | refine ww_rng2 ?_ | refine ww_itv ?_ | refine lct_nil ?_ | refine lct_one ?_ | refine ro_mul ?_ ?_ | refine ro_mod ?_ (by first | assumption | decide) | refine RO.mk rfl ?_ | refine ⟨_, rfl, ?_⟩ | refine ⟨rfl, ?_⟩)
  refine w_back hp1 hp ?_
  repeat (first | refine ws_go ?_ | refine ws_nil ?_ | refine ws_cons ?_ | refine w1_expr ?_ | refine w1_var ?_ | refine w1_tup ?_ | refine w1_ix ?_ | refine w1_par ?_ | refine w1_aug rfl ?_ | refine w1_if ?_ | refine w1_for ?_ | refine w1_ret ?_ | refine w1_retN ?_ | refine w1_pass ?_ | refine w1_doc ?_ | refine w1_brk ?_ | refine w1_cont ?_ | refine we_var rfl ?_ | refine we_int ?_ | refine we_glo rfl ?_ | refine we_bin ?_ | refine we_cmp ?_ | refine we_call ?_ | refine we_ix ?_ | refine we_bi ?_ | refine we_tup ?_ | refine we_lst ?_ | refine we_str ?_ | refine we_bl ?_ | refine we_non ?_ | refine we_neg ?_ | refine we_not ?_ | refine we_and ?_ | refine we_or ?_ | refine we_chain ?_ | refine we_ife ?_ | refine we_sl ?_ | refine we_slr ?_ | refine we_isi ?_ | refine we_me ?_ | refine we_lc ?_ | refine wl_nil ?_ | refine wl_cons ?_ | refine wd_nil ?_ | refine wd_cons ?_ | refine wd_star ?_ | refine wo_none ?_ | refine wo_some ?_ | refine wa_one ?_ | refine wa_cons ?_ | refine wb_one ?_ | refine wb_cons ?_ | refine we_dct ?_ | refine we_dct0 ?_ | refine wp_nil ?_ | refine wp_cons ?_ | refine wt_and ?_ | refine wt_or ?_ | refine wt_not ?_ | refine wt_cmp ?_ | refine wt_chain ?_ | refine wt_val rfl ?_ | refine ww_rng1 ?_ | refine ww_rng2 ?_ | refine ww_itv ?_ | refine lct_nil ?_ | refine lct_one ?_ | refine ro_mul ?_ ?_ | refine ro_mod ?_ (by first | assumption | decide) | refine RO.mk rfl ?_ | refine ⟨_, rfl, ?_⟩ | refine ⟨rfl, ?_⟩)
  rw [Int.neg_neg]
  refine w_power hp1 hp ?_
  repeat (first | refine ws_go ?_ | refine ws_nil ?_ | refine ws_cons ?_ | refine w1_expr ?_ | refine w1_var ?_ | refine w1_tup ?_ | refine w1_ix ?_ | refine w1_par ?_ | refine w1_aug rfl ?_ | refine w1_if ?_ | refine w1_for ?_ | refine w1_ret ?_ | refine w1_retN ?_ | refine w1_pass ?_ | refine w1_doc ?_ | refine w1_brk ?_ | refine w1_cont ?_ | refine we_var rfl ?_ | refine we_int ?_ | refine we_glo rfl ?_ | refine we_bin ?_ | refine we_cmp ?_ | refine we_call ?_ | refine we_ix ?_ | refine we_bi ?_ | refine we_tup ?_ | refine we_lst ?_ | refine we_str ?_ | refine we_bl ?_ | refine we_non ?_ | refine we_neg ?_ | refine we_not ?_ | refine we_and ?_ | refine we_or ?_ | refine we_chain ?_ | refine we_ife ?_ | refine we_sl ?_ | refine we_slr ?_ | refine we_isi ?_ | refine we_me ?_ | refine we_lc ?_ | refine wl_nil ?_ | refine wl_cons ?_ | refine wd_nil ?_ | refine wd_cons ?_ | refine wd_star ?_ | refine wo_none ?_ | refine wo_some ?_ | refine wa_one ?_ | refine wa_cons ?_ | refine wb_one ?_ | refine wb_cons ?_ | refine we_dct ?_ | refine we_dct0 ?_ | refine wp_nil ?_ | refine wp_cons ?_ | refine wt_and ?_ | refine wt_or ?_ | refine wt_not ?_ | refine wt_cmp ?_ | refine wt_chain ?_ | refine wt_val rfl ?_ | refine ww_rng1 ?_ | refine ww_rng2 ?_ | refine ww_itv ?_ | refine lct_nil ?_ | refine lct_one ?_ | refine ro_mul ?_ ?_ | refine ro_mod ?_ (by first | assumption | decide) | refine RO.mk rfl ?_ | refine ⟨_, rfl, ?_⟩ | refine ⟨rfl, ?_⟩)
  exact q
theorem tr_nat {n : Nat} (hn : n ≠ 0) : ((n : Int) != 0) = true := by simp [hn]
theorem w_gcd {a b : Nat} (q : Q (DI (Nat.gcd a b)) h) : WC P (k + 1) 3 [DI a, DI b] h Q := by
  refine wc_pur rfl rfl rfl rfl ?_
  repeat (first | refine ws_go ?_ | refine ws_nil ?_ | refine ws_cons ?_ | refine w1_expr ?_ | refine w1_var ?_ | refine w1_tup ?_ | refine w1_ix ?_ | refine w1_par ?_ | refine w1_aug rfl ?_ | refine w1_if ?_ | refine w1_for ?_ | refine w1_ret ?_ | refine w1_retN ?_ | refine w1_pass ?_ | refine w1_doc ?_ | refine w1_brk ?_ | refine w1_cont ?_ | refine we_var rfl ?_ | refine we_int ?_ | refine we_glo rfl ?_ | refine we_bin ?_ | refine we_cmp ?_ | refine we_call ?_ | refine we_ix ?_ | refine we_bi ?_ | refine we_tup ?_ | refine we_lst ?_ | refine we_str ?_ | refine we_bl ?_ | refine we_non ?_ | refine we_neg ?_ | refine we_not ?_ | refine we_and ?_ | refine we_or ?_ | refine we_chain ?_ | refine we_ife ?_ | refine we_sl ?_ | refine we_slr ?_ | refine we_isi ?_ | refine we_me ?_ | refine we_lc ?_ | refine wl_nil ?_ | refine wl_cons ?_ | refine wd_nil ?_ | refine wd_cons ?_ | refine wd_star ?_ | refine wo_none ?_ | refine wo_some ?_ | refine wa_one ?_ | refine wa_cons ?_ | refine wb_one ?_ | refine wb_cons ?_ | refine we_dct ?_ | refine we_dct0 ?_ | refine wp_nil ?_ | refine wp_cons ?_ | refine wt_and ?_ | refine wt_or ?_ | refine wt_not ?_ | refine wt_cmp ?_ | refine wt_chain ?_ | refine wt_val rfl ?_ | refine ww_rng1 ?_ | refine ww_rng2 ?_ | refine ww_itv ?_ | refine lct_nil ?_ | refine lct_one ?_ | refine ro_mul ?_ ?_ | refine ro_mod ?_ (by first | assumption | decide) | refine RO.mk rfl ?_ | refine ⟨_, rfl, ?_⟩ | refine ⟨rfl, ?_⟩)
  have ab : ∀ n : Nat, (if (n : Int) < 0 then -(n : Int) else (n : Int)) = (n : Int) := fun n => if_neg (by omega)
  rw [ab, ab]
  have loop : ∀ (y x : Nat), Nat.gcd x y = Nat.gcd a b → ∀ K : Kt, K.nx [some (DI a), some (DI b), some (DI (Nat.gcd a b)), some (.int 0)] MH.nil →
      WS1 P k (b_common_divisor.getD 1 .pass) [some (DI a), some (DI b), some (DI x), some (DI y)] MH.nil K := by
    intro y
    induction y using Nat.strongRecOn with
    | _ y ih =>
    intro x he K hK
    refine w1_while ?_
    repeat (first | refine ws_go ?_ | refine ws_nil ?_ | refine ws_cons ?_ | refine w1_expr ?_ | refine w1_var ?_ | refine w1_tup ?_ | refine w1_ix ?_ | refine w1_par ?_ | refine w1_aug rfl ?_ | refine w1_if ?_ | refine w1_for ?_ | refine w1_ret ?_ | refine w1_retN ?_ | refine w1_pass ?_ | refine w1_doc ?_ | refine w1_brk ?_ | refine w1_cont ?_ | refine we_var rfl ?_ | refine we_int ?_ | refine we_glo rfl ?_ | refine we_bin ?_ | refine we_cmp ?_ | refine we_call ?_ | refine we_ix ?_ | refine we_bi ?_ | refine we_tup ?_ | refine we_lst ?_ | refine we_str ?_ | refine we_bl ?_ | refine we_non ?_ | refine we_neg ?_ | refine we_not ?_ | refine we_and ?_ | refine we_or ?_ | refine we_chain ?_ | refine we_ife ?_ | refine we_sl ?_ | refine we_slr ?_ | refine we_isi ?_ | refine we_me ?_ | refine we_lc ?_ | refine wl_nil ?_ | refine wl_cons ?_ | refine wd_nil ?_ | refine wd_cons ?_ | refine wd_star ?_ | refine wo_none ?_ | refine wo_some ?_ | refine wa_one ?_ | refine wa_cons ?_ | refine wb_one ?_ | refine wb_cons ?_ | refine we_dct ?_ | refine we_dct0 ?_ | refine wp_nil ?_ | refine wp_cons ?_ | refine wt_and ?_ | refine wt_or ?_ | refine wt_not ?_ | refine wt_cmp ?_ | refine wt_chain ?_ | refine wt_val rfl ?_ | refine ww_rng1 ?_ | refine ww_rng2 ?_ | refine ww_itv ?_ | refine lct_nil ?_ | refine lct_one ?_ | refine ro_mul ?_ ?_ | refine ro_mod ?_ (by first | assumption | decide) | refine RO.mk rfl ?_ | refine ⟨_, rfl, ?_⟩ | refine ⟨rfl, ?_⟩)
    by_cases h0 : y = 0
    · subst h0
      rw [Nat.gcd_zero_right] at he
      subst he
      rw [if_neg (by simp)]
      exact hK
    · rw [if_pos (tr_nat h0)]
      have hp0 : (0 : Int) < (y : Int) := by omega
      repeat (first | refine ws_go ?_ | refine ws_nil ?_ | refine ws_cons ?_ | refine w1_expr ?_ | refine w1_var ?_ | refine w1_tup ?_ | refine w1_ix ?_ | refine w1_par ?_ | refine w1_aug rfl ?_ | refine w1_if ?_ | refine w1_for ?_ | refine w1_ret ?_ | refine w1_retN ?_ | refine w1_pass ?_ | refine w1_doc ?_ | refine w1_brk ?_ | refine w1_cont ?_ | refine we_var rfl ?_ | refine we_int ?_ | refine we_glo rfl ?_ | refine we_bin ?_ | refine we_cmp ?_ | refine we_call ?_ | refine we_ix ?_ | refine we_bi ?_ | refine we_tup ?_ | refine we_lst ?_ | refine we_str ?_ | refine we_bl ?_ | refine we_non ?_ | refine we_neg ?_ | refine we_not ?_ | refine we_and ?_ | refine we_or ?_ | refine we_chain ?_ | refine we_ife ?_ | refine we_sl ?_ | refine we_slr ?_ | refine we_isi ?_ | refine we_me ?_ | refine we_lc ?_ | refine wl_nil ?_ | refine wl_cons ?_ | refine wd_nil ?_ | refine wd_cons ?_ | refine wd_star ?_ | refine wo_none ?_ | refine wo_some ?_ | refine wa_one ?_ | refine wa_cons ?_ | refine wb_one ?_ | refine wb_cons ?_ | refine we_dct ?_ | refine we_dct0 ?_ | refine wp_nil ?_ | refine wp_cons ?_ | refine wt_and ?_ | refine wt_or ?_ | refine wt_not ?_ | refine wt_cmp ?_ | refine wt_chain ?_ | refine wt_val rfl ?_ | refine ww_rng1 ?_ | refine ww_rng2 ?_ | refine ww_itv ?_ | refine lct_nil ?_ | refine lct_one ?_ | refine ro_mul ?_ ?_ | refine ro_mod ?_ (by first | assumption | decide) | refine RO.mk rfl ?_ | refine ⟨_, rfl, ?_⟩ | refine ⟨rfl, ?_⟩)
      have e : (x : Int) % (y : Int) = ((x % y : Nat) : Int) := by rw [Int.natCast_emod]
      rw [e]
      refine ih (x % y) (Nat.mod_lt _ (by omega)) y ?_ _ (ws_nil hK)
      rw [← he, Nat.gcd_comm x y, Nat.gcd_rec y x, Nat.gcd_comm]
  refine loop b a rfl _ ?_
  repeat (first | refine ws_go ?_ | refine ws_nil ?_ | refine ws_cons ?_ | refine w1_expr ?_ | refine w1_var ?_ | refine w1_tup ?_ | refine w1_ix ?_ | refine w1_par ?_ | refine w1_aug rfl ?_ | refine w1_if ?_ | refine w1_for ?_ | refine w1_ret ?_ | refine w1_retN ?_ | refine w1_pass ?_ | refine w1_doc ?_ | refine w1_brk ?_ | refine w1_cont ?_ | refine we_var rfl ?_ | refine we_int ?_ | refine we_glo rfl ?_ | refine we_bin ?_ | refine we_cmp ?_ | refine we_call ?_ | refine we_ix ?_ | refine we_bi ?_ | refine we_tup ?_ | refine we_lst ?_ | refine we_str ?_ | refine we_bl ?_ | refine we_non ?_ | refine we_neg ?_ | refine we_not ?_ | refine we_and ?_ | refine we_or ?_ | refine we_chain ?_ | refine we_ife ?_ | refine we_sl ?_ | refine we_slr ?_ | refine we_isi ?_ | refine we_me ?_ | refine we_lc ?_ | refine wl_nil ?_ | refine wl_cons ?_ | refine wd_nil ?_ | refine wd_cons ?_ | refine wd_star ?_ | refine wo_none ?_ | refine wo_some ?_ | refine wa_one ?_ | refine wa_cons ?_ | refine wb_one ?_ | refine wb_cons ?_ | refine we_dct ?_ | refine we_dct0 ?_ | refine wp_nil ?_ | refine wp_cons ?_ | refine wt_and ?_ | refine wt_or ?_ | refine wt_not ?_ | refine wt_cmp ?_ | refine wt_chain ?_ | refine wt_val rfl ?_ | refine ww_rng1 ?_ | refine ww_rng2 ?_ | refine ww_itv ?_ | refine lct_nil ?_ | refine lct_one ?_ | refine ro_mul ?_ ?_ | refine ro_mod ?_ (by first | assumption | decide) | refine RO.mk rfl ?_ | refine ⟨_, rfl, ?_⟩ | refine ⟨rfl, ?_⟩)
  exact q
end
end Hd
namespace Hd
open PySem MP NT
section
variable {k : Nat} {h : MH} {Q : MP.D → MH → Prop} {p g : Nat} {qs : List Nat}
theorem prm_lt (hg : Prm p g) : 1 < p ∧ p < 2 ^ 20 ∧ 96 < p ∧ p < 12290 := by
  rcases hg with ⟨rfl, rfl⟩ | ⟨rfl, rfl⟩ | ⟨rfl, rfl⟩ | ⟨rfl, rfl⟩ | ⟨rfl, rfl⟩ | ⟨rfl, rfl⟩ <;> decide
theorem prm_g (hg : Prm p g) : g < p := by
  rcases hg with ⟨rfl, rfl⟩ | ⟨rfl, rfl⟩ | ⟨rfl, rfl⟩ | ⟨rfl, rfl⟩ | ⟨rfl, rfl⟩ | ⟨rfl, rfl⟩ <;> decide
theorem roots_ix (hg : Prm p g) : ixD h (.rod [.inl 97, .inl 193, .inl 257, .inl 769, .inl 7681, .inl 12289] [.int 5, .int 5, .int 3, .int 11, .int 17, .int 11]) (DI p) = some (DI g) := by
  rcases hg with ⟨rfl, rfl⟩ | ⟨rfl, rfl⟩ | ⟨rfl, rfl⟩ | ⟨rfl, rfl⟩ | ⟨rfl, rfl⟩ | ⟨rfl, rfl⟩ <;> rfl
theorem w_prime_told (hg : Prm p g) (q : Q (.bl true) h) : WC P (k + 3) 4 [DI p] h Q := by
  have hl := prm_lt hg
  refine wc_pur rfl rfl rfl rfl ?_
  repeat (first | refine ws_go ?_ | refine ws_nil ?_ | refine ws_cons ?_ | refine w1_expr ?_ | refine w1_var ?_ | refine w1_tup ?_ | refine w1_ix ?_ | refine w1_par ?_ | refine w1_aug rfl ?_ | refine w1_if ?_ | refine w1_for ?_ | refine w1_ret ?_ | refine w1_retN ?_ | refine w1_pass ?_ | refine w1_doc ?_ | refine w1_brk ?_ | refine w1_cont ?_ | refine we_var rfl ?_ | refine we_int ?_ | refine we_glo rfl ?_ | refine we_bin ?_ | refine we_cmp ?_ | refine we_call ?_ | refine we_ix ?_ | refine we_bi ?_ | refine we_tup ?_ | refine we_lst ?_ | refine we_str ?_ | refine we_bl ?_ | refine we_non ?_ | refine we_neg ?_ | refine we_not ?_ | refine we_and ?_ | refine we_or ?_ | refine we_chain ?_ | refine we_ife ?_ | refine we_sl ?_ | refine we_slr ?_ | refine we_isi ?_ | refine we_me ?_ | refine we_lc ?_ | refine wl_nil ?_ | refine wl_cons ?_ | refine wd_nil ?_ | refine wd_cons ?_ | refine wd_star ?_ | refine wo_none ?_ | refine wo_some ?_ | refine wa_one ?_ | refine wa_cons ?_ | refine wb_one ?_ | refine wb_cons ?_ | refine we_dct ?_ | refine we_dct0 ?_ | refine wp_nil ?_ | refine wp_cons ?_ | refine wt_and ?_ | refine wt_or ?_ | refine wt_not ?_ | refine wt_cmp ?_ | refine wt_chain ?_ | refine wt_val rfl ?_ | refine ww_rng1 ?_ | refine ww_rng2 ?_ | refine ww_itv ?_ | refine lct_nil ?_ | refine lct_one ?_ | refine ro_mul ?_ ?_ | refine ro_mod ?_ (by first | assumption | decide) | refine RO.mk rfl ?_ | refine ⟨_, rfl, ?_⟩ | refine ⟨rfl, ?_⟩)
  refine w_within (by omega) (by omega) ?_
  repeat (first | refine ws_go ?_ | refine ws_nil ?_ | refine ws_cons ?_ | refine w1_expr ?_ | refine w1_var ?_ | refine w1_tup ?_ | refine w1_ix ?_ | refine w1_par ?_ | refine w1_aug rfl ?_ | refine w1_if ?_ | refine w1_for ?_ | refine w1_ret ?_ | refine w1_retN ?_ | refine w1_pass ?_ | refine w1_doc ?_ | refine w1_brk ?_ | refine w1_cont ?_ | refine we_var rfl ?_ | refine we_int ?_ | refine we_glo rfl ?_ | refine we_bin ?_ | refine we_cmp ?_ | refine we_call ?_ | refine we_ix ?_ | refine we_bi ?_ | refine we_tup ?_ | refine we_lst ?_ | refine we_str ?_ | refine we_bl ?_ | refine we_non ?_ | refine we_neg ?_ | refine we_not ?_ | refine we_and ?_ | refine we_or ?_ | refine we_chain ?_ | refine we_ife ?_ | refine we_sl ?_ | refine we_slr ?_ | refine we_isi ?_ | refine we_me ?_ | refine we_lc ?_ | refine wl_nil ?_ | refine wl_cons ?_ | refine wd_nil ?_ | refine wd_cons ?_ | refine wd_star ?_ | refine wo_none ?_ | refine wo_some ?_ | refine wa_one ?_ | refine wa_cons ?_ | refine wb_one ?_ | refine wb_cons ?_ | refine we_dct ?_ | refine we_dct0 ?_ | refine wp_nil ?_ | refine wp_cons ?_ | refine wt_and ?_ | refine wt_or ?_ | refine wt_not ?_ | refine wt_cmp ?_ | refine wt_chain ?_ | refine wt_val rfl ?_ | refine ww_rng1 ?_ | refine ww_rng2 ?_ | refine ww_itv ?_ | refine lct_nil ?_ | refine lct_one ?_ | refine ro_mul ?_ ?_ | refine ro_mod ?_ (by first | assumption | decide) | refine RO.mk rfl ?_ | refine ⟨_, rfl, ?_⟩ | refine ⟨rfl, ?_⟩)
  have e : L2.inV (L2.V.int (p : Int)) [L2.V.int 97, L2.V.int 193, L2.V.int 257, L2.V.int 769, L2.V.int 7681, L2.V.int 12289] = true := by
    rcases hg with ⟨rfl, rfl⟩ | ⟨rfl, rfl⟩ | ⟨rfl, rfl⟩ | ⟨rfl, rfl⟩ | ⟨rfl, rfl⟩ | ⟨rfl, rfl⟩ <;> rfl
  rw [e]
  exact q
theorem w_number_by {a : Nat} (ha : a < p) (q : Q (.bl true) h) : WC P (k + 3) 5 [DI p, DI a] h Q := by
  refine wc_pur rfl rfl rfl rfl ?_
  repeat (first | refine ws_go ?_ | refine ws_nil ?_ | refine ws_cons ?_ | refine w1_expr ?_ | refine w1_var ?_ | refine w1_tup ?_ | refine w1_ix ?_ | refine w1_par ?_ | refine w1_aug rfl ?_ | refine w1_if ?_ | refine w1_for ?_ | refine w1_ret ?_ | refine w1_retN ?_ | refine w1_pass ?_ | refine w1_doc ?_ | refine w1_brk ?_ | refine w1_cont ?_ | refine we_var rfl ?_ | refine we_int ?_ | refine we_glo rfl ?_ | refine we_bin ?_ | refine we_cmp ?_ | refine we_call ?_ | refine we_ix ?_ | refine we_bi ?_ | refine we_tup ?_ | refine we_lst ?_ | refine we_str ?_ | refine we_bl ?_ | refine we_non ?_ | refine we_neg ?_ | refine we_not ?_ | refine we_and ?_ | refine we_or ?_ | refine we_chain ?_ | refine we_ife ?_ | refine we_sl ?_ | refine we_slr ?_ | refine we_isi ?_ | refine we_me ?_ | refine we_lc ?_ | refine wl_nil ?_ | refine wl_cons ?_ | refine wd_nil ?_ | refine wd_cons ?_ | refine wd_star ?_ | refine wo_none ?_ | refine wo_some ?_ | refine wa_one ?_ | refine wa_cons ?_ | refine wb_one ?_ | refine wb_cons ?_ | refine we_dct ?_ | refine we_dct0 ?_ | refine wp_nil ?_ | refine wp_cons ?_ | refine wt_and ?_ | refine wt_or ?_ | refine wt_not ?_ | refine wt_cmp ?_ | refine wt_chain ?_ | refine wt_val rfl ?_ | refine ww_rng1 ?_ | refine ww_rng2 ?_ | refine ww_itv ?_ | refine lct_nil ?_ | refine lct_one ?_ | refine ro_mul ?_ ?_ | refine ro_mod ?_ (by first | assumption | decide) | refine RO.mk rfl ?_ | refine ⟨_, rfl, ?_⟩ | refine ⟨rfl, ?_⟩)
  refine w_within (by omega) (by omega) ?_
  repeat (first | refine ws_go ?_ | refine ws_nil ?_ | refine ws_cons ?_ | refine w1_expr ?_ | refine w1_var ?_ | refine w1_tup ?_ | refine w1_ix ?_ | refine w1_par ?_ | refine w1_aug rfl ?_ | refine w1_if ?_ | refine w1_for ?_ | refine w1_ret ?_ | refine w1_retN ?_ | refine w1_pass ?_ | refine w1_doc ?_ | refine w1_brk ?_ | refine w1_cont ?_ | refine we_var rfl ?_ | refine we_int ?_ | refine we_glo rfl ?_ | refine we_bin ?_ | refine we_cmp ?_ | refine we_call ?_ | refine we_ix ?_ | refine we_bi ?_ | refine we_tup ?_ | refine we_lst ?_ | refine we_str ?_ | refine we_bl ?_ | refine we_non ?_ | refine we_neg ?_ | refine we_not ?_ | refine we_and ?_ | refine we_or ?_ | refine we_chain ?_ | refine we_ife ?_ | refine we_sl ?_ | refine we_slr ?_ | refine we_isi ?_ | refine we_me ?_ | refine we_lc ?_ | refine wl_nil ?_ | refine wl_cons ?_ | refine wd_nil ?_ | refine wd_cons ?_ | refine wd_star ?_ | refine wo_none ?_ | refine wo_some ?_ | refine wa_one ?_ | refine wa_cons ?_ | refine wb_one ?_ | refine wb_cons ?_ | refine we_dct ?_ | refine we_dct0 ?_ | refine wp_nil ?_ | refine wp_cons ?_ | refine wt_and ?_ | refine wt_or ?_ | refine wt_not ?_ | refine wt_cmp ?_ | refine wt_chain ?_ | refine wt_val rfl ?_ | refine ww_rng1 ?_ | refine ww_rng2 ?_ | refine ww_itv ?_ | refine lct_nil ?_ | refine lct_one ?_ | refine ro_mul ?_ ?_ | refine ro_mod ?_ (by first | assumption | decide) | refine RO.mk rfl ?_ | refine ⟨_, rfl, ?_⟩ | refine ⟨rfl, ?_⟩)
  exact q
theorem w_log {i : Nat} (hg : Prm p g) (R : Root p g (p - 1) qs) (hi : i < p - 1) (q : Q (DI i) h) : WC P (k + 1) 9 [DI p, DI (g ^ i % p)] h Q := by
  have hl := prm_lt hg
  have hp0 : (0 : Int) < (p : Int) := by omega
  refine wc_pur rfl rfl rfl rfl ?_
  repeat (first | refine ws_go ?_ | refine ws_nil ?_ | refine ws_cons ?_ | refine w1_expr ?_ | refine w1_var ?_ | refine w1_tup ?_ | refine w1_ix ?_ | refine w1_par ?_ | refine w1_aug rfl ?_ | refine w1_if ?_ | refine w1_for ?_ | refine w1_ret ?_ | refine w1_retN ?_ | refine w1_pass ?_ | refine w1_doc ?_ | refine w1_brk ?_ | refine w1_cont ?_ | refine we_var rfl ?_ | refine we_int ?_ | refine we_glo rfl ?_ | refine we_bin ?_ | refine we_cmp ?_ | refine we_call ?_ | refine we_ix ?_ | refine we_bi ?_ | refine we_tup ?_ | refine we_lst ?_ | refine we_str ?_ | refine we_bl ?_ | refine we_non ?_ | refine we_neg ?_ | refine we_not ?_ | refine we_and ?_ | refine we_or ?_ | refine we_chain ?_ | refine we_ife ?_ | refine we_sl ?_ | refine we_slr ?_ | refine we_isi ?_ | refine we_me ?_ | refine we_lc ?_ | refine wl_nil ?_ | refine wl_cons ?_ | refine wd_nil ?_ | refine wd_cons ?_ | refine wd_star ?_ | refine wo_none ?_ | refine wo_some ?_ | refine wa_one ?_ | refine wa_cons ?_ | refine wb_one ?_ | refine wb_cons ?_ | refine we_dct ?_ | refine we_dct0 ?_ | refine wp_nil ?_ | refine wp_cons ?_ | refine wt_and ?_ | refine wt_or ?_ | refine wt_not ?_ | refine wt_cmp ?_ | refine wt_chain ?_ | refine wt_val rfl ?_ | refine ww_rng1 ?_ | refine ww_rng2 ?_ | refine ww_itv ?_ | refine lct_nil ?_ | refine lct_one ?_ | refine ro_mul ?_ ?_ | refine ro_mod ?_ (by first | assumption | decide) | refine RO.mk rfl ?_ | refine ⟨_, rfl, ?_⟩ | refine ⟨rfl, ?_⟩)
  have loop : ∀ (d l : Nat), l + d = i → ∀ K : Kt, K.nx [some (DI p), some (DI (g ^ i % p)), some (DI (g ^ i % p)), some (DI i)] MH.nil →
      WS1 P k (b_log_in.getD 1 .pass) [some (DI p), some (DI (g ^ i % p)), some (DI (g ^ l % p)), some (DI l)] MH.nil K := by
    intro d
    induction d with
    | zero =>
      intro l he K hK
      have : l = i := by omega
      subst this
      refine w1_while ?_
      repeat (first | refine ws_go ?_ | refine ws_nil ?_ | refine ws_cons ?_ | refine w1_expr ?_ | refine w1_var ?_ | refine w1_tup ?_ | refine w1_ix ?_ | refine w1_par ?_ | refine w1_aug rfl ?_ | refine w1_if ?_ | refine w1_for ?_ | refine w1_ret ?_ | refine w1_retN ?_ | refine w1_pass ?_ | refine w1_doc ?_ | refine w1_brk ?_ | refine w1_cont ?_ | refine we_var rfl ?_ | refine we_int ?_ | refine we_glo rfl ?_ | refine we_bin ?_ | refine we_cmp ?_ | refine we_call ?_ | refine we_ix ?_ | refine we_bi ?_ | refine we_tup ?_ | refine we_lst ?_ | refine we_str ?_ | refine we_bl ?_ | refine we_non ?_ | refine we_neg ?_ | refine we_not ?_ | refine we_and ?_ | refine we_or ?_ | refine we_chain ?_ | refine we_ife ?_ | refine we_sl ?_ | refine we_slr ?_ | refine we_isi ?_ | refine we_me ?_ | refine we_lc ?_ | refine wl_nil ?_ | refine wl_cons ?_ | refine wd_nil ?_ | refine wd_cons ?_ | refine wd_star ?_ | refine wo_none ?_ | refine wo_some ?_ | refine wa_one ?_ | refine wa_cons ?_ | refine wb_one ?_ | refine wb_cons ?_ | refine we_dct ?_ | refine we_dct0 ?_ | refine wp_nil ?_ | refine wp_cons ?_ | refine wt_and ?_ | refine wt_or ?_ | refine wt_not ?_ | refine wt_cmp ?_ | refine wt_chain ?_ | refine wt_val rfl ?_ | refine ww_rng1 ?_ | refine ww_rng2 ?_ | refine ww_itv ?_ | refine lct_nil ?_ | refine lct_one ?_ | refine ro_mul ?_ ?_ | refine ro_mod ?_ (by first | assumption | decide) | refine RO.mk rfl ?_ | refine ⟨_, rfl, ?_⟩ | refine ⟨rfl, ?_⟩)
      rw [if_neg (by simp)]
      exact hK
    | succ d ih =>
      intro l he K hK
      have hne := R.inj (i := l) (j := i) (by omega) hi
      refine w1_while ?_
      repeat (first | refine ws_go ?_ | refine ws_nil ?_ | refine ws_cons ?_ | refine w1_expr ?_ | refine w1_var ?_ | refine w1_tup ?_ | refine w1_ix ?_ | refine w1_par ?_ | refine w1_aug rfl ?_ | refine w1_if ?_ | refine w1_for ?_ | refine w1_ret ?_ | refine w1_retN ?_ | refine w1_pass ?_ | refine w1_doc ?_ | refine w1_brk ?_ | refine w1_cont ?_ | refine we_var rfl ?_ | refine we_int ?_ | refine we_glo rfl ?_ | refine we_bin ?_ | refine we_cmp ?_ | refine we_call ?_ | refine we_ix ?_ | refine we_bi ?_ | refine we_tup ?_ | refine we_lst ?_ | refine we_str ?_ | refine we_bl ?_ | refine we_non ?_ | refine we_neg ?_ | refine we_not ?_ | refine we_and ?_ | refine we_or ?_ | refine we_chain ?_ | refine we_ife ?_ | refine we_sl ?_ | refine we_slr ?_ | refine we_isi ?_ | refine we_me ?_ | refine we_lc ?_ | refine wl_nil ?_ | refine wl_cons ?_ | refine wd_nil ?_ | refine wd_cons ?_ | refine wd_star ?_ | refine wo_none ?_ | refine wo_some ?_ | refine wa_one ?_ | refine wa_cons ?_ | refine wb_one ?_ | refine wb_cons ?_ | refine we_dct ?_ | refine we_dct0 ?_ | refine wp_nil ?_ | refine wp_cons ?_ | refine wt_and ?_ | refine wt_or ?_ | refine wt_not ?_ | refine wt_cmp ?_ | refine wt_chain ?_ | refine wt_val rfl ?_ | refine ww_rng1 ?_ | refine ww_rng2 ?_ | refine ww_itv ?_ | refine lct_nil ?_ | refine lct_one ?_ | refine ro_mul ?_ ?_ | refine ro_mod ?_ (by first | assumption | decide) | refine RO.mk rfl ?_ | refine ⟨_, rfl, ?_⟩ | refine ⟨rfl, ?_⟩)
      rw [if_pos (by simp only [Bool.not_eq_true', decide_eq_false_iff_not]; omega)]
      repeat (first | refine ws_go ?_ | refine ws_nil ?_ | refine ws_cons ?_ | refine w1_expr ?_ | refine w1_var ?_ | refine w1_tup ?_ | refine w1_ix ?_ | refine w1_par ?_ | refine w1_aug rfl ?_ | refine w1_if ?_ | refine w1_for ?_ | refine w1_ret ?_ | refine w1_retN ?_ | refine w1_pass ?_ | refine w1_doc ?_ | refine w1_brk ?_ | refine w1_cont ?_ | refine we_var rfl ?_ | refine we_int ?_ | refine we_glo rfl ?_ | refine we_bin ?_ | refine we_cmp ?_ | refine we_call ?_ | refine we_ix ?_ | refine we_bi ?_ | refine we_tup ?_ | refine we_lst ?_ | refine we_str ?_ | refine we_bl ?_ | refine we_non ?_ | refine we_neg ?_ | refine we_not ?_ | refine we_and ?_ | refine we_or ?_ | refine we_chain ?_ | refine we_ife ?_ | refine we_sl ?_ | refine we_slr ?_ | refine we_isi ?_ | refine we_me ?_ | refine we_lc ?_ | refine wl_nil ?_ | refine wl_cons ?_ | refine wd_nil ?_ | refine wd_cons ?_ | refine wd_star ?_ | refine wo_none ?_ | refine wo_some ?_ | refine wa_one ?_ | refine wa_cons ?_ | refine wb_one ?_ | refine wb_cons ?_ | refine we_dct ?_ | refine we_dct0 ?_ | refine wp_nil ?_ | refine wp_cons ?_ | refine wt_and ?_ | refine wt_or ?_ | refine wt_not ?_ | refine wt_cmp ?_ | refine wt_chain ?_ | refine wt_val rfl ?_ | refine ww_rng1 ?_ | refine ww_rng2 ?_ | refine ww_itv ?_ | refine lct_nil ?_ | refine lct_one ?_ | refine ro_mul ?_ ?_ | refine ro_mod ?_ (by first | assumption | decide) | refine RO.mk rfl ?_ | refine ⟨_, rfl, ?_⟩ | refine ⟨rfl, ?_⟩)
      refine ⟨_, roots_ix hg, ?_⟩
      repeat (first | refine ws_go ?_ | refine ws_nil ?_ | refine ws_cons ?_ | refine w1_expr ?_ | refine w1_var ?_ | refine w1_tup ?_ | refine w1_ix ?_ | refine w1_par ?_ | refine w1_aug rfl ?_ | refine w1_if ?_ | refine w1_for ?_ | refine w1_ret ?_ | refine w1_retN ?_ | refine w1_pass ?_ | refine w1_doc ?_ | refine w1_brk ?_ | refine w1_cont ?_ | refine we_var rfl ?_ | refine we_int ?_ | refine we_glo rfl ?_ | refine we_bin ?_ | refine we_cmp ?_ | refine we_call ?_ | refine we_ix ?_ | refine we_bi ?_ | refine we_tup ?_ | refine we_lst ?_ | refine we_str ?_ | refine we_bl ?_ | refine we_non ?_ | refine we_neg ?_ | refine we_not ?_ | refine we_and ?_ | refine we_or ?_ | refine we_chain ?_ | refine we_ife ?_ | refine we_sl ?_ | refine we_slr ?_ | refine we_isi ?_ | refine we_me ?_ | refine we_lc ?_ | refine wl_nil ?_ | refine wl_cons ?_ | refine wd_nil ?_ | refine wd_cons ?_ | refine wd_star ?_ | refine wo_none ?_ | refine wo_some ?_ | refine wa_one ?_ | refine wa_cons ?_ | refine wb_one ?_ | refine wb_cons ?_ | refine we_dct ?_ | refine we_dct0 ?_ | refine wp_nil ?_ | refine wp_cons ?_ | refine wt_and ?_ | refine wt_or ?_ | refine wt_not ?_ | refine wt_cmp ?_ | refine wt_chain ?_ | refine wt_val rfl ?_ | refine ww_rng1 ?_ | refine ww_rng2 ?_ | refine ww_itv ?_ | refine lct_nil ?_ | refine lct_one ?_ | refine ro_mul ?_ ?_ | refine ro_mod ?_ (by first | assumption | decide) | refine RO.mk rfl ?_ | refine ⟨_, rfl, ?_⟩ | refine ⟨rfl, ?_⟩)
      · have e : ((g ^ l % p : Nat) : Int) * (g : Int) % (p : Int) = ((g ^ (l + 1) % p : Nat) : Int) := by
          rw [cast_mul_mod, Nat.mod_mul_mod, Nat.pow_succ]
        have e2 : (l : Int) + 1 = ((l + 1 : Nat) : Int) := by omega
        rw [e, e2]
        exact ih (l + 1) (by omega) _ (ws_nil hK)
      · exact mul_ok (small hl.2.1 (Nat.mod_lt _ (by omega))) (small hl.2.1 (prm_g hg))
  have e1 : (MP.D.int 1) = DI (g ^ 0 % p) := by
    rw [Nat.pow_zero, Nat.mod_eq_of_lt hl.1]; rfl
  have := loop i 0 (by omega)
  rw [← e1] at this
  refine this _ ?_
  repeat (first | refine ws_go ?_ | refine ws_nil ?_ | refine ws_cons ?_ | refine w1_expr ?_ | refine w1_var ?_ | refine w1_tup ?_ | refine w1_ix ?_ | refine w1_par ?_ | refine w1_aug rfl ?_ | refine w1_if ?_ | refine w1_for ?_ | refine w1_ret ?_ | refine w1_retN ?_ | refine w1_pass ?_ | refine w1_doc ?_ | refine w1_brk ?_ | refine w1_cont ?_ | refine we_var rfl ?_ | refine we_int ?_ | refine we_glo rfl ?_ | refine we_bin ?_ | refine we_cmp ?_ | refine we_call ?_ | refine we_ix ?_ | refine we_bi ?_ | refine we_tup ?_ | refine we_lst ?_ | refine we_str ?_ | refine we_bl ?_ | refine we_non ?_ | refine we_neg ?_ | refine we_not ?_ | refine we_and ?_ | refine we_or ?_ | refine we_chain ?_ | refine we_ife ?_ | refine we_sl ?_ | refine we_slr ?_ | refine we_isi ?_ | refine we_me ?_ | refine we_lc ?_ | refine wl_nil ?_ | refine wl_cons ?_ | refine wd_nil ?_ | refine wd_cons ?_ | refine wd_star ?_ | refine wo_none ?_ | refine wo_some ?_ | refine wa_one ?_ | refine wa_cons ?_ | refine wb_one ?_ | refine wb_cons ?_ | refine we_dct ?_ | refine we_dct0 ?_ | refine wp_nil ?_ | refine wp_cons ?_ | refine wt_and ?_ | refine wt_or ?_ | refine wt_not ?_ | refine wt_cmp ?_ | refine wt_chain ?_ | refine wt_val rfl ?_ | refine ww_rng1 ?_ | refine ww_rng2 ?_ | refine ww_itv ?_ | refine lct_nil ?_ | refine lct_one ?_ | refine ro_mul ?_ ?_ | refine ro_mod ?_ (by first | assumption | decide) | refine RO.mk rfl ?_ | refine ⟨_, rfl, ?_⟩ | refine ⟨rfl, ?_⟩)
  exact q
theorem w_order {i : Nat} (hg : Prm p g) (R : Root p g (p - 1) qs) (hi : i < p - 1) (q : Q (DI ((p - 1) / Nat.gcd (p - 1) i)) h) : WC P (k + 2) 10 [DI p, DI (g ^ i % p)] h Q := by
  have hl := prm_lt hg
  refine wc_pur rfl rfl rfl rfl ?_
  repeat (first | refine ws_go ?_ | refine ws_nil ?_ | refine ws_cons ?_ | refine w1_expr ?_ | refine w1_var ?_ | refine w1_tup ?_ | refine w1_ix ?_ | refine w1_par ?_ | refine w1_aug rfl ?_ | refine w1_if ?_ | refine w1_for ?_ | refine w1_ret ?_ | refine w1_retN ?_ | refine w1_pass ?_ | refine w1_doc ?_ | refine w1_brk ?_ | refine w1_cont ?_ | refine we_var rfl ?_ | refine we_int ?_ | refine we_glo rfl ?_ | refine we_bin ?_ | refine we_cmp ?_ | refine we_call ?_ | refine we_ix ?_ | refine we_bi ?_ | refine we_tup ?_ | refine we_lst ?_ | refine we_str ?_ | refine we_bl ?_ | refine we_non ?_ | refine we_neg ?_ | refine we_not ?_ | refine we_and ?_ | refine we_or ?_ | refine we_chain ?_ | refine we_ife ?_ | refine we_sl ?_ | refine we_slr ?_ | refine we_isi ?_ | refine we_me ?_ | refine we_lc ?_ | refine wl_nil ?_ | refine wl_cons ?_ | refine wd_nil ?_ | refine wd_cons ?_ | refine wd_star ?_ | refine wo_none ?_ | refine wo_some ?_ | refine wa_one ?_ | refine wa_cons ?_ | refine wb_one ?_ | refine wb_cons ?_ | refine we_dct ?_ | refine we_dct0 ?_ | refine wp_nil ?_ | refine wp_cons ?_ | refine wt_and ?_ | refine wt_or ?_ | refine wt_not ?_ | refine wt_cmp ?_ | refine wt_chain ?_ | refine wt_val rfl ?_ | refine ww_rng1 ?_ | refine ww_rng2 ?_ | refine ww_itv ?_ | refine lct_nil ?_ | refine lct_one ?_ | refine ro_mul ?_ ?_ | refine ro_mod ?_ (by first | assumption | decide) | refine RO.mk rfl ?_ | refine ⟨_, rfl, ?_⟩ | refine ⟨rfl, ?_⟩)
  refine w_log hg R hi ?_
  repeat (first | refine ws_go ?_ | refine ws_nil ?_ | refine ws_cons ?_ | refine w1_expr ?_ | refine w1_var ?_ | refine w1_tup ?_ | refine w1_ix ?_ | refine w1_par ?_ | refine w1_aug rfl ?_ | refine w1_if ?_ | refine w1_for ?_ | refine w1_ret ?_ | refine w1_retN ?_ | refine w1_pass ?_ | refine w1_doc ?_ | refine w1_brk ?_ | refine w1_cont ?_ | refine we_var rfl ?_ | refine we_int ?_ | refine we_glo rfl ?_ | refine we_bin ?_ | refine we_cmp ?_ | refine we_call ?_ | refine we_ix ?_ | refine we_bi ?_ | refine we_tup ?_ | refine we_lst ?_ | refine we_str ?_ | refine we_bl ?_ | refine we_non ?_ | refine we_neg ?_ | refine we_not ?_ | refine we_and ?_ | refine we_or ?_ | refine we_chain ?_ | refine we_ife ?_ | refine we_sl ?_ | refine we_slr ?_ | refine we_isi ?_ | refine we_me ?_ | refine we_lc ?_ | refine wl_nil ?_ | refine wl_cons ?_ | refine wd_nil ?_ | refine wd_cons ?_ | refine wd_star ?_ | refine wo_none ?_ | refine wo_some ?_ | refine wa_one ?_ | refine wa_cons ?_ | refine wb_one ?_ | refine wb_cons ?_ | refine we_dct ?_ | refine we_dct0 ?_ | refine wp_nil ?_ | refine wp_cons ?_ | refine wt_and ?_ | refine wt_or ?_ | refine wt_not ?_ | refine wt_cmp ?_ | refine wt_chain ?_ | refine wt_val rfl ?_ | refine ww_rng1 ?_ | refine ww_rng2 ?_ | refine ww_itv ?_ | refine lct_nil ?_ | refine lct_one ?_ | refine ro_mul ?_ ?_ | refine ro_mod ?_ (by first | assumption | decide) | refine RO.mk rfl ?_ | refine ⟨_, rfl, ?_⟩ | refine ⟨rfl, ?_⟩)
  have e : (p : Int) - 1 = ((p - 1 : Nat) : Int) := by omega
  rw [e]
  refine w_gcd ?_
  repeat (first | refine ws_go ?_ | refine ws_nil ?_ | refine ws_cons ?_ | refine w1_expr ?_ | refine w1_var ?_ | refine w1_tup ?_ | refine w1_ix ?_ | refine w1_par ?_ | refine w1_aug rfl ?_ | refine w1_if ?_ | refine w1_for ?_ | refine w1_ret ?_ | refine w1_retN ?_ | refine w1_pass ?_ | refine w1_doc ?_ | refine w1_brk ?_ | refine w1_cont ?_ | refine we_var rfl ?_ | refine we_int ?_ | refine we_glo rfl ?_ | refine we_bin ?_ | refine we_cmp ?_ | refine we_call ?_ | refine we_ix ?_ | refine we_bi ?_ | refine we_tup ?_ | refine we_lst ?_ | refine we_str ?_ | refine we_bl ?_ | refine we_non ?_ | refine we_neg ?_ | refine we_not ?_ | refine we_and ?_ | refine we_or ?_ | refine we_chain ?_ | refine we_ife ?_ | refine we_sl ?_ | refine we_slr ?_ | refine we_isi ?_ | refine we_me ?_ | refine we_lc ?_ | refine wl_nil ?_ | refine wl_cons ?_ | refine wd_nil ?_ | refine wd_cons ?_ | refine wd_star ?_ | refine wo_none ?_ | refine wo_some ?_ | refine wa_one ?_ | refine wa_cons ?_ | refine wb_one ?_ | refine wb_cons ?_ | refine we_dct ?_ | refine we_dct0 ?_ | refine wp_nil ?_ | refine wp_cons ?_ | refine wt_and ?_ | refine wt_or ?_ | refine wt_not ?_ | refine wt_cmp ?_ | refine wt_chain ?_ | refine wt_val rfl ?_ | refine ww_rng1 ?_ | refine ww_rng2 ?_ | refine ww_itv ?_ | refine lct_nil ?_ | refine lct_one ?_ | refine ro_mul ?_ ?_ | refine ro_mod ?_ (by first | assumption | decide) | refine RO.mk rfl ?_ | refine ⟨_, rfl, ?_⟩ | refine ⟨rfl, ?_⟩)
  have h0 : 0 < Nat.gcd (p - 1) i := Nat.gcd_pos_of_pos_left i (by omega)
  have h1 : Nat.gcd (p - 1) i ≤ p - 1 := Nat.gcd_le_left i (by omega)
  refine ro_fdiv ?_ ⟨by omega, ?_⟩
  · have e2 : ((p - 1 : Nat) : Int) / ((Nat.gcd (p - 1) i : Nat) : Int) = (((p - 1) / Nat.gcd (p - 1) i : Nat) : Int) := by rw [Int.natCast_ediv]
    repeat (first | refine ws_go ?_ | refine ws_nil ?_ | refine ws_cons ?_ | refine w1_expr ?_ | refine w1_var ?_ | refine w1_tup ?_ | refine w1_ix ?_ | refine w1_par ?_ | refine w1_aug rfl ?_ | refine w1_if ?_ | refine w1_for ?_ | refine w1_ret ?_ | refine w1_retN ?_ | refine w1_pass ?_ | refine w1_doc ?_ | refine w1_brk ?_ | refine w1_cont ?_ | refine we_var rfl ?_ | refine we_int ?_ | refine we_glo rfl ?_ | refine we_bin ?_ | refine we_cmp ?_ | refine we_call ?_ | refine we_ix ?_ | refine we_bi ?_ | refine we_tup ?_ | refine we_lst ?_ | refine we_str ?_ | refine we_bl ?_ | refine we_non ?_ | refine we_neg ?_ | refine we_not ?_ | refine we_and ?_ | refine we_or ?_ | refine we_chain ?_ | refine we_ife ?_ | refine we_sl ?_ | refine we_slr ?_ | refine we_isi ?_ | refine we_me ?_ | refine we_lc ?_ | refine wl_nil ?_ | refine wl_cons ?_ | refine wd_nil ?_ | refine wd_cons ?_ | refine wd_star ?_ | refine wo_none ?_ | refine wo_some ?_ | refine wa_one ?_ | refine wa_cons ?_ | refine wb_one ?_ | refine wb_cons ?_ | refine we_dct ?_ | refine we_dct0 ?_ | refine wp_nil ?_ | refine wp_cons ?_ | refine wt_and ?_ | refine wt_or ?_ | refine wt_not ?_ | refine wt_cmp ?_ | refine wt_chain ?_ | refine wt_val rfl ?_ | refine ww_rng1 ?_ | refine ww_rng2 ?_ | refine ww_itv ?_ | refine lct_nil ?_ | refine lct_one ?_ | refine ro_mul ?_ ?_ | refine ro_mod ?_ (by first | assumption | decide) | refine RO.mk rfl ?_ | refine ⟨_, rfl, ?_⟩ | refine ⟨rfl, ?_⟩)
    rw [e2]
    exact q
  · rw [Int.natAbs_natCast]
    exact Nat.lt_of_lt_of_le (log2_of (i := ((Nat.gcd (p - 1) i : Nat) : Int)) (a := 20) (by rw [Int.natAbs_natCast]; omega) (by decide)) (by decide)
end
end Hd
namespace Hd
open PySem MP NT
section
variable {k : Nat} {h : MH} {Q : MP.D → MH → Prop} {p g : Nat} {qs : List Nat}
theorem w_req_prime (hg : Prm p g) (q : Q .non h) : WC P (k + 4) 11 [DI p] h Q := by
  refine wc_pur rfl rfl rfl rfl ?_
  repeat (first | refine ws_go ?_ | refine ws_nil ?_ | refine ws_cons ?_ | refine w1_expr ?_ | refine w1_var ?_ | refine w1_tup ?_ | refine w1_ix ?_ | refine w1_par ?_ | refine w1_aug rfl ?_ | refine w1_if ?_ | refine w1_for ?_ | refine w1_ret ?_ | refine w1_retN ?_ | refine w1_pass ?_ | refine w1_doc ?_ | refine w1_brk ?_ | refine w1_cont ?_ | refine we_var rfl ?_ | refine we_int ?_ | refine we_glo rfl ?_ | refine we_bin ?_ | refine we_cmp ?_ | refine we_call ?_ | refine we_ix ?_ | refine we_bi ?_ | refine we_tup ?_ | refine we_lst ?_ | refine we_str ?_ | refine we_bl ?_ | refine we_non ?_ | refine we_neg ?_ | refine we_not ?_ | refine we_and ?_ | refine we_or ?_ | refine we_chain ?_ | refine we_ife ?_ | refine we_sl ?_ | refine we_slr ?_ | refine we_isi ?_ | refine we_me ?_ | refine we_lc ?_ | refine wl_nil ?_ | refine wl_cons ?_ | refine wd_nil ?_ | refine wd_cons ?_ | refine wd_star ?_ | refine wo_none ?_ | refine wo_some ?_ | refine wa_one ?_ | refine wa_cons ?_ | refine wb_one ?_ | refine wb_cons ?_ | refine we_dct ?_ | refine we_dct0 ?_ | refine wp_nil ?_ | refine wp_cons ?_ | refine wt_and ?_ | refine wt_or ?_ | refine wt_not ?_ | refine wt_cmp ?_ | refine wt_chain ?_ | refine wt_val rfl ?_ | refine ww_rng1 ?_ | refine ww_rng2 ?_ | refine ww_itv ?_ | refine lct_nil ?_ | refine lct_one ?_ | refine ro_mul ?_ ?_ | refine ro_mod ?_ (by first | assumption | decide) | refine RO.mk rfl ?_ | refine ⟨_, rfl, ?_⟩ | refine ⟨rfl, ?_⟩)
  refine w_prime_told hg ?_
  repeat (first | refine ws_go ?_ | refine ws_nil ?_ | refine ws_cons ?_ | refine w1_expr ?_ | refine w1_var ?_ | refine w1_tup ?_ | refine w1_ix ?_ | refine w1_par ?_ | refine w1_aug rfl ?_ | refine w1_if ?_ | refine w1_for ?_ | refine w1_ret ?_ | refine w1_retN ?_ | refine w1_pass ?_ | refine w1_doc ?_ | refine w1_brk ?_ | refine w1_cont ?_ | refine we_var rfl ?_ | refine we_int ?_ | refine we_glo rfl ?_ | refine we_bin ?_ | refine we_cmp ?_ | refine we_call ?_ | refine we_ix ?_ | refine we_bi ?_ | refine we_tup ?_ | refine we_lst ?_ | refine we_str ?_ | refine we_bl ?_ | refine we_non ?_ | refine we_neg ?_ | refine we_not ?_ | refine we_and ?_ | refine we_or ?_ | refine we_chain ?_ | refine we_ife ?_ | refine we_sl ?_ | refine we_slr ?_ | refine we_isi ?_ | refine we_me ?_ | refine we_lc ?_ | refine wl_nil ?_ | refine wl_cons ?_ | refine wd_nil ?_ | refine wd_cons ?_ | refine wd_star ?_ | refine wo_none ?_ | refine wo_some ?_ | refine wa_one ?_ | refine wa_cons ?_ | refine wb_one ?_ | refine wb_cons ?_ | refine we_dct ?_ | refine we_dct0 ?_ | refine wp_nil ?_ | refine wp_cons ?_ | refine wt_and ?_ | refine wt_or ?_ | refine wt_not ?_ | refine wt_cmp ?_ | refine wt_chain ?_ | refine wt_val rfl ?_ | refine ww_rng1 ?_ | refine ww_rng2 ?_ | refine ww_itv ?_ | refine lct_nil ?_ | refine lct_one ?_ | refine ro_mul ?_ ?_ | refine ro_mod ?_ (by first | assumption | decide) | refine RO.mk rfl ?_ | refine ⟨_, rfl, ?_⟩ | refine ⟨rfl, ?_⟩)
  exact q
theorem w_req_number {a : Nat} (ha : a < p) (q : Q .non h) : WC P (k + 4) 12 [DI p, DI a] h Q := by
  refine wc_pur rfl rfl rfl rfl ?_
  repeat (first | refine ws_go ?_ | refine ws_nil ?_ | refine ws_cons ?_ | refine w1_expr ?_ | refine w1_var ?_ | refine w1_tup ?_ | refine w1_ix ?_ | refine w1_par ?_ | refine w1_aug rfl ?_ | refine w1_if ?_ | refine w1_for ?_ | refine w1_ret ?_ | refine w1_retN ?_ | refine w1_pass ?_ | refine w1_doc ?_ | refine w1_brk ?_ | refine w1_cont ?_ | refine we_var rfl ?_ | refine we_int ?_ | refine we_glo rfl ?_ | refine we_bin ?_ | refine we_cmp ?_ | refine we_call ?_ | refine we_ix ?_ | refine we_bi ?_ | refine we_tup ?_ | refine we_lst ?_ | refine we_str ?_ | refine we_bl ?_ | refine we_non ?_ | refine we_neg ?_ | refine we_not ?_ | refine we_and ?_ | refine we_or ?_ | refine we_chain ?_ | refine we_ife ?_ | refine we_sl ?_ | refine we_slr ?_ | refine we_isi ?_ | refine we_me ?_ | refine we_lc ?_ | refine wl_nil ?_ | refine wl_cons ?_ | refine wd_nil ?_ | refine wd_cons ?_ | refine wd_star ?_ | refine wo_none ?_ | refine wo_some ?_ | refine wa_one ?_ | refine wa_cons ?_ | refine wb_one ?_ | refine wb_cons ?_ | refine we_dct ?_ | refine we_dct0 ?_ | refine wp_nil ?_ | refine wp_cons ?_ | refine wt_and ?_ | refine wt_or ?_ | refine wt_not ?_ | refine wt_cmp ?_ | refine wt_chain ?_ | refine wt_val rfl ?_ | refine ww_rng1 ?_ | refine ww_rng2 ?_ | refine ww_itv ?_ | refine lct_nil ?_ | refine lct_one ?_ | refine ro_mul ?_ ?_ | refine ro_mod ?_ (by first | assumption | decide) | refine RO.mk rfl ?_ | refine ⟨_, rfl, ?_⟩ | refine ⟨rfl, ?_⟩)
  refine w_number_by ha ?_
  repeat (first | refine ws_go ?_ | refine ws_nil ?_ | refine ws_cons ?_ | refine w1_expr ?_ | refine w1_var ?_ | refine w1_tup ?_ | refine w1_ix ?_ | refine w1_par ?_ | refine w1_aug rfl ?_ | refine w1_if ?_ | refine w1_for ?_ | refine w1_ret ?_ | refine w1_retN ?_ | refine w1_pass ?_ | refine w1_doc ?_ | refine w1_brk ?_ | refine w1_cont ?_ | refine we_var rfl ?_ | refine we_int ?_ | refine we_glo rfl ?_ | refine we_bin ?_ | refine we_cmp ?_ | refine we_call ?_ | refine we_ix ?_ | refine we_bi ?_ | refine we_tup ?_ | refine we_lst ?_ | refine we_str ?_ | refine we_bl ?_ | refine we_non ?_ | refine we_neg ?_ | refine we_not ?_ | refine we_and ?_ | refine we_or ?_ | refine we_chain ?_ | refine we_ife ?_ | refine we_sl ?_ | refine we_slr ?_ | refine we_isi ?_ | refine we_me ?_ | refine we_lc ?_ | refine wl_nil ?_ | refine wl_cons ?_ | refine wd_nil ?_ | refine wd_cons ?_ | refine wd_star ?_ | refine wo_none ?_ | refine wo_some ?_ | refine wa_one ?_ | refine wa_cons ?_ | refine wb_one ?_ | refine wb_cons ?_ | refine we_dct ?_ | refine we_dct0 ?_ | refine wp_nil ?_ | refine wp_cons ?_ | refine wt_and ?_ | refine wt_or ?_ | refine wt_not ?_ | refine wt_cmp ?_ | refine wt_chain ?_ | refine wt_val rfl ?_ | refine ww_rng1 ?_ | refine ww_rng2 ?_ | refine ww_itv ?_ | refine lct_nil ?_ | refine lct_one ?_ | refine ro_mul ?_ ?_ | refine ro_mod ?_ (by first | assumption | decide) | refine RO.mk rfl ?_ | refine ⟨_, rfl, ?_⟩ | refine ⟨rfl, ?_⟩)
  exact q
theorem w_req_both {a : Nat} (hg : Prm p g) (ha : a < p) (q : Q .non h) : WC P (k + 5) 13 [DI p, DI a] h Q := by
  refine wc_pur rfl rfl rfl rfl ?_
  repeat (first | refine ws_go ?_ | refine ws_nil ?_ | refine ws_cons ?_ | refine w1_expr ?_ | refine w1_var ?_ | refine w1_tup ?_ | refine w1_ix ?_ | refine w1_par ?_ | refine w1_aug rfl ?_ | refine w1_if ?_ | refine w1_for ?_ | refine w1_ret ?_ | refine w1_retN ?_ | refine w1_pass ?_ | refine w1_doc ?_ | refine w1_brk ?_ | refine w1_cont ?_ | refine we_var rfl ?_ | refine we_int ?_ | refine we_glo rfl ?_ | refine we_bin ?_ | refine we_cmp ?_ | refine we_call ?_ | refine we_ix ?_ | refine we_bi ?_ | refine we_tup ?_ | refine we_lst ?_ | refine we_str ?_ | refine we_bl ?_ | refine we_non ?_ | refine we_neg ?_ | refine we_not ?_ | refine we_and ?_ | refine we_or ?_ | refine we_chain ?_ | refine we_ife ?_ | refine we_sl ?_ | refine we_slr ?_ | refine we_isi ?_ | refine we_me ?_ | refine we_lc ?_ | refine wl_nil ?_ | refine wl_cons ?_ | refine wd_nil ?_ | refine wd_cons ?_ | refine wd_star ?_ | refine wo_none ?_ | refine wo_some ?_ | refine wa_one ?_ | refine wa_cons ?_ | refine wb_one ?_ | refine wb_cons ?_ | refine we_dct ?_ | refine we_dct0 ?_ | refine wp_nil ?_ | refine wp_cons ?_ | refine wt_and ?_ | refine wt_or ?_ | refine wt_not ?_ | refine wt_cmp ?_ | refine wt_chain ?_ | refine wt_val rfl ?_ | refine ww_rng1 ?_ | refine ww_rng2 ?_ | refine ww_itv ?_ | refine lct_nil ?_ | refine lct_one ?_ | refine ro_mul ?_ ?_ | refine ro_mod ?_ (by first | assumption | decide) | refine RO.mk rfl ?_ | refine ⟨_, rfl, ?_⟩ | refine ⟨rfl, ?_⟩)
  refine w_req_prime hg ?_
  repeat (first | refine ws_go ?_ | refine ws_nil ?_ | refine ws_cons ?_ | refine w1_expr ?_ | refine w1_var ?_ | refine w1_tup ?_ | refine w1_ix ?_ | refine w1_par ?_ | refine w1_aug rfl ?_ | refine w1_if ?_ | refine w1_for ?_ | refine w1_ret ?_ | refine w1_retN ?_ | refine w1_pass ?_ | refine w1_doc ?_ | refine w1_brk ?_ | refine w1_cont ?_ | refine we_var rfl ?_ | refine we_int ?_ | refine we_glo rfl ?_ | refine we_bin ?_ | refine we_cmp ?_ | refine we_call ?_ | refine we_ix ?_ | refine we_bi ?_ | refine we_tup ?_ | refine we_lst ?_ | refine we_str ?_ | refine we_bl ?_ | refine we_non ?_ | refine we_neg ?_ | refine we_not ?_ | refine we_and ?_ | refine we_or ?_ | refine we_chain ?_ | refine we_ife ?_ | refine we_sl ?_ | refine we_slr ?_ | refine we_isi ?_ | refine we_me ?_ | refine we_lc ?_ | refine wl_nil ?_ | refine wl_cons ?_ | refine wd_nil ?_ | refine wd_cons ?_ | refine wd_star ?_ | refine wo_none ?_ | refine wo_some ?_ | refine wa_one ?_ | refine wa_cons ?_ | refine wb_one ?_ | refine wb_cons ?_ | refine we_dct ?_ | refine we_dct0 ?_ | refine wp_nil ?_ | refine wp_cons ?_ | refine wt_and ?_ | refine wt_or ?_ | refine wt_not ?_ | refine wt_cmp ?_ | refine wt_chain ?_ | refine wt_val rfl ?_ | refine ww_rng1 ?_ | refine ww_rng2 ?_ | refine ww_itv ?_ | refine lct_nil ?_ | refine lct_one ?_ | refine ro_mul ?_ ?_ | refine ro_mod ?_ (by first | assumption | decide) | refine RO.mk rfl ?_ | refine ⟨_, rfl, ?_⟩ | refine ⟨rfl, ?_⟩)
  refine w_req_number ha ?_
  repeat (first | refine ws_go ?_ | refine ws_nil ?_ | refine ws_cons ?_ | refine w1_expr ?_ | refine w1_var ?_ | refine w1_tup ?_ | refine w1_ix ?_ | refine w1_par ?_ | refine w1_aug rfl ?_ | refine w1_if ?_ | refine w1_for ?_ | refine w1_ret ?_ | refine w1_retN ?_ | refine w1_pass ?_ | refine w1_doc ?_ | refine w1_brk ?_ | refine w1_cont ?_ | refine we_var rfl ?_ | refine we_int ?_ | refine we_glo rfl ?_ | refine we_bin ?_ | refine we_cmp ?_ | refine we_call ?_ | refine we_ix ?_ | refine we_bi ?_ | refine we_tup ?_ | refine we_lst ?_ | refine we_str ?_ | refine we_bl ?_ | refine we_non ?_ | refine we_neg ?_ | refine we_not ?_ | refine we_and ?_ | refine we_or ?_ | refine we_chain ?_ | refine we_ife ?_ | refine we_sl ?_ | refine we_slr ?_ | refine we_isi ?_ | refine we_me ?_ | refine we_lc ?_ | refine wl_nil ?_ | refine wl_cons ?_ | refine wd_nil ?_ | refine wd_cons ?_ | refine wd_star ?_ | refine wo_none ?_ | refine wo_some ?_ | refine wa_one ?_ | refine wa_cons ?_ | refine wb_one ?_ | refine wb_cons ?_ | refine we_dct ?_ | refine we_dct0 ?_ | refine wp_nil ?_ | refine wp_cons ?_ | refine wt_and ?_ | refine wt_or ?_ | refine wt_not ?_ | refine wt_cmp ?_ | refine wt_chain ?_ | refine wt_val rfl ?_ | refine ww_rng1 ?_ | refine ww_rng2 ?_ | refine ww_itv ?_ | refine lct_nil ?_ | refine lct_one ?_ | refine ro_mul ?_ ?_ | refine ro_mod ?_ (by first | assumption | decide) | refine RO.mk rfl ?_ | refine ⟨_, rfl, ?_⟩ | refine ⟨rfl, ?_⟩)
  exact q
theorem w_req_not0 {a : Nat} (hg : Prm p g) (ha : a < p) (h0 : a ≠ 0) (q : Q .non h) : WC P (k + 6) 14 [DI p, DI a] h Q := by
  refine wc_pur rfl rfl rfl rfl ?_
  repeat (first | refine ws_go ?_ | refine ws_nil ?_ | refine ws_cons ?_ | refine w1_expr ?_ | refine w1_var ?_ | refine w1_tup ?_ | refine w1_ix ?_ | refine w1_par ?_ | refine w1_aug rfl ?_ | refine w1_if ?_ | refine w1_for ?_ | refine w1_ret ?_ | refine w1_retN ?_ | refine w1_pass ?_ | refine w1_doc ?_ | refine w1_brk ?_ | refine w1_cont ?_ | refine we_var rfl ?_ | refine we_int ?_ | refine we_glo rfl ?_ | refine we_bin ?_ | refine we_cmp ?_ | refine we_call ?_ | refine we_ix ?_ | refine we_bi ?_ | refine we_tup ?_ | refine we_lst ?_ | refine we_str ?_ | refine we_bl ?_ | refine we_non ?_ | refine we_neg ?_ | refine we_not ?_ | refine we_and ?_ | refine we_or ?_ | refine we_chain ?_ | refine we_ife ?_ | refine we_sl ?_ | refine we_slr ?_ | refine we_isi ?_ | refine we_me ?_ | refine we_lc ?_ | refine wl_nil ?_ | refine wl_cons ?_ | refine wd_nil ?_ | refine wd_cons ?_ | refine wd_star ?_ | refine wo_none ?_ | refine wo_some ?_ | refine wa_one ?_ | refine wa_cons ?_ | refine wb_one ?_ | refine wb_cons ?_ | refine we_dct ?_ | refine we_dct0 ?_ | refine wp_nil ?_ | refine wp_cons ?_ | refine wt_and ?_ | refine wt_or ?_ | refine wt_not ?_ | refine wt_cmp ?_ | refine wt_chain ?_ | refine wt_val rfl ?_ | refine ww_rng1 ?_ | refine ww_rng2 ?_ | refine ww_itv ?_ | refine lct_nil ?_ | refine lct_one ?_ | refine ro_mul ?_ ?_ | refine ro_mod ?_ (by first | assumption | decide) | refine RO.mk rfl ?_ | refine ⟨_, rfl, ?_⟩ | refine ⟨rfl, ?_⟩)
  refine w_req_both hg ha ?_
  repeat (first | refine ws_go ?_ | refine ws_nil ?_ | refine ws_cons ?_ | refine w1_expr ?_ | refine w1_var ?_ | refine w1_tup ?_ | refine w1_ix ?_ | refine w1_par ?_ | refine w1_aug rfl ?_ | refine w1_if ?_ | refine w1_for ?_ | refine w1_ret ?_ | refine w1_retN ?_ | refine w1_pass ?_ | refine w1_doc ?_ | refine w1_brk ?_ | refine w1_cont ?_ | refine we_var rfl ?_ | refine we_int ?_ | refine we_glo rfl ?_ | refine we_bin ?_ | refine we_cmp ?_ | refine we_call ?_ | refine we_ix ?_ | refine we_bi ?_ | refine we_tup ?_ | refine we_lst ?_ | refine we_str ?_ | refine we_bl ?_ | refine we_non ?_ | refine we_neg ?_ | refine we_not ?_ | refine we_and ?_ | refine we_or ?_ | refine we_chain ?_ | refine we_ife ?_ | refine we_sl ?_ | refine we_slr ?_ | refine we_isi ?_ | refine we_me ?_ | refine we_lc ?_ | refine wl_nil ?_ | refine wl_cons ?_ | refine wd_nil ?_ | refine wd_cons ?_ | refine wd_star ?_ | refine wo_none ?_ | refine wo_some ?_ | refine wa_one ?_ | refine wa_cons ?_ | refine wb_one ?_ | refine wb_cons ?_ | refine we_dct ?_ | refine we_dct0 ?_ | refine wp_nil ?_ | refine wp_cons ?_ | refine wt_and ?_ | refine wt_or ?_ | refine wt_not ?_ | refine wt_cmp ?_ | refine wt_chain ?_ | refine wt_val rfl ?_ | refine ww_rng1 ?_ | refine ww_rng2 ?_ | refine ww_itv ?_ | refine lct_nil ?_ | refine lct_one ?_ | refine ro_mul ?_ ?_ | refine ro_mod ?_ (by first | assumption | decide) | refine RO.mk rfl ?_ | refine ⟨_, rfl, ?_⟩ | refine ⟨rfl, ?_⟩)
  refine if_f (by omega) ?_
  repeat (first | refine ws_go ?_ | refine ws_nil ?_ | refine ws_cons ?_ | refine w1_expr ?_ | refine w1_var ?_ | refine w1_tup ?_ | refine w1_ix ?_ | refine w1_par ?_ | refine w1_aug rfl ?_ | refine w1_if ?_ | refine w1_for ?_ | refine w1_ret ?_ | refine w1_retN ?_ | refine w1_pass ?_ | refine w1_doc ?_ | refine w1_brk ?_ | refine w1_cont ?_ | refine we_var rfl ?_ | refine we_int ?_ | refine we_glo rfl ?_ | refine we_bin ?_ | refine we_cmp ?_ | refine we_call ?_ | refine we_ix ?_ | refine we_bi ?_ | refine we_tup ?_ | refine we_lst ?_ | refine we_str ?_ | refine we_bl ?_ | refine we_non ?_ | refine we_neg ?_ | refine we_not ?_ | refine we_and ?_ | refine we_or ?_ | refine we_chain ?_ | refine we_ife ?_ | refine we_sl ?_ | refine we_slr ?_ | refine we_isi ?_ | refine we_me ?_ | refine we_lc ?_ | refine wl_nil ?_ | refine wl_cons ?_ | refine wd_nil ?_ | refine wd_cons ?_ | refine wd_star ?_ | refine wo_none ?_ | refine wo_some ?_ | refine wa_one ?_ | refine wa_cons ?_ | refine wb_one ?_ | refine wb_cons ?_ | refine we_dct ?_ | refine we_dct0 ?_ | refine wp_nil ?_ | refine wp_cons ?_ | refine wt_and ?_ | refine wt_or ?_ | refine wt_not ?_ | refine wt_cmp ?_ | refine wt_chain ?_ | refine wt_val rfl ?_ | refine ww_rng1 ?_ | refine ww_rng2 ?_ | refine ww_itv ?_ | refine lct_nil ?_ | refine lct_one ?_ | refine ro_mul ?_ ?_ | refine ro_mod ?_ (by first | assumption | decide) | refine RO.mk rfl ?_ | refine ⟨_, rfl, ?_⟩ | refine ⟨rfl, ?_⟩)
  exact q
theorem w_near {n : Int} (h1 : -(1000000000000000000000000000000000000000000000000000000000000) < n) (h2 : n < 1000000000000000000000000000000000000000000000000000000000000) (q : Q (.bl true) h) : WC P (k + 2) 1 [.int n] h Q := by
  refine wc_pur rfl rfl rfl rfl ?_
  repeat (first | refine ws_go ?_ | refine ws_nil ?_ | refine ws_cons ?_ | refine w1_expr ?_ | refine w1_var ?_ | refine w1_tup ?_ | refine w1_ix ?_ | refine w1_par ?_ | refine w1_aug rfl ?_ | refine w1_if ?_ | refine w1_for ?_ | refine w1_ret ?_ | refine w1_retN ?_ | refine w1_pass ?_ | refine w1_doc ?_ | refine w1_brk ?_ | refine w1_cont ?_ | refine we_var rfl ?_ | refine we_int ?_ | refine we_glo rfl ?_ | refine we_bin ?_ | refine we_cmp ?_ | refine we_call ?_ | refine we_ix ?_ | refine we_bi ?_ | refine we_tup ?_ | refine we_lst ?_ | refine we_str ?_ | refine we_bl ?_ | refine we_non ?_ | refine we_neg ?_ | refine we_not ?_ | refine we_and ?_ | refine we_or ?_ | refine we_chain ?_ | refine we_ife ?_ | refine we_sl ?_ | refine we_slr ?_ | refine we_isi ?_ | refine we_me ?_ | refine we_lc ?_ | refine wl_nil ?_ | refine wl_cons ?_ | refine wd_nil ?_ | refine wd_cons ?_ | refine wd_star ?_ | refine wo_none ?_ | refine wo_some ?_ | refine wa_one ?_ | refine wa_cons ?_ | refine wb_one ?_ | refine wb_cons ?_ | refine we_dct ?_ | refine we_dct0 ?_ | refine wp_nil ?_ | refine wp_cons ?_ | refine wt_and ?_ | refine wt_or ?_ | refine wt_not ?_ | refine wt_cmp ?_ | refine wt_chain ?_ | refine wt_val rfl ?_ | refine ww_rng1 ?_ | refine ww_rng2 ?_ | refine ww_itv ?_ | refine lct_nil ?_ | refine lct_one ?_ | refine ro_mul ?_ ?_ | refine ro_mod ?_ (by first | assumption | decide) | refine RO.mk rfl ?_ | refine ⟨_, rfl, ?_⟩ | refine ⟨rfl, ?_⟩)
  refine w_whole ?_
  repeat (first | refine ws_go ?_ | refine ws_nil ?_ | refine ws_cons ?_ | refine w1_expr ?_ | refine w1_var ?_ | refine w1_tup ?_ | refine w1_ix ?_ | refine w1_par ?_ | refine w1_aug rfl ?_ | refine w1_if ?_ | refine w1_for ?_ | refine w1_ret ?_ | refine w1_retN ?_ | refine w1_pass ?_ | refine w1_doc ?_ | refine w1_brk ?_ | refine w1_cont ?_ | refine we_var rfl ?_ | refine we_int ?_ | refine we_glo rfl ?_ | refine we_bin ?_ | refine we_cmp ?_ | refine we_call ?_ | refine we_ix ?_ | refine we_bi ?_ | refine we_tup ?_ | refine we_lst ?_ | refine we_str ?_ | refine we_bl ?_ | refine we_non ?_ | refine we_neg ?_ | refine we_not ?_ | refine we_and ?_ | refine we_or ?_ | refine we_chain ?_ | refine we_ife ?_ | refine we_sl ?_ | refine we_slr ?_ | refine we_isi ?_ | refine we_me ?_ | refine we_lc ?_ | refine wl_nil ?_ | refine wl_cons ?_ | refine wd_nil ?_ | refine wd_cons ?_ | refine wd_star ?_ | refine wo_none ?_ | refine wo_some ?_ | refine wa_one ?_ | refine wa_cons ?_ | refine wb_one ?_ | refine wb_cons ?_ | refine we_dct ?_ | refine we_dct0 ?_ | refine wp_nil ?_ | refine wp_cons ?_ | refine wt_and ?_ | refine wt_or ?_ | refine wt_not ?_ | refine wt_cmp ?_ | refine wt_chain ?_ | refine wt_val rfl ?_ | refine ww_rng1 ?_ | refine ww_rng2 ?_ | refine ww_itv ?_ | refine lct_nil ?_ | refine lct_one ?_ | refine ro_mul ?_ ?_ | refine ro_mod ?_ (by first | assumption | decide) | refine RO.mk rfl ?_ | refine ⟨_, rfl, ?_⟩ | refine ⟨rfl, ?_⟩)
  refine if_t h1 ?_
  repeat (first | refine ws_go ?_ | refine ws_nil ?_ | refine ws_cons ?_ | refine w1_expr ?_ | refine w1_var ?_ | refine w1_tup ?_ | refine w1_ix ?_ | refine w1_par ?_ | refine w1_aug rfl ?_ | refine w1_if ?_ | refine w1_for ?_ | refine w1_ret ?_ | refine w1_retN ?_ | refine w1_pass ?_ | refine w1_doc ?_ | refine w1_brk ?_ | refine w1_cont ?_ | refine we_var rfl ?_ | refine we_int ?_ | refine we_glo rfl ?_ | refine we_bin ?_ | refine we_cmp ?_ | refine we_call ?_ | refine we_ix ?_ | refine we_bi ?_ | refine we_tup ?_ | refine we_lst ?_ | refine we_str ?_ | refine we_bl ?_ | refine we_non ?_ | refine we_neg ?_ | refine we_not ?_ | refine we_and ?_ | refine we_or ?_ | refine we_chain ?_ | refine we_ife ?_ | refine we_sl ?_ | refine we_slr ?_ | refine we_isi ?_ | refine we_me ?_ | refine we_lc ?_ | refine wl_nil ?_ | refine wl_cons ?_ | refine wd_nil ?_ | refine wd_cons ?_ | refine wd_star ?_ | refine wo_none ?_ | refine wo_some ?_ | refine wa_one ?_ | refine wa_cons ?_ | refine wb_one ?_ | refine wb_cons ?_ | refine we_dct ?_ | refine we_dct0 ?_ | refine wp_nil ?_ | refine wp_cons ?_ | refine wt_and ?_ | refine wt_or ?_ | refine wt_not ?_ | refine wt_cmp ?_ | refine wt_chain ?_ | refine wt_val rfl ?_ | refine ww_rng1 ?_ | refine ww_rng2 ?_ | refine ww_itv ?_ | refine lct_nil ?_ | refine lct_one ?_ | refine ro_mul ?_ ?_ | refine ro_mod ?_ (by first | assumption | decide) | refine RO.mk rfl ?_ | refine ⟨_, rfl, ?_⟩ | refine ⟨rfl, ?_⟩)
  rw [decide_eq_true h2]
  repeat (first | refine ws_go ?_ | refine ws_nil ?_ | refine ws_cons ?_ | refine w1_expr ?_ | refine w1_var ?_ | refine w1_tup ?_ | refine w1_ix ?_ | refine w1_par ?_ | refine w1_aug rfl ?_ | refine w1_if ?_ | refine w1_for ?_ | refine w1_ret ?_ | refine w1_retN ?_ | refine w1_pass ?_ | refine w1_doc ?_ | refine w1_brk ?_ | refine w1_cont ?_ | refine we_var rfl ?_ | refine we_int ?_ | refine we_glo rfl ?_ | refine we_bin ?_ | refine we_cmp ?_ | refine we_call ?_ | refine we_ix ?_ | refine we_bi ?_ | refine we_tup ?_ | refine we_lst ?_ | refine we_str ?_ | refine we_bl ?_ | refine we_non ?_ | refine we_neg ?_ | refine we_not ?_ | refine we_and ?_ | refine we_or ?_ | refine we_chain ?_ | refine we_ife ?_ | refine we_sl ?_ | refine we_slr ?_ | refine we_isi ?_ | refine we_me ?_ | refine we_lc ?_ | refine wl_nil ?_ | refine wl_cons ?_ | refine wd_nil ?_ | refine wd_cons ?_ | refine wd_star ?_ | refine wo_none ?_ | refine wo_some ?_ | refine wa_one ?_ | refine wa_cons ?_ | refine wb_one ?_ | refine wb_cons ?_ | refine we_dct ?_ | refine we_dct0 ?_ | refine wp_nil ?_ | refine wp_cons ?_ | refine wt_and ?_ | refine wt_or ?_ | refine wt_not ?_ | refine wt_cmp ?_ | refine wt_chain ?_ | refine wt_val rfl ?_ | refine ww_rng1 ?_ | refine ww_rng2 ?_ | refine ww_itv ?_ | refine lct_nil ?_ | refine lct_one ?_ | refine ro_mul ?_ ?_ | refine ro_mod ?_ (by first | assumption | decide) | refine RO.mk rfl ?_ | refine ⟨_, rfl, ?_⟩ | refine ⟨rfl, ?_⟩)
  exact q
theorem w_req_exp {n : Int} (h1 : -(1000000000000000000000000000000000000000000000000000000000000) < n) (h2 : n < 1000000000000000000000000000000000000000000000000000000000000) (q : Q .non h) : WC P (k + 3) 15 [.int n, .non] h Q := by
  refine wc_pur rfl rfl rfl rfl ?_
  repeat (first | refine ws_go ?_ | refine ws_nil ?_ | refine ws_cons ?_ | refine w1_expr ?_ | refine w1_var ?_ | refine w1_tup ?_ | refine w1_ix ?_ | refine w1_par ?_ | refine w1_aug rfl ?_ | refine w1_if ?_ | refine w1_for ?_ | refine w1_ret ?_ | refine w1_retN ?_ | refine w1_pass ?_ | refine w1_doc ?_ | refine w1_brk ?_ | refine w1_cont ?_ | refine we_var rfl ?_ | refine we_int ?_ | refine we_glo rfl ?_ | refine we_bin ?_ | refine we_cmp ?_ | refine we_call ?_ | refine we_ix ?_ | refine we_bi ?_ | refine we_tup ?_ | refine we_lst ?_ | refine we_str ?_ | refine we_bl ?_ | refine we_non ?_ | refine we_neg ?_ | refine we_not ?_ | refine we_and ?_ | refine we_or ?_ | refine we_chain ?_ | refine we_ife ?_ | refine we_sl ?_ | refine we_slr ?_ | refine we_isi ?_ | refine we_me ?_ | refine we_lc ?_ | refine wl_nil ?_ | refine wl_cons ?_ | refine wd_nil ?_ | refine wd_cons ?_ | refine wd_star ?_ | refine wo_none ?_ | refine wo_some ?_ | refine wa_one ?_ | refine wa_cons ?_ | refine wb_one ?_ | refine wb_cons ?_ | refine we_dct ?_ | refine we_dct0 ?_ | refine wp_nil ?_ | refine wp_cons ?_ | refine wt_and ?_ | refine wt_or ?_ | refine wt_not ?_ | refine wt_cmp ?_ | refine wt_chain ?_ | refine wt_val rfl ?_ | refine ww_rng1 ?_ | refine ww_rng2 ?_ | refine ww_itv ?_ | refine lct_nil ?_ | refine lct_one ?_ | refine ro_mul ?_ ?_ | refine ro_mod ?_ (by first | assumption | decide) | refine RO.mk rfl ?_ | refine ⟨_, rfl, ?_⟩ | refine ⟨rfl, ?_⟩)
  refine w_near h1 h2 ?_
  repeat (first | refine ws_go ?_ | refine ws_nil ?_ | refine ws_cons ?_ | refine w1_expr ?_ | refine w1_var ?_ | refine w1_tup ?_ | refine w1_ix ?_ | refine w1_par ?_ | refine w1_aug rfl ?_ | refine w1_if ?_ | refine w1_for ?_ | refine w1_ret ?_ | refine w1_retN ?_ | refine w1_pass ?_ | refine w1_doc ?_ | refine w1_brk ?_ | refine w1_cont ?_ | refine we_var rfl ?_ | refine we_int ?_ | refine we_glo rfl ?_ | refine we_bin ?_ | refine we_cmp ?_ | refine we_call ?_ | refine we_ix ?_ | refine we_bi ?_ | refine we_tup ?_ | refine we_lst ?_ | refine we_str ?_ | refine we_bl ?_ | refine we_non ?_ | refine we_neg ?_ | refine we_not ?_ | refine we_and ?_ | refine we_or ?_ | refine we_chain ?_ | refine we_ife ?_ | refine we_sl ?_ | refine we_slr ?_ | refine we_isi ?_ | refine we_me ?_ | refine we_lc ?_ | refine wl_nil ?_ | refine wl_cons ?_ | refine wd_nil ?_ | refine wd_cons ?_ | refine wd_star ?_ | refine wo_none ?_ | refine wo_some ?_ | refine wa_one ?_ | refine wa_cons ?_ | refine wb_one ?_ | refine wb_cons ?_ | refine we_dct ?_ | refine we_dct0 ?_ | refine wp_nil ?_ | refine wp_cons ?_ | refine wt_and ?_ | refine wt_or ?_ | refine wt_not ?_ | refine wt_cmp ?_ | refine wt_chain ?_ | refine wt_val rfl ?_ | refine ww_rng1 ?_ | refine ww_rng2 ?_ | refine ww_itv ?_ | refine lct_nil ?_ | refine lct_one ?_ | refine ro_mul ?_ ?_ | refine ro_mod ?_ (by first | assumption | decide) | refine RO.mk rfl ?_ | refine ⟨_, rfl, ?_⟩ | refine ⟨rfl, ?_⟩)
  exact q
theorem w_root_of (hg : Prm p g) (q : Q (DI g) h) : WC P (k + 5) 16 [DI p] h Q := by
  refine wc_pur rfl rfl rfl rfl ?_
  repeat (first | refine ws_go ?_ | refine ws_nil ?_ | refine ws_cons ?_ | refine w1_expr ?_ | refine w1_var ?_ | refine w1_tup ?_ | refine w1_ix ?_ | refine w1_par ?_ | refine w1_aug rfl ?_ | refine w1_if ?_ | refine w1_for ?_ | refine w1_ret ?_ | refine w1_retN ?_ | refine w1_pass ?_ | refine w1_doc ?_ | refine w1_brk ?_ | refine w1_cont ?_ | refine we_var rfl ?_ | refine we_int ?_ | refine we_glo rfl ?_ | refine we_bin ?_ | refine we_cmp ?_ | refine we_call ?_ | refine we_ix ?_ | refine we_bi ?_ | refine we_tup ?_ | refine we_lst ?_ | refine we_str ?_ | refine we_bl ?_ | refine we_non ?_ | refine we_neg ?_ | refine we_not ?_ | refine we_and ?_ | refine we_or ?_ | refine we_chain ?_ | refine we_ife ?_ | refine we_sl ?_ | refine we_slr ?_ | refine we_isi ?_ | refine we_me ?_ | refine we_lc ?_ | refine wl_nil ?_ | refine wl_cons ?_ | refine wd_nil ?_ | refine wd_cons ?_ | refine wd_star ?_ | refine wo_none ?_ | refine wo_some ?_ | refine wa_one ?_ | refine wa_cons ?_ | refine wb_one ?_ | refine wb_cons ?_ | refine we_dct ?_ | refine we_dct0 ?_ | refine wp_nil ?_ | refine wp_cons ?_ | refine wt_and ?_ | refine wt_or ?_ | refine wt_not ?_ | refine wt_cmp ?_ | refine wt_chain ?_ | refine wt_val rfl ?_ | refine ww_rng1 ?_ | refine ww_rng2 ?_ | refine ww_itv ?_ | refine lct_nil ?_ | refine lct_one ?_ | refine ro_mul ?_ ?_ | refine ro_mod ?_ (by first | assumption | decide) | refine RO.mk rfl ?_ | refine ⟨_, rfl, ?_⟩ | refine ⟨rfl, ?_⟩)
  refine w_req_prime hg ?_
  repeat (first | refine ws_go ?_ | refine ws_nil ?_ | refine ws_cons ?_ | refine w1_expr ?_ | refine w1_var ?_ | refine w1_tup ?_ | refine w1_ix ?_ | refine w1_par ?_ | refine w1_aug rfl ?_ | refine w1_if ?_ | refine w1_for ?_ | refine w1_ret ?_ | refine w1_retN ?_ | refine w1_pass ?_ | refine w1_doc ?_ | refine w1_brk ?_ | refine w1_cont ?_ | refine we_var rfl ?_ | refine we_int ?_ | refine we_glo rfl ?_ | refine we_bin ?_ | refine we_cmp ?_ | refine we_call ?_ | refine we_ix ?_ | refine we_bi ?_ | refine we_tup ?_ | refine we_lst ?_ | refine we_str ?_ | refine we_bl ?_ | refine we_non ?_ | refine we_neg ?_ | refine we_not ?_ | refine we_and ?_ | refine we_or ?_ | refine we_chain ?_ | refine we_ife ?_ | refine we_sl ?_ | refine we_slr ?_ | refine we_isi ?_ | refine we_me ?_ | refine we_lc ?_ | refine wl_nil ?_ | refine wl_cons ?_ | refine wd_nil ?_ | refine wd_cons ?_ | refine wd_star ?_ | refine wo_none ?_ | refine wo_some ?_ | refine wa_one ?_ | refine wa_cons ?_ | refine wb_one ?_ | refine wb_cons ?_ | refine we_dct ?_ | refine we_dct0 ?_ | refine wp_nil ?_ | refine wp_cons ?_ | refine wt_and ?_ | refine wt_or ?_ | refine wt_not ?_ | refine wt_cmp ?_ | refine wt_chain ?_ | refine wt_val rfl ?_ | refine ww_rng1 ?_ | refine ww_rng2 ?_ | refine ww_itv ?_ | refine lct_nil ?_ | refine lct_one ?_ | refine ro_mul ?_ ?_ | refine ro_mod ?_ (by first | assumption | decide) | refine RO.mk rfl ?_ | refine ⟨_, rfl, ?_⟩ | refine ⟨rfl, ?_⟩)
  refine ⟨_, roots_ix hg, ?_⟩
  repeat (first | refine ws_go ?_ | refine ws_nil ?_ | refine ws_cons ?_ | refine w1_expr ?_ | refine w1_var ?_ | refine w1_tup ?_ | refine w1_ix ?_ | refine w1_par ?_ | refine w1_aug rfl ?_ | refine w1_if ?_ | refine w1_for ?_ | refine w1_ret ?_ | refine w1_retN ?_ | refine w1_pass ?_ | refine w1_doc ?_ | refine w1_brk ?_ | refine w1_cont ?_ | refine we_var rfl ?_ | refine we_int ?_ | refine we_glo rfl ?_ | refine we_bin ?_ | refine we_cmp ?_ | refine we_call ?_ | refine we_ix ?_ | refine we_bi ?_ | refine we_tup ?_ | refine we_lst ?_ | refine we_str ?_ | refine we_bl ?_ | refine we_non ?_ | refine we_neg ?_ | refine we_not ?_ | refine we_and ?_ | refine we_or ?_ | refine we_chain ?_ | refine we_ife ?_ | refine we_sl ?_ | refine we_slr ?_ | refine we_isi ?_ | refine we_me ?_ | refine we_lc ?_ | refine wl_nil ?_ | refine wl_cons ?_ | refine wd_nil ?_ | refine wd_cons ?_ | refine wd_star ?_ | refine wo_none ?_ | refine wo_some ?_ | refine wa_one ?_ | refine wa_cons ?_ | refine wb_one ?_ | refine wb_cons ?_ | refine we_dct ?_ | refine we_dct0 ?_ | refine wp_nil ?_ | refine wp_cons ?_ | refine wt_and ?_ | refine wt_or ?_ | refine wt_not ?_ | refine wt_cmp ?_ | refine wt_chain ?_ | refine wt_val rfl ?_ | refine ww_rng1 ?_ | refine ww_rng2 ?_ | refine ww_itv ?_ | refine lct_nil ?_ | refine lct_one ?_ | refine ro_mul ?_ ?_ | refine ro_mod ?_ (by first | assumption | decide) | refine RO.mk rfl ?_ | refine ⟨_, rfl, ?_⟩ | refine ⟨rfl, ?_⟩)
  exact q
theorem w_back_by {a : Nat} (hg : Prm p g) (ha : a < p) (h0 : a ≠ 0) (q : Q (DI (a ^ (p - 2) % p)) h) : WC P (k + 7) 17 [DI p, DI a] h Q := by
  have hl := prm_lt hg
  refine wc_pur rfl rfl rfl rfl ?_
  repeat (first | refine ws_go ?_ | refine ws_nil ?_ | refine ws_cons ?_ | refine w1_expr ?_ | refine w1_var ?_ | refine w1_tup ?_ | refine w1_ix ?_ | refine w1_par ?_ | refine w1_aug rfl ?_ | refine w1_if ?_ | refine w1_for ?_ | refine w1_ret ?_ | refine w1_retN ?_ | refine w1_pass ?_ | refine w1_doc ?_ | refine w1_brk ?_ | refine w1_cont ?_ | refine we_var rfl ?_ | refine we_int ?_ | refine we_glo rfl ?_ | refine we_bin ?_ | refine we_cmp ?_ | refine we_call ?_ | refine we_ix ?_ | refine we_bi ?_ | refine we_tup ?_ | refine we_lst ?_ | refine we_str ?_ | refine we_bl ?_ | refine we_non ?_ | refine we_neg ?_ | refine we_not ?_ | refine we_and ?_ | refine we_or ?_ | refine we_chain ?_ | refine we_ife ?_ | refine we_sl ?_ | refine we_slr ?_ | refine we_isi ?_ | refine we_me ?_ | refine we_lc ?_ | refine wl_nil ?_ | refine wl_cons ?_ | refine wd_nil ?_ | refine wd_cons ?_ | refine wd_star ?_ | refine wo_none ?_ | refine wo_some ?_ | refine wa_one ?_ | refine wa_cons ?_ | refine wb_one ?_ | refine wb_cons ?_ | refine we_dct ?_ | refine we_dct0 ?_ | refine wp_nil ?_ | refine wp_cons ?_ | refine wt_and ?_ | refine wt_or ?_ | refine wt_not ?_ | refine wt_cmp ?_ | refine wt_chain ?_ | refine wt_val rfl ?_ | refine ww_rng1 ?_ | refine ww_rng2 ?_ | refine ww_itv ?_ | refine lct_nil ?_ | refine lct_one ?_ | refine ro_mul ?_ ?_ | refine ro_mod ?_ (by first | assumption | decide) | refine RO.mk rfl ?_ | refine ⟨_, rfl, ?_⟩ | refine ⟨rfl, ?_⟩)
  refine w_req_not0 hg ha h0 ?_
  repeat (first | refine ws_go ?_ | refine ws_nil ?_ | refine ws_cons ?_ | refine w1_expr ?_ | refine w1_var ?_ | refine w1_tup ?_ | refine w1_ix ?_ | refine w1_par ?_ | refine w1_aug rfl ?_ | refine w1_if ?_ | refine w1_for ?_ | refine w1_ret ?_ | refine w1_retN ?_ | refine w1_pass ?_ | refine w1_doc ?_ | refine w1_brk ?_ | refine w1_cont ?_ | refine we_var rfl ?_ | refine we_int ?_ | refine we_glo rfl ?_ | refine we_bin ?_ | refine we_cmp ?_ | refine we_call ?_ | refine we_ix ?_ | refine we_bi ?_ | refine we_tup ?_ | refine we_lst ?_ | refine we_str ?_ | refine we_bl ?_ | refine we_non ?_ | refine we_neg ?_ | refine we_not ?_ | refine we_and ?_ | refine we_or ?_ | refine we_chain ?_ | refine we_ife ?_ | refine we_sl ?_ | refine we_slr ?_ | refine we_isi ?_ | refine we_me ?_ | refine we_lc ?_ | refine wl_nil ?_ | refine wl_cons ?_ | refine wd_nil ?_ | refine wd_cons ?_ | refine wd_star ?_ | refine wo_none ?_ | refine wo_some ?_ | refine wa_one ?_ | refine wa_cons ?_ | refine wb_one ?_ | refine wb_cons ?_ | refine we_dct ?_ | refine we_dct0 ?_ | refine wp_nil ?_ | refine wp_cons ?_ | refine wt_and ?_ | refine wt_or ?_ | refine wt_not ?_ | refine wt_cmp ?_ | refine wt_chain ?_ | refine wt_val rfl ?_ | refine ww_rng1 ?_ | refine ww_rng2 ?_ | refine ww_itv ?_ | refine lct_nil ?_ | refine lct_one ?_ | refine ro_mul ?_ ?_ | refine ro_mod ?_ (by first | assumption | decide) | refine RO.mk rfl ?_ | refine ⟨_, rfl, ?_⟩ | refine ⟨rfl, ?_⟩)
  refine w_back hl.1 hl.2.1 ?_
  repeat (first | refine ws_go ?_ | refine ws_nil ?_ | refine ws_cons ?_ | refine w1_expr ?_ | refine w1_var ?_ | refine w1_tup ?_ | refine w1_ix ?_ | refine w1_par ?_ | refine w1_aug rfl ?_ | refine w1_if ?_ | refine w1_for ?_ | refine w1_ret ?_ | refine w1_retN ?_ | refine w1_pass ?_ | refine w1_doc ?_ | refine w1_brk ?_ | refine w1_cont ?_ | refine we_var rfl ?_ | refine we_int ?_ | refine we_glo rfl ?_ | refine we_bin ?_ | refine we_cmp ?_ | refine we_call ?_ | refine we_ix ?_ | refine we_bi ?_ | refine we_tup ?_ | refine we_lst ?_ | refine we_str ?_ | refine we_bl ?_ | refine we_non ?_ | refine we_neg ?_ | refine we_not ?_ | refine we_and ?_ | refine we_or ?_ | refine we_chain ?_ | refine we_ife ?_ | refine we_sl ?_ | refine we_slr ?_ | refine we_isi ?_ | refine we_me ?_ | refine we_lc ?_ | refine wl_nil ?_ | refine wl_cons ?_ | refine wd_nil ?_ | refine wd_cons ?_ | refine wd_star ?_ | refine wo_none ?_ | refine wo_some ?_ | refine wa_one ?_ | refine wa_cons ?_ | refine wb_one ?_ | refine wb_cons ?_ | refine we_dct ?_ | refine we_dct0 ?_ | refine wp_nil ?_ | refine wp_cons ?_ | refine wt_and ?_ | refine wt_or ?_ | refine wt_not ?_ | refine wt_cmp ?_ | refine wt_chain ?_ | refine wt_val rfl ?_ | refine ww_rng1 ?_ | refine ww_rng2 ?_ | refine ww_itv ?_ | refine lct_nil ?_ | refine lct_one ?_ | refine ro_mul ?_ ?_ | refine ro_mod ?_ (by first | assumption | decide) | refine RO.mk rfl ?_ | refine ⟨_, rfl, ?_⟩ | refine ⟨rfl, ?_⟩)
  exact q
theorem w_order_by {i : Nat} (hg : Prm p g) (R : Root p g (p - 1) qs) (hi : i < p - 1) (q : Q (DI ((p - 1) / Nat.gcd (p - 1) i)) h) : WC P (k + 7) 18 [DI p, DI (g ^ i % p)] h Q := by
  have hl := prm_lt hg
  refine wc_pur rfl rfl rfl rfl ?_
  repeat (first | refine ws_go ?_ | refine ws_nil ?_ | refine ws_cons ?_ | refine w1_expr ?_ | refine w1_var ?_ | refine w1_tup ?_ | refine w1_ix ?_ | refine w1_par ?_ | refine w1_aug rfl ?_ | refine w1_if ?_ | refine w1_for ?_ | refine w1_ret ?_ | refine w1_retN ?_ | refine w1_pass ?_ | refine w1_doc ?_ | refine w1_brk ?_ | refine w1_cont ?_ | refine we_var rfl ?_ | refine we_int ?_ | refine we_glo rfl ?_ | refine we_bin ?_ | refine we_cmp ?_ | refine we_call ?_ | refine we_ix ?_ | refine we_bi ?_ | refine we_tup ?_ | refine we_lst ?_ | refine we_str ?_ | refine we_bl ?_ | refine we_non ?_ | refine we_neg ?_ | refine we_not ?_ | refine we_and ?_ | refine we_or ?_ | refine we_chain ?_ | refine we_ife ?_ | refine we_sl ?_ | refine we_slr ?_ | refine we_isi ?_ | refine we_me ?_ | refine we_lc ?_ | refine wl_nil ?_ | refine wl_cons ?_ | refine wd_nil ?_ | refine wd_cons ?_ | refine wd_star ?_ | refine wo_none ?_ | refine wo_some ?_ | refine wa_one ?_ | refine wa_cons ?_ | refine wb_one ?_ | refine wb_cons ?_ | refine we_dct ?_ | refine we_dct0 ?_ | refine wp_nil ?_ | refine wp_cons ?_ | refine wt_and ?_ | refine wt_or ?_ | refine wt_not ?_ | refine wt_cmp ?_ | refine wt_chain ?_ | refine wt_val rfl ?_ | refine ww_rng1 ?_ | refine ww_rng2 ?_ | refine ww_itv ?_ | refine lct_nil ?_ | refine lct_one ?_ | refine ro_mul ?_ ?_ | refine ro_mod ?_ (by first | assumption | decide) | refine RO.mk rfl ?_ | refine ⟨_, rfl, ?_⟩ | refine ⟨rfl, ?_⟩)
  refine w_req_not0 hg (Nat.mod_lt _ (by omega)) (R.pos hi) ?_
  repeat (first | refine ws_go ?_ | refine ws_nil ?_ | refine ws_cons ?_ | refine w1_expr ?_ | refine w1_var ?_ | refine w1_tup ?_ | refine w1_ix ?_ | refine w1_par ?_ | refine w1_aug rfl ?_ | refine w1_if ?_ | refine w1_for ?_ | refine w1_ret ?_ | refine w1_retN ?_ | refine w1_pass ?_ | refine w1_doc ?_ | refine w1_brk ?_ | refine w1_cont ?_ | refine we_var rfl ?_ | refine we_int ?_ | refine we_glo rfl ?_ | refine we_bin ?_ | refine we_cmp ?_ | refine we_call ?_ | refine we_ix ?_ | refine we_bi ?_ | refine we_tup ?_ | refine we_lst ?_ | refine we_str ?_ | refine we_bl ?_ | refine we_non ?_ | refine we_neg ?_ | refine we_not ?_ | refine we_and ?_ | refine we_or ?_ | refine we_chain ?_ | refine we_ife ?_ | refine we_sl ?_ | refine we_slr ?_ | refine we_isi ?_ | refine we_me ?_ | refine we_lc ?_ | refine wl_nil ?_ | refine wl_cons ?_ | refine wd_nil ?_ | refine wd_cons ?_ | refine wd_star ?_ | refine wo_none ?_ | refine wo_some ?_ | refine wa_one ?_ | refine wa_cons ?_ | refine wb_one ?_ | refine wb_cons ?_ | refine we_dct ?_ | refine we_dct0 ?_ | refine wp_nil ?_ | refine wp_cons ?_ | refine wt_and ?_ | refine wt_or ?_ | refine wt_not ?_ | refine wt_cmp ?_ | refine wt_chain ?_ | refine wt_val rfl ?_ | refine ww_rng1 ?_ | refine ww_rng2 ?_ | refine ww_itv ?_ | refine lct_nil ?_ | refine lct_one ?_ | refine ro_mul ?_ ?_ | refine ro_mod ?_ (by first | assumption | decide) | refine RO.mk rfl ?_ | refine ⟨_, rfl, ?_⟩ | refine ⟨rfl, ?_⟩)
  refine w_order hg R hi ?_
  repeat (first | refine ws_go ?_ | refine ws_nil ?_ | refine ws_cons ?_ | refine w1_expr ?_ | refine w1_var ?_ | refine w1_tup ?_ | refine w1_ix ?_ | refine w1_par ?_ | refine w1_aug rfl ?_ | refine w1_if ?_ | refine w1_for ?_ | refine w1_ret ?_ | refine w1_retN ?_ | refine w1_pass ?_ | refine w1_doc ?_ | refine w1_brk ?_ | refine w1_cont ?_ | refine we_var rfl ?_ | refine we_int ?_ | refine we_glo rfl ?_ | refine we_bin ?_ | refine we_cmp ?_ | refine we_call ?_ | refine we_ix ?_ | refine we_bi ?_ | refine we_tup ?_ | refine we_lst ?_ | refine we_str ?_ | refine we_bl ?_ | refine we_non ?_ | refine we_neg ?_ | refine we_not ?_ | refine we_and ?_ | refine we_or ?_ | refine we_chain ?_ | refine we_ife ?_ | refine we_sl ?_ | refine we_slr ?_ | refine we_isi ?_ | refine we_me ?_ | refine we_lc ?_ | refine wl_nil ?_ | refine wl_cons ?_ | refine wd_nil ?_ | refine wd_cons ?_ | refine wd_star ?_ | refine wo_none ?_ | refine wo_some ?_ | refine wa_one ?_ | refine wa_cons ?_ | refine wb_one ?_ | refine wb_cons ?_ | refine we_dct ?_ | refine we_dct0 ?_ | refine wp_nil ?_ | refine wp_cons ?_ | refine wt_and ?_ | refine wt_or ?_ | refine wt_not ?_ | refine wt_cmp ?_ | refine wt_chain ?_ | refine wt_val rfl ?_ | refine ww_rng1 ?_ | refine ww_rng2 ?_ | refine ww_itv ?_ | refine lct_nil ?_ | refine lct_one ?_ | refine ro_mul ?_ ?_ | refine ro_mod ?_ (by first | assumption | decide) | refine RO.mk rfl ?_ | refine ⟨_, rfl, ?_⟩ | refine ⟨rfl, ?_⟩)
  exact q
theorem w_log_by {i : Nat} (hg : Prm p g) (R : Root p g (p - 1) qs) (hi : i < p - 1) (q : Q (DI i) h) : WC P (k + 7) 19 [DI p, DI (g ^ i % p)] h Q := by
  have hl := prm_lt hg
  refine wc_pur rfl rfl rfl rfl ?_
  repeat (first | refine ws_go ?_ | refine ws_nil ?_ | refine ws_cons ?_ | refine w1_expr ?_ | refine w1_var ?_ | refine w1_tup ?_ | refine w1_ix ?_ | refine w1_par ?_ | refine w1_aug rfl ?_ | refine w1_if ?_ | refine w1_for ?_ | refine w1_ret ?_ | refine w1_retN ?_ | refine w1_pass ?_ | refine w1_doc ?_ | refine w1_brk ?_ | refine w1_cont ?_ | refine we_var rfl ?_ | refine we_int ?_ | refine we_glo rfl ?_ | refine we_bin ?_ | refine we_cmp ?_ | refine we_call ?_ | refine we_ix ?_ | refine we_bi ?_ | refine we_tup ?_ | refine we_lst ?_ | refine we_str ?_ | refine we_bl ?_ | refine we_non ?_ | refine we_neg ?_ | refine we_not ?_ | refine we_and ?_ | refine we_or ?_ | refine we_chain ?_ | refine we_ife ?_ | refine we_sl ?_ | refine we_slr ?_ | refine we_isi ?_ | refine we_me ?_ | refine we_lc ?_ | refine wl_nil ?_ | refine wl_cons ?_ | refine wd_nil ?_ | refine wd_cons ?_ | refine wd_star ?_ | refine wo_none ?_ | refine wo_some ?_ | refine wa_one ?_ | refine wa_cons ?_ | refine wb_one ?_ | refine wb_cons ?_ | refine we_dct ?_ | refine we_dct0 ?_ | refine wp_nil ?_ | refine wp_cons ?_ | refine wt_and ?_ | refine wt_or ?_ | refine wt_not ?_ | refine wt_cmp ?_ | refine wt_chain ?_ | refine wt_val rfl ?_ | refine ww_rng1 ?_ | refine ww_rng2 ?_ | refine ww_itv ?_ | refine lct_nil ?_ | refine lct_one ?_ | refine ro_mul ?_ ?_ | refine ro_mod ?_ (by first | assumption | decide) | refine RO.mk rfl ?_ | refine ⟨_, rfl, ?_⟩ | refine ⟨rfl, ?_⟩)
  refine w_req_not0 hg (Nat.mod_lt _ (by omega)) (R.pos hi) ?_
  repeat (first | refine ws_go ?_ | refine ws_nil ?_ | refine ws_cons ?_ | refine w1_expr ?_ | refine w1_var ?_ | refine w1_tup ?_ | refine w1_ix ?_ | refine w1_par ?_ | refine w1_aug rfl ?_ | refine w1_if ?_ | refine w1_for ?_ | refine w1_ret ?_ | refine w1_retN ?_ | refine w1_pass ?_ | refine w1_doc ?_ | refine w1_brk ?_ | refine w1_cont ?_ | refine we_var rfl ?_ | refine we_int ?_ | refine we_glo rfl ?_ | refine we_bin ?_ | refine we_cmp ?_ | refine we_call ?_ | refine we_ix ?_ | refine we_bi ?_ | refine we_tup ?_ | refine we_lst ?_ | refine we_str ?_ | refine we_bl ?_ | refine we_non ?_ | refine we_neg ?_ | refine we_not ?_ | refine we_and ?_ | refine we_or ?_ | refine we_chain ?_ | refine we_ife ?_ | refine we_sl ?_ | refine we_slr ?_ | refine we_isi ?_ | refine we_me ?_ | refine we_lc ?_ | refine wl_nil ?_ | refine wl_cons ?_ | refine wd_nil ?_ | refine wd_cons ?_ | refine wd_star ?_ | refine wo_none ?_ | refine wo_some ?_ | refine wa_one ?_ | refine wa_cons ?_ | refine wb_one ?_ | refine wb_cons ?_ | refine we_dct ?_ | refine we_dct0 ?_ | refine wp_nil ?_ | refine wp_cons ?_ | refine wt_and ?_ | refine wt_or ?_ | refine wt_not ?_ | refine wt_cmp ?_ | refine wt_chain ?_ | refine wt_val rfl ?_ | refine ww_rng1 ?_ | refine ww_rng2 ?_ | refine ww_itv ?_ | refine lct_nil ?_ | refine lct_one ?_ | refine ro_mul ?_ ?_ | refine ro_mod ?_ (by first | assumption | decide) | refine RO.mk rfl ?_ | refine ⟨_, rfl, ?_⟩ | refine ⟨rfl, ?_⟩)
  refine w_log hg R hi ?_
  repeat (first | refine ws_go ?_ | refine ws_nil ?_ | refine ws_cons ?_ | refine w1_expr ?_ | refine w1_var ?_ | refine w1_tup ?_ | refine w1_ix ?_ | refine w1_par ?_ | refine w1_aug rfl ?_ | refine w1_if ?_ | refine w1_for ?_ | refine w1_ret ?_ | refine w1_retN ?_ | refine w1_pass ?_ | refine w1_doc ?_ | refine w1_brk ?_ | refine w1_cont ?_ | refine we_var rfl ?_ | refine we_int ?_ | refine we_glo rfl ?_ | refine we_bin ?_ | refine we_cmp ?_ | refine we_call ?_ | refine we_ix ?_ | refine we_bi ?_ | refine we_tup ?_ | refine we_lst ?_ | refine we_str ?_ | refine we_bl ?_ | refine we_non ?_ | refine we_neg ?_ | refine we_not ?_ | refine we_and ?_ | refine we_or ?_ | refine we_chain ?_ | refine we_ife ?_ | refine we_sl ?_ | refine we_slr ?_ | refine we_isi ?_ | refine we_me ?_ | refine we_lc ?_ | refine wl_nil ?_ | refine wl_cons ?_ | refine wd_nil ?_ | refine wd_cons ?_ | refine wd_star ?_ | refine wo_none ?_ | refine wo_some ?_ | refine wa_one ?_ | refine wa_cons ?_ | refine wb_one ?_ | refine wb_cons ?_ | refine we_dct ?_ | refine we_dct0 ?_ | refine wp_nil ?_ | refine wp_cons ?_ | refine wt_and ?_ | refine wt_or ?_ | refine wt_not ?_ | refine wt_cmp ?_ | refine wt_chain ?_ | refine wt_val rfl ?_ | refine ww_rng1 ?_ | refine ww_rng2 ?_ | refine ww_itv ?_ | refine lct_nil ?_ | refine lct_one ?_ | refine ro_mul ?_ ?_ | refine ro_mod ?_ (by first | assumption | decide) | refine RO.mk rfl ?_ | refine ⟨_, rfl, ?_⟩ | refine ⟨rfl, ?_⟩)
  exact q
theorem w_power_by {a n : Nat} (hg : Prm p g) (ha : a < p) (hn : n < 1000000000000000000000000000000000000000000000000000000000000) (q : Q (DI (a ^ n % p)) h) : WC P (k + 6) 20 [DI p, DI a, DI n] h Q := by
  have hl := prm_lt hg
  refine wc_pur rfl rfl rfl rfl ?_
  repeat (first | refine ws_go ?_ | refine ws_nil ?_ | refine ws_cons ?_ | refine w1_expr ?_ | refine w1_var ?_ | refine w1_tup ?_ | refine w1_ix ?_ | refine w1_par ?_ | refine w1_aug rfl ?_ | refine w1_if ?_ | refine w1_for ?_ | refine w1_ret ?_ | refine w1_retN ?_ | refine w1_pass ?_ | refine w1_doc ?_ | refine w1_brk ?_ | refine w1_cont ?_ | refine we_var rfl ?_ | refine we_int ?_ | refine we_glo rfl ?_ | refine we_bin ?_ | refine we_cmp ?_ | refine we_call ?_ | refine we_ix ?_ | refine we_bi ?_ | refine we_tup ?_ | refine we_lst ?_ | refine we_str ?_ | refine we_bl ?_ | refine we_non ?_ | refine we_neg ?_ | refine we_not ?_ | refine we_and ?_ | refine we_or ?_ | refine we_chain ?_ | refine we_ife ?_ | refine we_sl ?_ | refine we_slr ?_ | refine we_isi ?_ | refine we_me ?_ | refine we_lc ?_ | refine wl_nil ?_ | refine wl_cons ?_ | refine wd_nil ?_ | refine wd_cons ?_ | refine wd_star ?_ | refine wo_none ?_ | refine wo_some ?_ | refine wa_one ?_ | refine wa_cons ?_ | refine wb_one ?_ | refine wb_cons ?_ | refine we_dct ?_ | refine we_dct0 ?_ | refine wp_nil ?_ | refine wp_cons ?_ | refine wt_and ?_ | refine wt_or ?_ | refine wt_not ?_ | refine wt_cmp ?_ | refine wt_chain ?_ | refine wt_val rfl ?_ | refine ww_rng1 ?_ | refine ww_rng2 ?_ | refine ww_itv ?_ | refine lct_nil ?_ | refine lct_one ?_ | refine ro_mul ?_ ?_ | refine ro_mod ?_ (by first | assumption | decide) | refine RO.mk rfl ?_ | refine ⟨_, rfl, ?_⟩ | refine ⟨rfl, ?_⟩)
  refine w_req_both hg ha ?_
  repeat (first | refine ws_go ?_ | refine ws_nil ?_ | refine ws_cons ?_ | refine w1_expr ?_ | refine w1_var ?_ | refine w1_tup ?_ | refine w1_ix ?_ | refine w1_par ?_ | refine w1_aug rfl ?_ | refine w1_if ?_ | refine w1_for ?_ | refine w1_ret ?_ | refine w1_retN ?_ | refine w1_pass ?_ | refine w1_doc ?_ | refine w1_brk ?_ | refine w1_cont ?_ | refine we_var rfl ?_ | refine we_int ?_ | refine we_glo rfl ?_ | refine we_bin ?_ | refine we_cmp ?_ | refine we_call ?_ | refine we_ix ?_ | refine we_bi ?_ | refine we_tup ?_ | refine we_lst ?_ | refine we_str ?_ | refine we_bl ?_ | refine we_non ?_ | refine we_neg ?_ | refine we_not ?_ | refine we_and ?_ | refine we_or ?_ | refine we_chain ?_ | refine we_ife ?_ | refine we_sl ?_ | refine we_slr ?_ | refine we_isi ?_ | refine we_me ?_ | refine we_lc ?_ | refine wl_nil ?_ | refine wl_cons ?_ | refine wd_nil ?_ | refine wd_cons ?_ | refine wd_star ?_ | refine wo_none ?_ | refine wo_some ?_ | refine wa_one ?_ | refine wa_cons ?_ | refine wb_one ?_ | refine wb_cons ?_ | refine we_dct ?_ | refine we_dct0 ?_ | refine wp_nil ?_ | refine wp_cons ?_ | refine wt_and ?_ | refine wt_or ?_ | refine wt_not ?_ | refine wt_cmp ?_ | refine wt_chain ?_ | refine wt_val rfl ?_ | refine ww_rng1 ?_ | refine ww_rng2 ?_ | refine ww_itv ?_ | refine lct_nil ?_ | refine lct_one ?_ | refine ro_mul ?_ ?_ | refine ro_mod ?_ (by first | assumption | decide) | refine RO.mk rfl ?_ | refine ⟨_, rfl, ?_⟩ | refine ⟨rfl, ?_⟩)
  refine w_req_exp (by omega) (by omega) ?_
  repeat (first | refine ws_go ?_ | refine ws_nil ?_ | refine ws_cons ?_ | refine w1_expr ?_ | refine w1_var ?_ | refine w1_tup ?_ | refine w1_ix ?_ | refine w1_par ?_ | refine w1_aug rfl ?_ | refine w1_if ?_ | refine w1_for ?_ | refine w1_ret ?_ | refine w1_retN ?_ | refine w1_pass ?_ | refine w1_doc ?_ | refine w1_brk ?_ | refine w1_cont ?_ | refine we_var rfl ?_ | refine we_int ?_ | refine we_glo rfl ?_ | refine we_bin ?_ | refine we_cmp ?_ | refine we_call ?_ | refine we_ix ?_ | refine we_bi ?_ | refine we_tup ?_ | refine we_lst ?_ | refine we_str ?_ | refine we_bl ?_ | refine we_non ?_ | refine we_neg ?_ | refine we_not ?_ | refine we_and ?_ | refine we_or ?_ | refine we_chain ?_ | refine we_ife ?_ | refine we_sl ?_ | refine we_slr ?_ | refine we_isi ?_ | refine we_me ?_ | refine we_lc ?_ | refine wl_nil ?_ | refine wl_cons ?_ | refine wd_nil ?_ | refine wd_cons ?_ | refine wd_star ?_ | refine wo_none ?_ | refine wo_some ?_ | refine wa_one ?_ | refine wa_cons ?_ | refine wb_one ?_ | refine wb_cons ?_ | refine we_dct ?_ | refine we_dct0 ?_ | refine wp_nil ?_ | refine wp_cons ?_ | refine wt_and ?_ | refine wt_or ?_ | refine wt_not ?_ | refine wt_cmp ?_ | refine wt_chain ?_ | refine wt_val rfl ?_ | refine ww_rng1 ?_ | refine ww_rng2 ?_ | refine ww_itv ?_ | refine lct_nil ?_ | refine lct_one ?_ | refine ro_mul ?_ ?_ | refine ro_mod ?_ (by first | assumption | decide) | refine RO.mk rfl ?_ | refine ⟨_, rfl, ?_⟩ | refine ⟨rfl, ?_⟩)
  have hn0 : ¬ (n : Int) < 0 := by omega
  by_cases h0 : a = 0
  · subst h0
    refine if_t rfl ?_
    repeat (first | refine ws_go ?_ | refine ws_nil ?_ | refine ws_cons ?_ | refine w1_expr ?_ | refine w1_var ?_ | refine w1_tup ?_ | refine w1_ix ?_ | refine w1_par ?_ | refine w1_aug rfl ?_ | refine w1_if ?_ | refine w1_for ?_ | refine w1_ret ?_ | refine w1_retN ?_ | refine w1_pass ?_ | refine w1_doc ?_ | refine w1_brk ?_ | refine w1_cont ?_ | refine we_var rfl ?_ | refine we_int ?_ | refine we_glo rfl ?_ | refine we_bin ?_ | refine we_cmp ?_ | refine we_call ?_ | refine we_ix ?_ | refine we_bi ?_ | refine we_tup ?_ | refine we_lst ?_ | refine we_str ?_ | refine we_bl ?_ | refine we_non ?_ | refine we_neg ?_ | refine we_not ?_ | refine we_and ?_ | refine we_or ?_ | refine we_chain ?_ | refine we_ife ?_ | refine we_sl ?_ | refine we_slr ?_ | refine we_isi ?_ | refine we_me ?_ | refine we_lc ?_ | refine wl_nil ?_ | refine wl_cons ?_ | refine wd_nil ?_ | refine wd_cons ?_ | refine wd_star ?_ | refine wo_none ?_ | refine wo_some ?_ | refine wa_one ?_ | refine wa_cons ?_ | refine wb_one ?_ | refine wb_cons ?_ | refine we_dct ?_ | refine we_dct0 ?_ | refine wp_nil ?_ | refine wp_cons ?_ | refine wt_and ?_ | refine wt_or ?_ | refine wt_not ?_ | refine wt_cmp ?_ | refine wt_chain ?_ | refine wt_val rfl ?_ | refine ww_rng1 ?_ | refine ww_rng2 ?_ | refine ww_itv ?_ | refine lct_nil ?_ | refine lct_one ?_ | refine ro_mul ?_ ?_ | refine ro_mod ?_ (by first | assumption | decide) | refine RO.mk rfl ?_ | refine ⟨_, rfl, ?_⟩ | refine ⟨rfl, ?_⟩)
    refine w_any0 hl.1 hl.2.1 ?_
    repeat (first | refine ws_go ?_ | refine ws_nil ?_ | refine ws_cons ?_ | refine w1_expr ?_ | refine w1_var ?_ | refine w1_tup ?_ | refine w1_ix ?_ | refine w1_par ?_ | refine w1_aug rfl ?_ | refine w1_if ?_ | refine w1_for ?_ | refine w1_ret ?_ | refine w1_retN ?_ | refine w1_pass ?_ | refine w1_doc ?_ | refine w1_brk ?_ | refine w1_cont ?_ | refine we_var rfl ?_ | refine we_int ?_ | refine we_glo rfl ?_ | refine we_bin ?_ | refine we_cmp ?_ | refine we_call ?_ | refine we_ix ?_ | refine we_bi ?_ | refine we_tup ?_ | refine we_lst ?_ | refine we_str ?_ | refine we_bl ?_ | refine we_non ?_ | refine we_neg ?_ | refine we_not ?_ | refine we_and ?_ | refine we_or ?_ | refine we_chain ?_ | refine we_ife ?_ | refine we_sl ?_ | refine we_slr ?_ | refine we_isi ?_ | refine we_me ?_ | refine we_lc ?_ | refine wl_nil ?_ | refine wl_cons ?_ | refine wd_nil ?_ | refine wd_cons ?_ | refine wd_star ?_ | refine wo_none ?_ | refine wo_some ?_ | refine wa_one ?_ | refine wa_cons ?_ | refine wb_one ?_ | refine wb_cons ?_ | refine we_dct ?_ | refine we_dct0 ?_ | refine wp_nil ?_ | refine wp_cons ?_ | refine wt_and ?_ | refine wt_or ?_ | refine wt_not ?_ | refine wt_cmp ?_ | refine wt_chain ?_ | refine wt_val rfl ?_ | refine ww_rng1 ?_ | refine ww_rng2 ?_ | refine ww_itv ?_ | refine lct_nil ?_ | refine lct_one ?_ | refine ro_mul ?_ ?_ | refine ro_mod ?_ (by first | assumption | decide) | refine RO.mk rfl ?_ | refine ⟨_, rfl, ?_⟩ | refine ⟨rfl, ?_⟩)
    exact q
  · refine if_f (by omega) ?_
    refine if_f (by omega) ?_
    repeat (first | refine ws_go ?_ | refine ws_nil ?_ | refine ws_cons ?_ | refine w1_expr ?_ | refine w1_var ?_ | refine w1_tup ?_ | refine w1_ix ?_ | refine w1_par ?_ | refine w1_aug rfl ?_ | refine w1_if ?_ | refine w1_for ?_ | refine w1_ret ?_ | refine w1_retN ?_ | refine w1_pass ?_ | refine w1_doc ?_ | refine w1_brk ?_ | refine w1_cont ?_ | refine we_var rfl ?_ | refine we_int ?_ | refine we_glo rfl ?_ | refine we_bin ?_ | refine we_cmp ?_ | refine we_call ?_ | refine we_ix ?_ | refine we_bi ?_ | refine we_tup ?_ | refine we_lst ?_ | refine we_str ?_ | refine we_bl ?_ | refine we_non ?_ | refine we_neg ?_ | refine we_not ?_ | refine we_and ?_ | refine we_or ?_ | refine we_chain ?_ | refine we_ife ?_ | refine we_sl ?_ | refine we_slr ?_ | refine we_isi ?_ | refine we_me ?_ | refine we_lc ?_ | refine wl_nil ?_ | refine wl_cons ?_ | refine wd_nil ?_ | refine wd_cons ?_ | refine wd_star ?_ | refine wo_none ?_ | refine wo_some ?_ | refine wa_one ?_ | refine wa_cons ?_ | refine wb_one ?_ | refine wb_cons ?_ | refine we_dct ?_ | refine we_dct0 ?_ | refine wp_nil ?_ | refine wp_cons ?_ | refine wt_and ?_ | refine wt_or ?_ | refine wt_not ?_ | refine wt_cmp ?_ | refine wt_chain ?_ | refine wt_val rfl ?_ | refine ww_rng1 ?_ | refine ww_rng2 ?_ | refine ww_itv ?_ | refine lct_nil ?_ | refine lct_one ?_ | refine ro_mul ?_ ?_ | refine ro_mod ?_ (by first | assumption | decide) | refine RO.mk rfl ?_ | refine ⟨_, rfl, ?_⟩ | refine ⟨rfl, ?_⟩)
    refine w_any0 hl.1 hl.2.1 ?_
    repeat (first | refine ws_go ?_ | refine ws_nil ?_ | refine ws_cons ?_ | refine w1_expr ?_ | refine w1_var ?_ | refine w1_tup ?_ | refine w1_ix ?_ | refine w1_par ?_ | refine w1_aug rfl ?_ | refine w1_if ?_ | refine w1_for ?_ | refine w1_ret ?_ | refine w1_retN ?_ | refine w1_pass ?_ | refine w1_doc ?_ | refine w1_brk ?_ | refine w1_cont ?_ | refine we_var rfl ?_ | refine we_int ?_ | refine we_glo rfl ?_ | refine we_bin ?_ | refine we_cmp ?_ | refine we_call ?_ | refine we_ix ?_ | refine we_bi ?_ | refine we_tup ?_ | refine we_lst ?_ | refine we_str ?_ | refine we_bl ?_ | refine we_non ?_ | refine we_neg ?_ | refine we_not ?_ | refine we_and ?_ | refine we_or ?_ | refine we_chain ?_ | refine we_ife ?_ | refine we_sl ?_ | refine we_slr ?_ | refine we_isi ?_ | refine we_me ?_ | refine we_lc ?_ | refine wl_nil ?_ | refine wl_cons ?_ | refine wd_nil ?_ | refine wd_cons ?_ | refine wd_star ?_ | refine wo_none ?_ | refine wo_some ?_ | refine wa_one ?_ | refine wa_cons ?_ | refine wb_one ?_ | refine wb_cons ?_ | refine we_dct ?_ | refine we_dct0 ?_ | refine wp_nil ?_ | refine wp_cons ?_ | refine wt_and ?_ | refine wt_or ?_ | refine wt_not ?_ | refine wt_cmp ?_ | refine wt_chain ?_ | refine wt_val rfl ?_ | refine ww_rng1 ?_ | refine ww_rng2 ?_ | refine ww_itv ?_ | refine lct_nil ?_ | refine lct_one ?_ | refine ro_mul ?_ ?_ | refine ro_mod ?_ (by first | assumption | decide) | refine RO.mk rfl ?_ | refine ⟨_, rfl, ?_⟩ | refine ⟨rfl, ?_⟩)
    exact q
end
end Hd
namespace Hd
open PySem MP NT
section
variable {k : Nat} {h : MH} {Q : MP.D → MH → Prop}
theorem w_roll {d n t : Nat} (hd : Dice d n h) (hn : n < 2 ^ 64) (h0 : 0 < t) (ht : t < 2 ^ 64) (q : ∀ (r : Nat) (h' : MH), r < t → Fr d (n + 1) h h' → Q (DI r) h') : WC P (k + 1) 22 [.ref d, DI t] h Q := by
  obtain ⟨a, b, c, e, hb, hc⟩ := hd
  refine wc_imp rfl rfl rfl ?_
  repeat (first | refine ws_go ?_ | refine ws_nil ?_ | refine ws_cons ?_ | refine w1_expr ?_ | refine w1_var ?_ | refine w1_tup ?_ | refine w1_ix ?_ | refine w1_par ?_ | refine w1_aug rfl ?_ | refine w1_if ?_ | refine w1_for ?_ | refine w1_ret ?_ | refine w1_retN ?_ | refine w1_pass ?_ | refine w1_doc ?_ | refine w1_brk ?_ | refine w1_cont ?_ | refine we_var rfl ?_ | refine we_int ?_ | refine we_glo rfl ?_ | refine we_bin ?_ | refine we_cmp ?_ | refine we_call ?_ | refine we_ix ?_ | refine we_bi ?_ | refine we_tup ?_ | refine we_lst ?_ | refine we_str ?_ | refine we_bl ?_ | refine we_non ?_ | refine we_neg ?_ | refine we_not ?_ | refine we_and ?_ | refine we_or ?_ | refine we_chain ?_ | refine we_ife ?_ | refine we_sl ?_ | refine we_slr ?_ | refine we_isi ?_ | refine we_me ?_ | refine we_lc ?_ | refine wl_nil ?_ | refine wl_cons ?_ | refine wd_nil ?_ | refine wd_cons ?_ | refine wd_star ?_ | refine wo_none ?_ | refine wo_some ?_ | refine wa_one ?_ | refine wa_cons ?_ | refine wb_one ?_ | refine wb_cons ?_ | refine we_dct ?_ | refine we_dct0 ?_ | refine wp_nil ?_ | refine wp_cons ?_ | refine wt_and ?_ | refine wt_or ?_ | refine wt_not ?_ | refine wt_cmp ?_ | refine wt_chain ?_ | refine wt_val rfl ?_ | refine ww_rng1 ?_ | refine ww_rng2 ?_ | refine ww_itv ?_ | refine lct_nil ?_ | refine lct_one ?_ | refine ro_mul ?_ ?_ | refine ro_mod ?_ (by first | assumption | decide) | refine RO.mk rfl ?_ | refine ⟨_, rfl, ?_⟩ | refine ⟨rfl, ?_⟩)
  refine ⟨DI a, ix_get e rfl, ?_⟩
  repeat (first | refine ws_go ?_ | refine ws_nil ?_ | refine ws_cons ?_ | refine w1_expr ?_ | refine w1_var ?_ | refine w1_tup ?_ | refine w1_ix ?_ | refine w1_par ?_ | refine w1_aug rfl ?_ | refine w1_if ?_ | refine w1_for ?_ | refine w1_ret ?_ | refine w1_retN ?_ | refine w1_pass ?_ | refine w1_doc ?_ | refine w1_brk ?_ | refine w1_cont ?_ | refine we_var rfl ?_ | refine we_int ?_ | refine we_glo rfl ?_ | refine we_bin ?_ | refine we_cmp ?_ | refine we_call ?_ | refine we_ix ?_ | refine we_bi ?_ | refine we_tup ?_ | refine we_lst ?_ | refine we_str ?_ | refine we_bl ?_ | refine we_non ?_ | refine we_neg ?_ | refine we_not ?_ | refine we_and ?_ | refine we_or ?_ | refine we_chain ?_ | refine we_ife ?_ | refine we_sl ?_ | refine we_slr ?_ | refine we_isi ?_ | refine we_me ?_ | refine we_lc ?_ | refine wl_nil ?_ | refine wl_cons ?_ | refine wd_nil ?_ | refine wd_cons ?_ | refine wd_star ?_ | refine wo_none ?_ | refine wo_some ?_ | refine wa_one ?_ | refine wa_cons ?_ | refine wb_one ?_ | refine wb_cons ?_ | refine we_dct ?_ | refine we_dct0 ?_ | refine wp_nil ?_ | refine wp_cons ?_ | refine wt_and ?_ | refine wt_or ?_ | refine wt_not ?_ | refine wt_cmp ?_ | refine wt_chain ?_ | refine wt_val rfl ?_ | refine ww_rng1 ?_ | refine ww_rng2 ?_ | refine ww_itv ?_ | refine lct_nil ?_ | refine lct_one ?_ | refine ro_mul ?_ ?_ | refine ro_mod ?_ (by first | assumption | decide) | refine RO.mk rfl ?_ | refine ⟨_, rfl, ?_⟩ | refine ⟨rfl, ?_⟩)
  by_cases ha : 0 < a
  · refine if_t (by omega) ?_
    repeat (first | refine ws_go ?_ | refine ws_nil ?_ | refine ws_cons ?_ | refine w1_expr ?_ | refine w1_var ?_ | refine w1_tup ?_ | refine w1_ix ?_ | refine w1_par ?_ | refine w1_aug rfl ?_ | refine w1_if ?_ | refine w1_for ?_ | refine w1_ret ?_ | refine w1_retN ?_ | refine w1_pass ?_ | refine w1_doc ?_ | refine w1_brk ?_ | refine w1_cont ?_ | refine we_var rfl ?_ | refine we_int ?_ | refine we_glo rfl ?_ | refine we_bin ?_ | refine we_cmp ?_ | refine we_call ?_ | refine we_ix ?_ | refine we_bi ?_ | refine we_tup ?_ | refine we_lst ?_ | refine we_str ?_ | refine we_bl ?_ | refine we_non ?_ | refine we_neg ?_ | refine we_not ?_ | refine we_and ?_ | refine we_or ?_ | refine we_chain ?_ | refine we_ife ?_ | refine we_sl ?_ | refine we_slr ?_ | refine we_isi ?_ | refine we_me ?_ | refine we_lc ?_ | refine wl_nil ?_ | refine wl_cons ?_ | refine wd_nil ?_ | refine wd_cons ?_ | refine wd_star ?_ | refine wo_none ?_ | refine wo_some ?_ | refine wa_one ?_ | refine wa_cons ?_ | refine wb_one ?_ | refine wb_cons ?_ | refine we_dct ?_ | refine we_dct0 ?_ | refine wp_nil ?_ | refine wp_cons ?_ | refine wt_and ?_ | refine wt_or ?_ | refine wt_not ?_ | refine wt_cmp ?_ | refine wt_chain ?_ | refine wt_val rfl ?_ | refine ww_rng1 ?_ | refine ww_rng2 ?_ | refine ww_itv ?_ | refine lct_nil ?_ | refine lct_one ?_ | refine ro_mul ?_ ?_ | refine ro_mod ?_ (by first | assumption | decide) | refine RO.mk rfl ?_ | refine ⟨_, rfl, ?_⟩ | refine ⟨rfl, ?_⟩)
    refine ⟨DI a, ix_get e rfl, ?_⟩
    repeat (first | refine ws_go ?_ | refine ws_nil ?_ | refine ws_cons ?_ | refine w1_expr ?_ | refine w1_var ?_ | refine w1_tup ?_ | refine w1_ix ?_ | refine w1_par ?_ | refine w1_aug rfl ?_ | refine w1_if ?_ | refine w1_for ?_ | refine w1_ret ?_ | refine w1_retN ?_ | refine w1_pass ?_ | refine w1_doc ?_ | refine w1_brk ?_ | refine w1_cont ?_ | refine we_var rfl ?_ | refine we_int ?_ | refine we_glo rfl ?_ | refine we_bin ?_ | refine we_cmp ?_ | refine we_call ?_ | refine we_ix ?_ | refine we_bi ?_ | refine we_tup ?_ | refine we_lst ?_ | refine we_str ?_ | refine we_bl ?_ | refine we_non ?_ | refine we_neg ?_ | refine we_not ?_ | refine we_and ?_ | refine we_or ?_ | refine we_chain ?_ | refine we_ife ?_ | refine we_sl ?_ | refine we_slr ?_ | refine we_isi ?_ | refine we_me ?_ | refine we_lc ?_ | refine wl_nil ?_ | refine wl_cons ?_ | refine wd_nil ?_ | refine wd_cons ?_ | refine wd_star ?_ | refine wo_none ?_ | refine wo_some ?_ | refine wa_one ?_ | refine wa_cons ?_ | refine wb_one ?_ | refine wb_cons ?_ | refine we_dct ?_ | refine we_dct0 ?_ | refine wp_nil ?_ | refine wp_cons ?_ | refine wt_and ?_ | refine wt_or ?_ | refine wt_not ?_ | refine wt_cmp ?_ | refine wt_chain ?_ | refine wt_val rfl ?_ | refine ww_rng1 ?_ | refine ww_rng2 ?_ | refine ww_itv ?_ | refine lct_nil ?_ | refine lct_one ?_ | refine ro_mul ?_ ?_ | refine ro_mod ?_ (by first | assumption | decide) | refine RO.mk rfl ?_ | refine ⟨_, rfl, ?_⟩ | refine ⟨rfl, ?_⟩)
    refine ro_mod ?_ (by omega)
    repeat (first | refine ws_go ?_ | refine ws_nil ?_ | refine ws_cons ?_ | refine w1_expr ?_ | refine w1_var ?_ | refine w1_tup ?_ | refine w1_ix ?_ | refine w1_par ?_ | refine w1_aug rfl ?_ | refine w1_if ?_ | refine w1_for ?_ | refine w1_ret ?_ | refine w1_retN ?_ | refine w1_pass ?_ | refine w1_doc ?_ | refine w1_brk ?_ | refine w1_cont ?_ | refine we_var rfl ?_ | refine we_int ?_ | refine we_glo rfl ?_ | refine we_bin ?_ | refine we_cmp ?_ | refine we_call ?_ | refine we_ix ?_ | refine we_bi ?_ | refine we_tup ?_ | refine we_lst ?_ | refine we_str ?_ | refine we_bl ?_ | refine we_non ?_ | refine we_neg ?_ | refine we_not ?_ | refine we_and ?_ | refine we_or ?_ | refine we_chain ?_ | refine we_ife ?_ | refine we_sl ?_ | refine we_slr ?_ | refine we_isi ?_ | refine we_me ?_ | refine we_lc ?_ | refine wl_nil ?_ | refine wl_cons ?_ | refine wd_nil ?_ | refine wd_cons ?_ | refine wd_star ?_ | refine wo_none ?_ | refine wo_some ?_ | refine wa_one ?_ | refine wa_cons ?_ | refine wb_one ?_ | refine wb_cons ?_ | refine we_dct ?_ | refine we_dct0 ?_ | refine wp_nil ?_ | refine wp_cons ?_ | refine wt_and ?_ | refine wt_or ?_ | refine wt_not ?_ | refine wt_cmp ?_ | refine wt_chain ?_ | refine wt_val rfl ?_ | refine ww_rng1 ?_ | refine ww_rng2 ?_ | refine ww_itv ?_ | refine lct_nil ?_ | refine lct_one ?_ | refine ro_mul ?_ ?_ | refine ro_mod ?_ (by first | assumption | decide) | refine RO.mk rfl ?_ | refine ⟨_, rfl, ?_⟩ | refine ⟨rfl, ?_⟩)
    refine ⟨DI a, ix_get e rfl, ?_⟩
    repeat (first | refine ws_go ?_ | refine ws_nil ?_ | refine ws_cons ?_ | refine w1_expr ?_ | refine w1_var ?_ | refine w1_tup ?_ | refine w1_ix ?_ | refine w1_par ?_ | refine w1_aug rfl ?_ | refine w1_if ?_ | refine w1_for ?_ | refine w1_ret ?_ | refine w1_retN ?_ | refine w1_pass ?_ | refine w1_doc ?_ | refine w1_brk ?_ | refine w1_cont ?_ | refine we_var rfl ?_ | refine we_int ?_ | refine we_glo rfl ?_ | refine we_bin ?_ | refine we_cmp ?_ | refine we_call ?_ | refine we_ix ?_ | refine we_bi ?_ | refine we_tup ?_ | refine we_lst ?_ | refine we_str ?_ | refine we_bl ?_ | refine we_non ?_ | refine we_neg ?_ | refine we_not ?_ | refine we_and ?_ | refine we_or ?_ | refine we_chain ?_ | refine we_ife ?_ | refine we_sl ?_ | refine we_slr ?_ | refine we_isi ?_ | refine we_me ?_ | refine we_lc ?_ | refine wl_nil ?_ | refine wl_cons ?_ | refine wd_nil ?_ | refine wd_cons ?_ | refine wd_star ?_ | refine wo_none ?_ | refine wo_some ?_ | refine wa_one ?_ | refine wa_cons ?_ | refine wb_one ?_ | refine wb_cons ?_ | refine we_dct ?_ | refine we_dct0 ?_ | refine wp_nil ?_ | refine wp_cons ?_ | refine wt_and ?_ | refine wt_or ?_ | refine wt_not ?_ | refine wt_cmp ?_ | refine wt_chain ?_ | refine wt_val rfl ?_ | refine ww_rng1 ?_ | refine ww_rng2 ?_ | refine ww_itv ?_ | refine lct_nil ?_ | refine lct_one ?_ | refine ro_mul ?_ ?_ | refine ro_mod ?_ (by first | assumption | decide) | refine RO.mk rfl ?_ | refine ⟨_, rfl, ?_⟩ | refine ⟨rfl, ?_⟩)
    refine ro_fdiv ?_ ⟨by omega, ?_⟩
    · repeat (first | refine ws_go ?_ | refine ws_nil ?_ | refine ws_cons ?_ | refine w1_expr ?_ | refine w1_var ?_ | refine w1_tup ?_ | refine w1_ix ?_ | refine w1_par ?_ | refine w1_aug rfl ?_ | refine w1_if ?_ | refine w1_for ?_ | refine w1_ret ?_ | refine w1_retN ?_ | refine w1_pass ?_ | refine w1_doc ?_ | refine w1_brk ?_ | refine w1_cont ?_ | refine we_var rfl ?_ | refine we_int ?_ | refine we_glo rfl ?_ | refine we_bin ?_ | refine we_cmp ?_ | refine we_call ?_ | refine we_ix ?_ | refine we_bi ?_ | refine we_tup ?_ | refine we_lst ?_ | refine we_str ?_ | refine we_bl ?_ | refine we_non ?_ | refine we_neg ?_ | refine we_not ?_ | refine we_and ?_ | refine we_or ?_ | refine we_chain ?_ | refine we_ife ?_ | refine we_sl ?_ | refine we_slr ?_ | refine we_isi ?_ | refine we_me ?_ | refine we_lc ?_ | refine wl_nil ?_ | refine wl_cons ?_ | refine wd_nil ?_ | refine wd_cons ?_ | refine wd_star ?_ | refine wo_none ?_ | refine wo_some ?_ | refine wa_one ?_ | refine wa_cons ?_ | refine wb_one ?_ | refine wb_cons ?_ | refine we_dct ?_ | refine we_dct0 ?_ | refine wp_nil ?_ | refine wp_cons ?_ | refine wt_and ?_ | refine wt_or ?_ | refine wt_not ?_ | refine wt_cmp ?_ | refine wt_chain ?_ | refine wt_val rfl ?_ | refine ww_rng1 ?_ | refine ww_rng2 ?_ | refine ww_itv ?_ | refine lct_nil ?_ | refine lct_one ?_ | refine ro_mul ?_ ?_ | refine ro_mod ?_ (by first | assumption | decide) | refine RO.mk rfl ?_ | refine ⟨_, rfl, ?_⟩ | refine ⟨rfl, ?_⟩)
      refine ⟨_, set_get (j := 0) e rfl, ?_⟩
      repeat (first | refine ws_go ?_ | refine ws_nil ?_ | refine ws_cons ?_ | refine w1_expr ?_ | refine w1_var ?_ | refine w1_tup ?_ | refine w1_ix ?_ | refine w1_par ?_ | refine w1_aug rfl ?_ | refine w1_if ?_ | refine w1_for ?_ | refine w1_ret ?_ | refine w1_retN ?_ | refine w1_pass ?_ | refine w1_doc ?_ | refine w1_brk ?_ | refine w1_cont ?_ | refine we_var rfl ?_ | refine we_int ?_ | refine we_glo rfl ?_ | refine we_bin ?_ | refine we_cmp ?_ | refine we_call ?_ | refine we_ix ?_ | refine we_bi ?_ | refine we_tup ?_ | refine we_lst ?_ | refine we_str ?_ | refine we_bl ?_ | refine we_non ?_ | refine we_neg ?_ | refine we_not ?_ | refine we_and ?_ | refine we_or ?_ | refine we_chain ?_ | refine we_ife ?_ | refine we_sl ?_ | refine we_slr ?_ | refine we_isi ?_ | refine we_me ?_ | refine we_lc ?_ | refine wl_nil ?_ | refine wl_cons ?_ | refine wd_nil ?_ | refine wd_cons ?_ | refine wd_star ?_ | refine wo_none ?_ | refine wo_some ?_ | refine wa_one ?_ | refine wa_cons ?_ | refine wb_one ?_ | refine wb_cons ?_ | refine we_dct ?_ | refine we_dct0 ?_ | refine wp_nil ?_ | refine wp_cons ?_ | refine wt_and ?_ | refine wt_or ?_ | refine wt_not ?_ | refine wt_cmp ?_ | refine wt_chain ?_ | refine wt_val rfl ?_ | refine ww_rng1 ?_ | refine ww_rng2 ?_ | refine ww_itv ?_ | refine lct_nil ?_ | refine lct_one ?_ | refine ro_mul ?_ ?_ | refine ro_mod ?_ (by first | assumption | decide) | refine RO.mk rfl ?_ | refine ⟨_, rfl, ?_⟩ | refine ⟨rfl, ?_⟩)
      have e1 : (a : Int) % (t : Int) = ((a % t : Nat) : Int) := by rw [Int.natCast_emod]
      have e2 : (a : Int) / (t : Int) = ((a / t : Nat) : Int) := by rw [Int.natCast_ediv]
      rw [e1, e2]
      exact q _ _ (Nat.mod_lt _ h0) (Fr.put e hb (by omega))
    · rw [Int.natAbs_natCast]
      exact Nat.lt_of_lt_of_le (log2_of (i := (t : Int)) (by rw [Int.natAbs_natCast]; exact ht) (by decide)) (by decide)
  · refine if_f (by omega) ?_
    repeat (first | refine ws_go ?_ | refine ws_nil ?_ | refine ws_cons ?_ | refine w1_expr ?_ | refine w1_var ?_ | refine w1_tup ?_ | refine w1_ix ?_ | refine w1_par ?_ | refine w1_aug rfl ?_ | refine w1_if ?_ | refine w1_for ?_ | refine w1_ret ?_ | refine w1_retN ?_ | refine w1_pass ?_ | refine w1_doc ?_ | refine w1_brk ?_ | refine w1_cont ?_ | refine we_var rfl ?_ | refine we_int ?_ | refine we_glo rfl ?_ | refine we_bin ?_ | refine we_cmp ?_ | refine we_call ?_ | refine we_ix ?_ | refine we_bi ?_ | refine we_tup ?_ | refine we_lst ?_ | refine we_str ?_ | refine we_bl ?_ | refine we_non ?_ | refine we_neg ?_ | refine we_not ?_ | refine we_and ?_ | refine we_or ?_ | refine we_chain ?_ | refine we_ife ?_ | refine we_sl ?_ | refine we_slr ?_ | refine we_isi ?_ | refine we_me ?_ | refine we_lc ?_ | refine wl_nil ?_ | refine wl_cons ?_ | refine wd_nil ?_ | refine wd_cons ?_ | refine wd_star ?_ | refine wo_none ?_ | refine wo_some ?_ | refine wa_one ?_ | refine wa_cons ?_ | refine wb_one ?_ | refine wb_cons ?_ | refine we_dct ?_ | refine we_dct0 ?_ | refine wp_nil ?_ | refine wp_cons ?_ | refine wt_and ?_ | refine wt_or ?_ | refine wt_not ?_ | refine wt_cmp ?_ | refine wt_chain ?_ | refine wt_val rfl ?_ | refine ww_rng1 ?_ | refine ww_rng2 ?_ | refine ww_itv ?_ | refine lct_nil ?_ | refine lct_one ?_ | refine ro_mul ?_ ?_ | refine ro_mod ?_ (by first | assumption | decide) | refine RO.mk rfl ?_ | refine ⟨_, rfl, ?_⟩ | refine ⟨rfl, ?_⟩)
    refine ⟨DI c, ix_get e rfl, ?_⟩
    repeat (first | refine ws_go ?_ | refine ws_nil ?_ | refine ws_cons ?_ | refine w1_expr ?_ | refine w1_var ?_ | refine w1_tup ?_ | refine w1_ix ?_ | refine w1_par ?_ | refine w1_aug rfl ?_ | refine w1_if ?_ | refine w1_for ?_ | refine w1_ret ?_ | refine w1_retN ?_ | refine w1_pass ?_ | refine w1_doc ?_ | refine w1_brk ?_ | refine w1_cont ?_ | refine we_var rfl ?_ | refine we_int ?_ | refine we_glo rfl ?_ | refine we_bin ?_ | refine we_cmp ?_ | refine we_call ?_ | refine we_ix ?_ | refine we_bi ?_ | refine we_tup ?_ | refine we_lst ?_ | refine we_str ?_ | refine we_bl ?_ | refine we_non ?_ | refine we_neg ?_ | refine we_not ?_ | refine we_and ?_ | refine we_or ?_ | refine we_chain ?_ | refine we_ife ?_ | refine we_sl ?_ | refine we_slr ?_ | refine we_isi ?_ | refine we_me ?_ | refine we_lc ?_ | refine wl_nil ?_ | refine wl_cons ?_ | refine wd_nil ?_ | refine wd_cons ?_ | refine wd_star ?_ | refine wo_none ?_ | refine wo_some ?_ | refine wa_one ?_ | refine wa_cons ?_ | refine wb_one ?_ | refine wb_cons ?_ | refine we_dct ?_ | refine we_dct0 ?_ | refine wp_nil ?_ | refine wp_cons ?_ | refine wt_and ?_ | refine wt_or ?_ | refine wt_not ?_ | refine wt_cmp ?_ | refine wt_chain ?_ | refine wt_val rfl ?_ | refine ww_rng1 ?_ | refine ww_rng2 ?_ | refine ww_itv ?_ | refine lct_nil ?_ | refine lct_one ?_ | refine ro_mul ?_ ?_ | refine ro_mod ?_ (by first | assumption | decide) | refine RO.mk rfl ?_ | refine ⟨_, rfl, ?_⟩ | refine ⟨rfl, ?_⟩)
    refine ⟨_, set_get (j := 2) e rfl, ?_⟩
    repeat (first | refine ws_go ?_ | refine ws_nil ?_ | refine ws_cons ?_ | refine w1_expr ?_ | refine w1_var ?_ | refine w1_tup ?_ | refine w1_ix ?_ | refine w1_par ?_ | refine w1_aug rfl ?_ | refine w1_if ?_ | refine w1_for ?_ | refine w1_ret ?_ | refine w1_retN ?_ | refine w1_pass ?_ | refine w1_doc ?_ | refine w1_brk ?_ | refine w1_cont ?_ | refine we_var rfl ?_ | refine we_int ?_ | refine we_glo rfl ?_ | refine we_bin ?_ | refine we_cmp ?_ | refine we_call ?_ | refine we_ix ?_ | refine we_bi ?_ | refine we_tup ?_ | refine we_lst ?_ | refine we_str ?_ | refine we_bl ?_ | refine we_non ?_ | refine we_neg ?_ | refine we_not ?_ | refine we_and ?_ | refine we_or ?_ | refine we_chain ?_ | refine we_ife ?_ | refine we_sl ?_ | refine we_slr ?_ | refine we_isi ?_ | refine we_me ?_ | refine we_lc ?_ | refine wl_nil ?_ | refine wl_cons ?_ | refine wd_nil ?_ | refine wd_cons ?_ | refine wd_star ?_ | refine wo_none ?_ | refine wo_some ?_ | refine wa_one ?_ | refine wa_cons ?_ | refine wb_one ?_ | refine wb_cons ?_ | refine we_dct ?_ | refine we_dct0 ?_ | refine wp_nil ?_ | refine wp_cons ?_ | refine wt_and ?_ | refine wt_or ?_ | refine wt_not ?_ | refine wt_cmp ?_ | refine wt_chain ?_ | refine wt_val rfl ?_ | refine ww_rng1 ?_ | refine ww_rng2 ?_ | refine ww_itv ?_ | refine lct_nil ?_ | refine lct_one ?_ | refine ro_mul ?_ ?_ | refine ro_mod ?_ (by first | assumption | decide) | refine RO.mk rfl ?_ | refine ⟨_, rfl, ?_⟩ | refine ⟨rfl, ?_⟩)
    have e' : (h.put d (.lst [DI a, DI b, DI (c + 1)])).get d = some (.lst [DI a, DI b, DI (c + 1)]) := MH.get_put_same e
    refine ⟨DI b, ix_get e' rfl, ?_⟩
    repeat (first | refine ws_go ?_ | refine ws_nil ?_ | refine ws_cons ?_ | refine w1_expr ?_ | refine w1_var ?_ | refine w1_tup ?_ | refine w1_ix ?_ | refine w1_par ?_ | refine w1_aug rfl ?_ | refine w1_if ?_ | refine w1_for ?_ | refine w1_ret ?_ | refine w1_retN ?_ | refine w1_pass ?_ | refine w1_doc ?_ | refine w1_brk ?_ | refine w1_cont ?_ | refine we_var rfl ?_ | refine we_int ?_ | refine we_glo rfl ?_ | refine we_bin ?_ | refine we_cmp ?_ | refine we_call ?_ | refine we_ix ?_ | refine we_bi ?_ | refine we_tup ?_ | refine we_lst ?_ | refine we_str ?_ | refine we_bl ?_ | refine we_non ?_ | refine we_neg ?_ | refine we_not ?_ | refine we_and ?_ | refine we_or ?_ | refine we_chain ?_ | refine we_ife ?_ | refine we_sl ?_ | refine we_slr ?_ | refine we_isi ?_ | refine we_me ?_ | refine we_lc ?_ | refine wl_nil ?_ | refine wl_cons ?_ | refine wd_nil ?_ | refine wd_cons ?_ | refine wd_star ?_ | refine wo_none ?_ | refine wo_some ?_ | refine wa_one ?_ | refine wa_cons ?_ | refine wb_one ?_ | refine wb_cons ?_ | refine we_dct ?_ | refine we_dct0 ?_ | refine wp_nil ?_ | refine wp_cons ?_ | refine wt_and ?_ | refine wt_or ?_ | refine wt_not ?_ | refine wt_cmp ?_ | refine wt_chain ?_ | refine wt_val rfl ?_ | refine ww_rng1 ?_ | refine ww_rng2 ?_ | refine ww_itv ?_ | refine lct_nil ?_ | refine lct_one ?_ | refine ro_mul ?_ ?_ | refine ro_mod ?_ (by first | assumption | decide) | refine RO.mk rfl ?_ | refine ⟨_, rfl, ?_⟩ | refine ⟨rfl, ?_⟩)
    refine ⟨DI (c + 1), ix_get e' rfl, ?_⟩
    repeat (first | refine ws_go ?_ | refine ws_nil ?_ | refine ws_cons ?_ | refine w1_expr ?_ | refine w1_var ?_ | refine w1_tup ?_ | refine w1_ix ?_ | refine w1_par ?_ | refine w1_aug rfl ?_ | refine w1_if ?_ | refine w1_for ?_ | refine w1_ret ?_ | refine w1_retN ?_ | refine w1_pass ?_ | refine w1_doc ?_ | refine w1_brk ?_ | refine w1_cont ?_ | refine we_var rfl ?_ | refine we_int ?_ | refine we_glo rfl ?_ | refine we_bin ?_ | refine we_cmp ?_ | refine we_call ?_ | refine we_ix ?_ | refine we_bi ?_ | refine we_tup ?_ | refine we_lst ?_ | refine we_str ?_ | refine we_bl ?_ | refine we_non ?_ | refine we_neg ?_ | refine we_not ?_ | refine we_and ?_ | refine we_or ?_ | refine we_chain ?_ | refine we_ife ?_ | refine we_sl ?_ | refine we_slr ?_ | refine we_isi ?_ | refine we_me ?_ | refine we_lc ?_ | refine wl_nil ?_ | refine wl_cons ?_ | refine wd_nil ?_ | refine wd_cons ?_ | refine wd_star ?_ | refine wo_none ?_ | refine wo_some ?_ | refine wa_one ?_ | refine wa_cons ?_ | refine wb_one ?_ | refine wb_cons ?_ | refine we_dct ?_ | refine we_dct0 ?_ | refine wp_nil ?_ | refine wp_cons ?_ | refine wt_and ?_ | refine wt_or ?_ | refine wt_not ?_ | refine wt_cmp ?_ | refine wt_chain ?_ | refine wt_val rfl ?_ | refine ww_rng1 ?_ | refine ww_rng2 ?_ | refine ww_itv ?_ | refine lct_nil ?_ | refine lct_one ?_ | refine ro_mul ?_ ?_ | refine ro_mod ?_ (by first | assumption | decide) | refine RO.mk rfl ?_ | refine ⟨_, rfl, ?_⟩ | refine ⟨rfl, ?_⟩)
    · refine ⟨DI (c + 1), ix_get e' rfl, ?_⟩
      repeat (first | refine ws_go ?_ | refine ws_nil ?_ | refine ws_cons ?_ | refine w1_expr ?_ | refine w1_var ?_ | refine w1_tup ?_ | refine w1_ix ?_ | refine w1_par ?_ | refine w1_aug rfl ?_ | refine w1_if ?_ | refine w1_for ?_ | refine w1_ret ?_ | refine w1_retN ?_ | refine w1_pass ?_ | refine w1_doc ?_ | refine w1_brk ?_ | refine w1_cont ?_ | refine we_var rfl ?_ | refine we_int ?_ | refine we_glo rfl ?_ | refine we_bin ?_ | refine we_cmp ?_ | refine we_call ?_ | refine we_ix ?_ | refine we_bi ?_ | refine we_tup ?_ | refine we_lst ?_ | refine we_str ?_ | refine we_bl ?_ | refine we_non ?_ | refine we_neg ?_ | refine we_not ?_ | refine we_and ?_ | refine we_or ?_ | refine we_chain ?_ | refine we_ife ?_ | refine we_sl ?_ | refine we_slr ?_ | refine we_isi ?_ | refine we_me ?_ | refine we_lc ?_ | refine wl_nil ?_ | refine wl_cons ?_ | refine wd_nil ?_ | refine wd_cons ?_ | refine wd_star ?_ | refine wo_none ?_ | refine wo_some ?_ | refine wa_one ?_ | refine wa_cons ?_ | refine wb_one ?_ | refine wb_cons ?_ | refine we_dct ?_ | refine we_dct0 ?_ | refine wp_nil ?_ | refine wp_cons ?_ | refine wt_and ?_ | refine wt_or ?_ | refine wt_not ?_ | refine wt_cmp ?_ | refine wt_chain ?_ | refine wt_val rfl ?_ | refine ww_rng1 ?_ | refine ww_rng2 ?_ | refine ww_itv ?_ | refine lct_nil ?_ | refine lct_one ?_ | refine ro_mul ?_ ?_ | refine ro_mod ?_ (by first | assumption | decide) | refine RO.mk rfl ?_ | refine ⟨_, rfl, ?_⟩ | refine ⟨rfl, ?_⟩)
      · refine ro_mod ?_ (by omega)
        repeat (first | refine ws_go ?_ | refine ws_nil ?_ | refine ws_cons ?_ | refine w1_expr ?_ | refine w1_var ?_ | refine w1_tup ?_ | refine w1_ix ?_ | refine w1_par ?_ | refine w1_aug rfl ?_ | refine w1_if ?_ | refine w1_for ?_ | refine w1_ret ?_ | refine w1_retN ?_ | refine w1_pass ?_ | refine w1_doc ?_ | refine w1_brk ?_ | refine w1_cont ?_ | refine we_var rfl ?_ | refine we_int ?_ | refine we_glo rfl ?_ | refine we_bin ?_ | refine we_cmp ?_ | refine we_call ?_ | refine we_ix ?_ | refine we_bi ?_ | refine we_tup ?_ | refine we_lst ?_ | refine we_str ?_ | refine we_bl ?_ | refine we_non ?_ | refine we_neg ?_ | refine we_not ?_ | refine we_and ?_ | refine we_or ?_ | refine we_chain ?_ | refine we_ife ?_ | refine we_sl ?_ | refine we_slr ?_ | refine we_isi ?_ | refine we_me ?_ | refine we_lc ?_ | refine wl_nil ?_ | refine wl_cons ?_ | refine wd_nil ?_ | refine wd_cons ?_ | refine wd_star ?_ | refine wo_none ?_ | refine wo_some ?_ | refine wa_one ?_ | refine wa_cons ?_ | refine wb_one ?_ | refine wb_cons ?_ | refine we_dct ?_ | refine we_dct0 ?_ | refine wp_nil ?_ | refine wp_cons ?_ | refine wt_and ?_ | refine wt_or ?_ | refine wt_not ?_ | refine wt_cmp ?_ | refine wt_chain ?_ | refine wt_val rfl ?_ | refine ww_rng1 ?_ | refine ww_rng2 ?_ | refine ww_itv ?_ | refine lct_nil ?_ | refine lct_one ?_ | refine ro_mul ?_ ?_ | refine ro_mod ?_ (by first | assumption | decide) | refine RO.mk rfl ?_ | refine ⟨_, rfl, ?_⟩ | refine ⟨rfl, ?_⟩)
        have hz : ∀ z : Int, z % (t : Int) = (((z % (t : Int)).toNat : Nat) : Int) := fun z => (Int.toNat_of_nonneg (Int.emod_nonneg z (by omega))).symm
        rw [hz]
        refine q _ _ ?_ (Fr.put (a := a) (b := b) (c := c + 1) e hb (by omega))
        have := Int.emod_lt_of_pos ((((((b : Int) + 15486209 * ((c + 1 : Nat) : Int)) % 2305843009213693951 * (((b : Int) + 15486209 * ((c + 1 : Nat) : Int)) % 2305843009213693951) + 199 * ((c + 1 : Nat) : Int)) % 2305843009213693907 * 7368751 + ((b : Int) + 15486209 * ((c + 1 : Nat) : Int)) % 2305843009213693951) / 65536)) (show (0 : Int) < (t : Int) by omega)
        have h2 := Int.emod_nonneg ((((((b : Int) + 15486209 * ((c + 1 : Nat) : Int)) % 2305843009213693951 * (((b : Int) + 15486209 * ((c + 1 : Nat) : Int)) % 2305843009213693951) + 199 * ((c + 1 : Nat) : Int)) % 2305843009213693907 * 7368751 + ((b : Int) + 15486209 * ((c + 1 : Nat) : Int)) % 2305843009213693951) / 65536)) (show (t : Int) ≠ 0 by omega)
        omega
      · exact mul_ok (bnd (by omega) (by omega)) (bnd (by omega) (by omega))
      · exact mul_ok (bnd (by omega) (by omega)) (bnd (by omega) (by omega))
    · exact mul_ok (bnd (by omega) (by omega)) (bnd (by omega) (by omega))
    · exact mul_ok (bnd (by omega) (by omega)) (bnd (by omega) (by omega))
theorem w_pick {d n i : Nat} {ds : List MP.D} (hd : Dice d n h) (hn : n < 2 ^ 64) (hi : i ≠ d) (e : h.get i = some (.lst ds)) (h0 : 0 < ds.length) (h1 : ds.length < 2 ^ 64)
    (q : ∀ (r : Nat) (x : MP.D) (h' : MH), ds[r]? = some x → Fr d (n + 1) h h' → Q x h') : WC P (k + 2) 23 [.ref d, .ref i] h Q := by
  refine wc_imp rfl rfl rfl ?_
  repeat (first | refine ws_go ?_ | refine ws_nil ?_ | refine ws_cons ?_ | refine w1_expr ?_ | refine w1_var ?_ | refine w1_tup ?_ | refine w1_ix ?_ | refine w1_par ?_ | refine w1_aug rfl ?_ | refine w1_if ?_ | refine w1_for ?_ | refine w1_ret ?_ | refine w1_retN ?_ | refine w1_pass ?_ | refine w1_doc ?_ | refine w1_brk ?_ | refine w1_cont ?_ | refine we_var rfl ?_ | refine we_int ?_ | refine we_glo rfl ?_ | refine we_bin ?_ | refine we_cmp ?_ | refine we_call ?_ | refine we_ix ?_ | refine we_bi ?_ | refine we_tup ?_ | refine we_lst ?_ | refine we_str ?_ | refine we_bl ?_ | refine we_non ?_ | refine we_neg ?_ | refine we_not ?_ | refine we_and ?_ | refine we_or ?_ | refine we_chain ?_ | refine we_ife ?_ | refine we_sl ?_ | refine we_slr ?_ | refine we_isi ?_ | refine we_me ?_ | refine we_lc ?_ | refine wl_nil ?_ | refine wl_cons ?_ | refine wd_nil ?_ | refine wd_cons ?_ | refine wd_star ?_ | refine wo_none ?_ | refine wo_some ?_ | refine wa_one ?_ | refine wa_cons ?_ | refine wb_one ?_ | refine wb_cons ?_ | refine we_dct ?_ | refine we_dct0 ?_ | refine wp_nil ?_ | refine wp_cons ?_ | refine wt_and ?_ | refine wt_or ?_ | refine wt_not ?_ | refine wt_cmp ?_ | refine wt_chain ?_ | refine wt_val rfl ?_ | refine ww_rng1 ?_ | refine ww_rng2 ?_ | refine ww_itv ?_ | refine lct_nil ?_ | refine lct_one ?_ | refine ro_mul ?_ ?_ | refine ro_mod ?_ (by first | assumption | decide) | refine RO.mk rfl ?_ | refine ⟨_, rfl, ?_⟩ | refine ⟨rfl, ?_⟩)
  refine bi_len e ?_
  repeat (first | refine ws_go ?_ | refine ws_nil ?_ | refine ws_cons ?_ | refine w1_expr ?_ | refine w1_var ?_ | refine w1_tup ?_ | refine w1_ix ?_ | refine w1_par ?_ | refine w1_aug rfl ?_ | refine w1_if ?_ | refine w1_for ?_ | refine w1_ret ?_ | refine w1_retN ?_ | refine w1_pass ?_ | refine w1_doc ?_ | refine w1_brk ?_ | refine w1_cont ?_ | refine we_var rfl ?_ | refine we_int ?_ | refine we_glo rfl ?_ | refine we_bin ?_ | refine we_cmp ?_ | refine we_call ?_ | refine we_ix ?_ | refine we_bi ?_ | refine we_tup ?_ | refine we_lst ?_ | refine we_str ?_ | refine we_bl ?_ | refine we_non ?_ | refine we_neg ?_ | refine we_not ?_ | refine we_and ?_ | refine we_or ?_ | refine we_chain ?_ | refine we_ife ?_ | refine we_sl ?_ | refine we_slr ?_ | refine we_isi ?_ | refine we_me ?_ | refine we_lc ?_ | refine wl_nil ?_ | refine wl_cons ?_ | refine wd_nil ?_ | refine wd_cons ?_ | refine wd_star ?_ | refine wo_none ?_ | refine wo_some ?_ | refine wa_one ?_ | refine wa_cons ?_ | refine wb_one ?_ | refine wb_cons ?_ | refine we_dct ?_ | refine we_dct0 ?_ | refine wp_nil ?_ | refine wp_cons ?_ | refine wt_and ?_ | refine wt_or ?_ | refine wt_not ?_ | refine wt_cmp ?_ | refine wt_chain ?_ | refine wt_val rfl ?_ | refine ww_rng1 ?_ | refine ww_rng2 ?_ | refine ww_itv ?_ | refine lct_nil ?_ | refine lct_one ?_ | refine ro_mul ?_ ?_ | refine ro_mod ?_ (by first | assumption | decide) | refine RO.mk rfl ?_ | refine ⟨_, rfl, ?_⟩ | refine ⟨rfl, ?_⟩)
  refine w_roll hd hn h0 h1 fun r h' hr f => ?_
  repeat (first | refine ws_go ?_ | refine ws_nil ?_ | refine ws_cons ?_ | refine w1_expr ?_ | refine w1_var ?_ | refine w1_tup ?_ | refine w1_ix ?_ | refine w1_par ?_ | refine w1_aug rfl ?_ | refine w1_if ?_ | refine w1_for ?_ | refine w1_ret ?_ | refine w1_retN ?_ | refine w1_pass ?_ | refine w1_doc ?_ | refine w1_brk ?_ | refine w1_cont ?_ | refine we_var rfl ?_ | refine we_int ?_ | refine we_glo rfl ?_ | refine we_bin ?_ | refine we_cmp ?_ | refine we_call ?_ | refine we_ix ?_ | refine we_bi ?_ | refine we_tup ?_ | refine we_lst ?_ | refine we_str ?_ | refine we_bl ?_ | refine we_non ?_ | refine we_neg ?_ | refine we_not ?_ | refine we_and ?_ | refine we_or ?_ | refine we_chain ?_ | refine we_ife ?_ | refine we_sl ?_ | refine we_slr ?_ | refine we_isi ?_ | refine we_me ?_ | refine we_lc ?_ | refine wl_nil ?_ | refine wl_cons ?_ | refine wd_nil ?_ | refine wd_cons ?_ | refine wd_star ?_ | refine wo_none ?_ | refine wo_some ?_ | refine wa_one ?_ | refine wa_cons ?_ | refine wb_one ?_ | refine wb_cons ?_ | refine we_dct ?_ | refine we_dct0 ?_ | refine wp_nil ?_ | refine wp_cons ?_ | refine wt_and ?_ | refine wt_or ?_ | refine wt_not ?_ | refine wt_cmp ?_ | refine wt_chain ?_ | refine wt_val rfl ?_ | refine ww_rng1 ?_ | refine ww_rng2 ?_ | refine ww_itv ?_ | refine lct_nil ?_ | refine lct_one ?_ | refine ro_mul ?_ ?_ | refine ro_mod ?_ (by first | assumption | decide) | refine RO.mk rfl ?_ | refine ⟨_, rfl, ?_⟩ | refine ⟨rfl, ?_⟩)
  obtain ⟨x, hx⟩ : ∃ x, ds[r]? = some x := ⟨_, List.getElem?_eq_getElem hr⟩
  refine ⟨x, ix_get ((f.fr i (MH.get_lt e) hi).trans e) (at_nat hx), ?_⟩
  repeat (first | refine ws_go ?_ | refine ws_nil ?_ | refine ws_cons ?_ | refine w1_expr ?_ | refine w1_var ?_ | refine w1_tup ?_ | refine w1_ix ?_ | refine w1_par ?_ | refine w1_aug rfl ?_ | refine w1_if ?_ | refine w1_for ?_ | refine w1_ret ?_ | refine w1_retN ?_ | refine w1_pass ?_ | refine w1_doc ?_ | refine w1_brk ?_ | refine w1_cont ?_ | refine we_var rfl ?_ | refine we_int ?_ | refine we_glo rfl ?_ | refine we_bin ?_ | refine we_cmp ?_ | refine we_call ?_ | refine we_ix ?_ | refine we_bi ?_ | refine we_tup ?_ | refine we_lst ?_ | refine we_str ?_ | refine we_bl ?_ | refine we_non ?_ | refine we_neg ?_ | refine we_not ?_ | refine we_and ?_ | refine we_or ?_ | refine we_chain ?_ | refine we_ife ?_ | refine we_sl ?_ | refine we_slr ?_ | refine we_isi ?_ | refine we_me ?_ | refine we_lc ?_ | refine wl_nil ?_ | refine wl_cons ?_ | refine wd_nil ?_ | refine wd_cons ?_ | refine wd_star ?_ | refine wo_none ?_ | refine wo_some ?_ | refine wa_one ?_ | refine wa_cons ?_ | refine wb_one ?_ | refine wb_cons ?_ | refine we_dct ?_ | refine we_dct0 ?_ | refine wp_nil ?_ | refine wp_cons ?_ | refine wt_and ?_ | refine wt_or ?_ | refine wt_not ?_ | refine wt_cmp ?_ | refine wt_chain ?_ | refine wt_val rfl ?_ | refine ww_rng1 ?_ | refine ww_rng2 ?_ | refine ww_itv ?_ | refine lct_nil ?_ | refine lct_one ?_ | refine ro_mul ?_ ?_ | refine ro_mod ?_ (by first | assumption | decide) | refine RO.mk rfl ?_ | refine ⟨_, rfl, ?_⟩ | refine ⟨rfl, ?_⟩)
  exact q r x h' hx f
theorem w_isint {i a b : Int} (h1 : a ≤ i) (h2 : i ≤ b) (q : Q (.bl true) h) : WC P (k + 2) 24 [.int i, .int a, .int b] h Q := by
  refine wc_pur rfl rfl rfl rfl ?_
  repeat (first | refine ws_go ?_ | refine ws_nil ?_ | refine ws_cons ?_ | refine w1_expr ?_ | refine w1_var ?_ | refine w1_tup ?_ | refine w1_ix ?_ | refine w1_par ?_ | refine w1_aug rfl ?_ | refine w1_if ?_ | refine w1_for ?_ | refine w1_ret ?_ | refine w1_retN ?_ | refine w1_pass ?_ | refine w1_doc ?_ | refine w1_brk ?_ | refine w1_cont ?_ | refine we_var rfl ?_ | refine we_int ?_ | refine we_glo rfl ?_ | refine we_bin ?_ | refine we_cmp ?_ | refine we_call ?_ | refine we_ix ?_ | refine we_bi ?_ | refine we_tup ?_ | refine we_lst ?_ | refine we_str ?_ | refine we_bl ?_ | refine we_non ?_ | refine we_neg ?_ | refine we_not ?_ | refine we_and ?_ | refine we_or ?_ | refine we_chain ?_ | refine we_ife ?_ | refine we_sl ?_ | refine we_slr ?_ | refine we_isi ?_ | refine we_me ?_ | refine we_lc ?_ | refine wl_nil ?_ | refine wl_cons ?_ | refine wd_nil ?_ | refine wd_cons ?_ | refine wd_star ?_ | refine wo_none ?_ | refine wo_some ?_ | refine wa_one ?_ | refine wa_cons ?_ | refine wb_one ?_ | refine wb_cons ?_ | refine we_dct ?_ | refine we_dct0 ?_ | refine wp_nil ?_ | refine wp_cons ?_ | refine wt_and ?_ | refine wt_or ?_ | refine wt_not ?_ | refine wt_cmp ?_ | refine wt_chain ?_ | refine wt_val rfl ?_ | refine ww_rng1 ?_ | refine ww_rng2 ?_ | refine ww_itv ?_ | refine lct_nil ?_ | refine lct_one ?_ | refine ro_mul ?_ ?_ | refine ro_mod ?_ (by first | assumption | decide) | refine RO.mk rfl ?_ | refine ⟨_, rfl, ?_⟩ | refine ⟨rfl, ?_⟩)
  refine if_t h1 ?_
  repeat (first | refine ws_go ?_ | refine ws_nil ?_ | refine ws_cons ?_ | refine w1_expr ?_ | refine w1_var ?_ | refine w1_tup ?_ | refine w1_ix ?_ | refine w1_par ?_ | refine w1_aug rfl ?_ | refine w1_if ?_ | refine w1_for ?_ | refine w1_ret ?_ | refine w1_retN ?_ | refine w1_pass ?_ | refine w1_doc ?_ | refine w1_brk ?_ | refine w1_cont ?_ | refine we_var rfl ?_ | refine we_int ?_ | refine we_glo rfl ?_ | refine we_bin ?_ | refine we_cmp ?_ | refine we_call ?_ | refine we_ix ?_ | refine we_bi ?_ | refine we_tup ?_ | refine we_lst ?_ | refine we_str ?_ | refine we_bl ?_ | refine we_non ?_ | refine we_neg ?_ | refine we_not ?_ | refine we_and ?_ | refine we_or ?_ | refine we_chain ?_ | refine we_ife ?_ | refine we_sl ?_ | refine we_slr ?_ | refine we_isi ?_ | refine we_me ?_ | refine we_lc ?_ | refine wl_nil ?_ | refine wl_cons ?_ | refine wd_nil ?_ | refine wd_cons ?_ | refine wd_star ?_ | refine wo_none ?_ | refine wo_some ?_ | refine wa_one ?_ | refine wa_cons ?_ | refine wb_one ?_ | refine wb_cons ?_ | refine we_dct ?_ | refine we_dct0 ?_ | refine wp_nil ?_ | refine wp_cons ?_ | refine wt_and ?_ | refine wt_or ?_ | refine wt_not ?_ | refine wt_cmp ?_ | refine wt_chain ?_ | refine wt_val rfl ?_ | refine ww_rng1 ?_ | refine ww_rng2 ?_ | refine ww_itv ?_ | refine lct_nil ?_ | refine lct_one ?_ | refine ro_mul ?_ ?_ | refine ro_mod ?_ (by first | assumption | decide) | refine RO.mk rfl ?_ | refine ⟨_, rfl, ?_⟩ | refine ⟨rfl, ?_⟩)
  rw [decide_eq_true h2]
  repeat (first | refine ws_go ?_ | refine ws_nil ?_ | refine ws_cons ?_ | refine w1_expr ?_ | refine w1_var ?_ | refine w1_tup ?_ | refine w1_ix ?_ | refine w1_par ?_ | refine w1_aug rfl ?_ | refine w1_if ?_ | refine w1_for ?_ | refine w1_ret ?_ | refine w1_retN ?_ | refine w1_pass ?_ | refine w1_doc ?_ | refine w1_brk ?_ | refine w1_cont ?_ | refine we_var rfl ?_ | refine we_int ?_ | refine we_glo rfl ?_ | refine we_bin ?_ | refine we_cmp ?_ | refine we_call ?_ | refine we_ix ?_ | refine we_bi ?_ | refine we_tup ?_ | refine we_lst ?_ | refine we_str ?_ | refine we_bl ?_ | refine we_non ?_ | refine we_neg ?_ | refine we_not ?_ | refine we_and ?_ | refine we_or ?_ | refine we_chain ?_ | refine we_ife ?_ | refine we_sl ?_ | refine we_slr ?_ | refine we_isi ?_ | refine we_me ?_ | refine we_lc ?_ | refine wl_nil ?_ | refine wl_cons ?_ | refine wd_nil ?_ | refine wd_cons ?_ | refine wd_star ?_ | refine wo_none ?_ | refine wo_some ?_ | refine wa_one ?_ | refine wa_cons ?_ | refine wb_one ?_ | refine wb_cons ?_ | refine we_dct ?_ | refine we_dct0 ?_ | refine wp_nil ?_ | refine wp_cons ?_ | refine wt_and ?_ | refine wt_or ?_ | refine wt_not ?_ | refine wt_cmp ?_ | refine wt_chain ?_ | refine wt_val rfl ?_ | refine ww_rng1 ?_ | refine ww_rng2 ?_ | refine ww_itv ?_ | refine lct_nil ?_ | refine lct_one ?_ | refine ro_mul ?_ ?_ | refine ro_mod ?_ (by first | assumption | decide) | refine RO.mk rfl ?_ | refine ⟨_, rfl, ?_⟩ | refine ⟨rfl, ?_⟩)
  exact q
theorem w_dice {ns : List Int} {s : Nat} (hs : s < 1000) (q : ∀ h' : MH, Dice h.n 0 h' → Q (.ref h.n) h') : WC P (k + 1) 21 [.rol (ns.map .int), DI s] h Q := by
  refine wc_imp rfl rfl rfl ?_
  repeat (first | refine ws_go ?_ | refine ws_nil ?_ | refine ws_cons ?_ | refine w1_expr ?_ | refine w1_var ?_ | refine w1_tup ?_ | refine w1_ix ?_ | refine w1_par ?_ | refine w1_aug rfl ?_ | refine w1_if ?_ | refine w1_for ?_ | refine w1_ret ?_ | refine w1_retN ?_ | refine w1_pass ?_ | refine w1_doc ?_ | refine w1_brk ?_ | refine w1_cont ?_ | refine we_var rfl ?_ | refine we_int ?_ | refine we_glo rfl ?_ | refine we_bin ?_ | refine we_cmp ?_ | refine we_call ?_ | refine we_ix ?_ | refine we_bi ?_ | refine we_tup ?_ | refine we_lst ?_ | refine we_str ?_ | refine we_bl ?_ | refine we_non ?_ | refine we_neg ?_ | refine we_not ?_ | refine we_and ?_ | refine we_or ?_ | refine we_chain ?_ | refine we_ife ?_ | refine we_sl ?_ | refine we_slr ?_ | refine we_isi ?_ | refine we_me ?_ | refine we_lc ?_ | refine wl_nil ?_ | refine wl_cons ?_ | refine wd_nil ?_ | refine wd_cons ?_ | refine wd_star ?_ | refine wo_none ?_ | refine wo_some ?_ | refine wa_one ?_ | refine wa_cons ?_ | refine wb_one ?_ | refine wb_cons ?_ | refine we_dct ?_ | refine we_dct0 ?_ | refine wp_nil ?_ | refine wp_cons ?_ | refine wt_and ?_ | refine wt_or ?_ | refine wt_not ?_ | refine wt_cmp ?_ | refine wt_chain ?_ | refine wt_val rfl ?_ | refine ww_rng1 ?_ | refine ww_rng2 ?_ | refine ww_itv ?_ | refine lct_nil ?_ | refine lct_one ?_ | refine ro_mul ?_ ?_ | refine ro_mod ?_ (by first | assumption | decide) | refine RO.mk rfl ?_ | refine ⟨_, rfl, ?_⟩ | refine ⟨rfl, ?_⟩)
  by_cases hl : s < ns.length
  · refine if_t (by rw [List.length_map]; omega) ?_
    repeat (first | refine ws_go ?_ | refine ws_nil ?_ | refine ws_cons ?_ | refine w1_expr ?_ | refine w1_var ?_ | refine w1_tup ?_ | refine w1_ix ?_ | refine w1_par ?_ | refine w1_aug rfl ?_ | refine w1_if ?_ | refine w1_for ?_ | refine w1_ret ?_ | refine w1_retN ?_ | refine w1_pass ?_ | refine w1_doc ?_ | refine w1_brk ?_ | refine w1_cont ?_ | refine we_var rfl ?_ | refine we_int ?_ | refine we_glo rfl ?_ | refine we_bin ?_ | refine we_cmp ?_ | refine we_call ?_ | refine we_ix ?_ | refine we_bi ?_ | refine we_tup ?_ | refine we_lst ?_ | refine we_str ?_ | refine we_bl ?_ | refine we_non ?_ | refine we_neg ?_ | refine we_not ?_ | refine we_and ?_ | refine we_or ?_ | refine we_chain ?_ | refine we_ife ?_ | refine we_sl ?_ | refine we_slr ?_ | refine we_isi ?_ | refine we_me ?_ | refine we_lc ?_ | refine wl_nil ?_ | refine wl_cons ?_ | refine wd_nil ?_ | refine wd_cons ?_ | refine wd_star ?_ | refine wo_none ?_ | refine wo_some ?_ | refine wa_one ?_ | refine wa_cons ?_ | refine wb_one ?_ | refine wb_cons ?_ | refine we_dct ?_ | refine we_dct0 ?_ | refine wp_nil ?_ | refine wp_cons ?_ | refine wt_and ?_ | refine wt_or ?_ | refine wt_not ?_ | refine wt_cmp ?_ | refine wt_chain ?_ | refine wt_val rfl ?_ | refine ww_rng1 ?_ | refine ww_rng2 ?_ | refine ww_itv ?_ | refine lct_nil ?_ | refine lct_one ?_ | refine ro_mul ?_ ?_ | refine ro_mod ?_ (by first | assumption | decide) | refine RO.mk rfl ?_ | refine ⟨_, rfl, ?_⟩ | refine ⟨rfl, ?_⟩)
    refine ⟨.int ns[s], ?_, ?_⟩
    · show L2.atI (ns.map MP.D.int) (s : Int) = _
      exact at_nat (by rw [List.getElem?_map, List.getElem?_eq_getElem hl]; rfl)
    · generalize ns[s] = cell
      repeat (first | refine ws_go ?_ | refine ws_nil ?_ | refine ws_cons ?_ | refine w1_expr ?_ | refine w1_var ?_ | refine w1_tup ?_ | refine w1_ix ?_ | refine w1_par ?_ | refine w1_aug rfl ?_ | refine w1_if ?_ | refine w1_for ?_ | refine w1_ret ?_ | refine w1_retN ?_ | refine w1_pass ?_ | refine w1_doc ?_ | refine w1_brk ?_ | refine w1_cont ?_ | refine we_var rfl ?_ | refine we_int ?_ | refine we_glo rfl ?_ | refine we_bin ?_ | refine we_cmp ?_ | refine we_call ?_ | refine we_ix ?_ | refine we_bi ?_ | refine we_tup ?_ | refine we_lst ?_ | refine we_str ?_ | refine we_bl ?_ | refine we_non ?_ | refine we_neg ?_ | refine we_not ?_ | refine we_and ?_ | refine we_or ?_ | refine we_chain ?_ | refine we_ife ?_ | refine we_sl ?_ | refine we_slr ?_ | refine we_isi ?_ | refine we_me ?_ | refine we_lc ?_ | refine wl_nil ?_ | refine wl_cons ?_ | refine wd_nil ?_ | refine wd_cons ?_ | refine wd_star ?_ | refine wo_none ?_ | refine wo_some ?_ | refine wa_one ?_ | refine wa_cons ?_ | refine wb_one ?_ | refine wb_cons ?_ | refine we_dct ?_ | refine we_dct0 ?_ | refine wp_nil ?_ | refine wp_cons ?_ | refine wt_and ?_ | refine wt_or ?_ | refine wt_not ?_ | refine wt_cmp ?_ | refine wt_chain ?_ | refine wt_val rfl ?_ | refine ww_rng1 ?_ | refine ww_rng2 ?_ | refine ww_itv ?_ | refine lct_nil ?_ | refine lct_one ?_ | refine ro_mul ?_ ?_ | refine ro_mod ?_ (by first | assumption | decide) | refine RO.mk rfl ?_ | refine ⟨_, rfl, ?_⟩ | refine ⟨rfl, ?_⟩)
      · refine q _ (dice_new ?_ ?_ ?_)
        · exact Int.emod_nonneg _ (by decide)
        · split <;> split <;> omega
        · split <;> split <;> omega
      all_goals first | decide +kernel | (refine mul_ok ?_ ?_ <;> (refine bnd ?_ ?_ <;> first | decide | omega | (split <;> omega)))
  · refine if_f (by rw [List.length_map]; omega) ?_
    repeat (first | refine ws_go ?_ | refine ws_nil ?_ | refine ws_cons ?_ | refine w1_expr ?_ | refine w1_var ?_ | refine w1_tup ?_ | refine w1_ix ?_ | refine w1_par ?_ | refine w1_aug rfl ?_ | refine w1_if ?_ | refine w1_for ?_ | refine w1_ret ?_ | refine w1_retN ?_ | refine w1_pass ?_ | refine w1_doc ?_ | refine w1_brk ?_ | refine w1_cont ?_ | refine we_var rfl ?_ | refine we_int ?_ | refine we_glo rfl ?_ | refine we_bin ?_ | refine we_cmp ?_ | refine we_call ?_ | refine we_ix ?_ | refine we_bi ?_ | refine we_tup ?_ | refine we_lst ?_ | refine we_str ?_ | refine we_bl ?_ | refine we_non ?_ | refine we_neg ?_ | refine we_not ?_ | refine we_and ?_ | refine we_or ?_ | refine we_chain ?_ | refine we_ife ?_ | refine we_sl ?_ | refine we_slr ?_ | refine we_isi ?_ | refine we_me ?_ | refine we_lc ?_ | refine wl_nil ?_ | refine wl_cons ?_ | refine wd_nil ?_ | refine wd_cons ?_ | refine wd_star ?_ | refine wo_none ?_ | refine wo_some ?_ | refine wa_one ?_ | refine wa_cons ?_ | refine wb_one ?_ | refine wb_cons ?_ | refine we_dct ?_ | refine we_dct0 ?_ | refine wp_nil ?_ | refine wp_cons ?_ | refine wt_and ?_ | refine wt_or ?_ | refine wt_not ?_ | refine wt_cmp ?_ | refine wt_chain ?_ | refine wt_val rfl ?_ | refine ww_rng1 ?_ | refine ww_rng2 ?_ | refine ww_itv ?_ | refine lct_nil ?_ | refine lct_one ?_ | refine ro_mul ?_ ?_ | refine ro_mod ?_ (by first | assumption | decide) | refine RO.mk rfl ?_ | refine ⟨_, rfl, ?_⟩ | refine ⟨rfl, ?_⟩)
    · refine q _ (dice_new ?_ ?_ ?_)
      · exact Int.emod_nonneg _ (by decide)
      · split <;> split <;> omega
      · split <;> split <;> omega
    all_goals first | decide +kernel | (refine mul_ok ?_ ?_ <;> (refine bnd ?_ ?_ <;> first | decide | omega | (split <;> omega)))
end
section
variable {k : Nat} {h : MH} {Q : MP.D → MH → Prop} {p g : Nat} {qs : List Nat}
theorem w_power_neg {a n : Nat} (hg : Prm p g) (ha : a < p) (h0 : a ≠ 0) (hn0 : 0 < n) (hn : n < 1000000000000000000000000000000000000000000000000000000000000) (q : Q (DI ((a ^ (p - 2) % p) ^ n % p)) h) : WC P (k + 6) 20 [DI p, DI a, .int (-(n : Int))] h Q := by
  have hl := prm_lt hg
  refine wc_pur rfl rfl rfl rfl ?_
  repeat (first | refine ws_go ?_ | refine ws_nil ?_ | refine ws_cons ?_ | refine w1_expr ?_ | refine w1_var ?_ | refine w1_tup ?_ | refine w1_ix ?_ | refine w1_par ?_ | refine w1_aug rfl ?_ | refine w1_if ?_ | refine w1_for ?_ | refine w1_ret ?_ | refine w1_retN ?_ | refine w1_pass ?_ | refine w1_doc ?_ | refine w1_brk ?_ | refine w1_cont ?_ | refine we_var rfl ?_ | refine we_int ?_ | refine we_glo rfl ?_ | refine we_bin ?_ | refine we_cmp ?_ | refine we_call ?_ | refine we_ix ?_ | refine we_bi ?_ | refine we_tup ?_ | refine we_lst ?_ | refine we_str ?_ | refine we_bl ?_ | refine we_non ?_ | refine we_neg ?_ | refine we_not ?_ | refine we_and ?_ | refine we_or ?_ | refine we_chain ?_ | refine we_ife ?_ | refine we_sl ?_ | refine we_slr ?_ | refine we_isi ?_ | refine we_me ?_ | refine we_lc ?_ | refine wl_nil ?_ | refine wl_cons ?_ | refine wd_nil ?_ | refine wd_cons ?_ | refine wd_star ?_ | refine wo_none ?_ | refine wo_some ?_ | refine wa_one ?_ | refine wa_cons ?_ | refine wb_one ?_ | refine wb_cons ?_ | refine we_dct ?_ | refine we_dct0 ?_ | refine wp_nil ?_ | refine wp_cons ?_ | refine wt_and ?_ | refine wt_or ?_ | refine wt_not ?_ | refine wt_cmp ?_ | refine wt_chain ?_ | refine wt_val rfl ?_ | refine ww_rng1 ?_ | refine ww_rng2 ?_ | refine ww_itv ?_ | refine lct_nil ?_ | refine lct_one ?_ | refine ro_mul ?_ ?_ | refine ro_mod ?_ (by first | assumption | decide) | refine RO.mk rfl ?_ | refine ⟨_, rfl, ?_⟩ | refine ⟨rfl, ?_⟩)
  refine w_req_both hg ha ?_
  repeat (first | refine ws_go ?_ | refine ws_nil ?_ | refine ws_cons ?_ | refine w1_expr ?_ | refine w1_var ?_ | refine w1_tup ?_ | refine w1_ix ?_ | refine w1_par ?_ | refine w1_aug rfl ?_ | refine w1_if ?_ | refine w1_for ?_ | refine w1_ret ?_ | refine w1_retN ?_ | refine w1_pass ?_ | refine w1_doc ?_ | refine w1_brk ?_ | refine w1_cont ?_ | refine we_var rfl ?_ | refine we_int ?_ | refine we_glo rfl ?_ | refine we_bin ?_ | refine we_cmp ?_ | refine we_call ?_ | refine we_ix ?_ | refine we_bi ?_ | refine we_tup ?_ | refine we_lst ?_ | refine we_str ?_ | refine we_bl ?_ | refine we_non ?_ | refine we_neg ?_ | refine we_not ?_ | refine we_and ?_ | refine we_or ?_ | refine we_chain ?_ | refine we_ife ?_ | refine we_sl ?_ | refine we_slr ?_ | refine we_isi ?_ | refine we_me ?_ | refine we_lc ?_ | refine wl_nil ?_ | refine wl_cons ?_ | refine wd_nil ?_ | refine wd_cons ?_ | refine wd_star ?_ | refine wo_none ?_ | refine wo_some ?_ | refine wa_one ?_ | refine wa_cons ?_ | refine wb_one ?_ | refine wb_cons ?_ | refine we_dct ?_ | refine we_dct0 ?_ | refine wp_nil ?_ | refine wp_cons ?_ | refine wt_and ?_ | refine wt_or ?_ | refine wt_not ?_ | refine wt_cmp ?_ | refine wt_chain ?_ | refine wt_val rfl ?_ | refine ww_rng1 ?_ | refine ww_rng2 ?_ | refine ww_itv ?_ | refine lct_nil ?_ | refine lct_one ?_ | refine ro_mul ?_ ?_ | refine ro_mod ?_ (by first | assumption | decide) | refine RO.mk rfl ?_ | refine ⟨_, rfl, ?_⟩ | refine ⟨rfl, ?_⟩)
  refine w_req_exp (by omega) (by omega) ?_
  repeat (first | refine ws_go ?_ | refine ws_nil ?_ | refine ws_cons ?_ | refine w1_expr ?_ | refine w1_var ?_ | refine w1_tup ?_ | refine w1_ix ?_ | refine w1_par ?_ | refine w1_aug rfl ?_ | refine w1_if ?_ | refine w1_for ?_ | refine w1_ret ?_ | refine w1_retN ?_ | refine w1_pass ?_ | refine w1_doc ?_ | refine w1_brk ?_ | refine w1_cont ?_ | refine we_var rfl ?_ | refine we_int ?_ | refine we_glo rfl ?_ | refine we_bin ?_ | refine we_cmp ?_ | refine we_call ?_ | refine we_ix ?_ | refine we_bi ?_ | refine we_tup ?_ | refine we_lst ?_ | refine we_str ?_ | refine we_bl ?_ | refine we_non ?_ | refine we_neg ?_ | refine we_not ?_ | refine we_and ?_ | refine we_or ?_ | refine we_chain ?_ | refine we_ife ?_ | refine we_sl ?_ | refine we_slr ?_ | refine we_isi ?_ | refine we_me ?_ | refine we_lc ?_ | refine wl_nil ?_ | refine wl_cons ?_ | refine wd_nil ?_ | refine wd_cons ?_ | refine wd_star ?_ | refine wo_none ?_ | refine wo_some ?_ | refine wa_one ?_ | refine wa_cons ?_ | refine wb_one ?_ | refine wb_cons ?_ | refine we_dct ?_ | refine we_dct0 ?_ | refine wp_nil ?_ | refine wp_cons ?_ | refine wt_and ?_ | refine wt_or ?_ | refine wt_not ?_ | refine wt_cmp ?_ | refine wt_chain ?_ | refine wt_val rfl ?_ | refine ww_rng1 ?_ | refine ww_rng2 ?_ | refine ww_itv ?_ | refine lct_nil ?_ | refine lct_one ?_ | refine ro_mul ?_ ?_ | refine ro_mod ?_ (by first | assumption | decide) | refine RO.mk rfl ?_ | refine ⟨_, rfl, ?_⟩ | refine ⟨rfl, ?_⟩)
  refine if_f (by omega) ?_
  refine if_f (by omega) ?_
  repeat (first | refine ws_go ?_ | refine ws_nil ?_ | refine ws_cons ?_ | refine w1_expr ?_ | refine w1_var ?_ | refine w1_tup ?_ | refine w1_ix ?_ | refine w1_par ?_ | refine w1_aug rfl ?_ | refine w1_if ?_ | refine w1_for ?_ | refine w1_ret ?_ | refine w1_retN ?_ | refine w1_pass ?_ | refine w1_doc ?_ | refine w1_brk ?_ | refine w1_cont ?_ | refine we_var rfl ?_ | refine we_int ?_ | refine we_glo rfl ?_ | refine we_bin ?_ | refine we_cmp ?_ | refine we_call ?_ | refine we_ix ?_ | refine we_bi ?_ | refine we_tup ?_ | refine we_lst ?_ | refine we_str ?_ | refine we_bl ?_ | refine we_non ?_ | refine we_neg ?_ | refine we_not ?_ | refine we_and ?_ | refine we_or ?_ | refine we_chain ?_ | refine we_ife ?_ | refine we_sl ?_ | refine we_slr ?_ | refine we_isi ?_ | refine we_me ?_ | refine we_lc ?_ | refine wl_nil ?_ | refine wl_cons ?_ | refine wd_nil ?_ | refine wd_cons ?_ | refine wd_star ?_ | refine wo_none ?_ | refine wo_some ?_ | refine wa_one ?_ | refine wa_cons ?_ | refine wb_one ?_ | refine wb_cons ?_ | refine we_dct ?_ | refine we_dct0 ?_ | refine wp_nil ?_ | refine wp_cons ?_ | refine wt_and ?_ | refine wt_or ?_ | refine wt_not ?_ | refine wt_cmp ?_ | refine wt_chain ?_ | refine wt_val rfl ?_ | refine ww_rng1 ?_ | refine ww_rng2 ?_ | refine ww_itv ?_ | refine lct_nil ?_ | refine lct_one ?_ | refine ro_mul ?_ ?_ | refine ro_mod ?_ (by first | assumption | decide) | refine RO.mk rfl ?_ | refine ⟨_, rfl, ?_⟩ | refine ⟨rfl, ?_⟩)
  refine w_any1 hn0 hl.1 hl.2.1 ?_
  repeat (first | refine ws_go ?_ | refine ws_nil ?_ | refine ws_cons ?_ | refine w1_expr ?_ | refine w1_var ?_ | refine w1_tup ?_ | refine w1_ix ?_ | refine w1_par ?_ | refine w1_aug rfl ?_ | refine w1_if ?_ | refine w1_for ?_ | refine w1_ret ?_ | refine w1_retN ?_ | refine w1_pass ?_ | refine w1_doc ?_ | refine w1_brk ?_ | refine w1_cont ?_ | refine we_var rfl ?_ | refine we_int ?_ | refine we_glo rfl ?_ | refine we_bin ?_ | refine we_cmp ?_ | refine we_call ?_ | refine we_ix ?_ | refine we_bi ?_ | refine we_tup ?_ | refine we_lst ?_ | refine we_str ?_ | refine we_bl ?_ | refine we_non ?_ | refine we_neg ?_ | refine we_not ?_ | refine we_and ?_ | refine we_or ?_ | refine we_chain ?_ | refine we_ife ?_ | refine we_sl ?_ | refine we_slr ?_ | refine we_isi ?_ | refine we_me ?_ | refine we_lc ?_ | refine wl_nil ?_ | refine wl_cons ?_ | refine wd_nil ?_ | refine wd_cons ?_ | refine wd_star ?_ | refine wo_none ?_ | refine wo_some ?_ | refine wa_one ?_ | refine wa_cons ?_ | refine wb_one ?_ | refine wb_cons ?_ | refine we_dct ?_ | refine we_dct0 ?_ | refine wp_nil ?_ | refine wp_cons ?_ | refine wt_and ?_ | refine wt_or ?_ | refine wt_not ?_ | refine wt_cmp ?_ | refine wt_chain ?_ | refine wt_val rfl ?_ | refine ww_rng1 ?_ | refine ww_rng2 ?_ | refine ww_itv ?_ | refine lct_nil ?_ | refine lct_one ?_ | refine ro_mul ?_ ?_ | refine ro_mod ?_ (by first | assumption | decide) | refine RO.mk rfl ?_ | refine ⟨_, rfl, ?_⟩ | refine ⟨rfl, ?_⟩)
  exact q
theorem w_lpower {p b e : Nat} (hp1 : 1 < p) (hp : p < 2 ^ 20) (q : Q (DI (b ^ e % p)) h) : WC P (k + 1) 27 [DI p, DI b, DI e] h Q := by
  have hp0 : (0 : Int) < (p : Int) := by omega
  have ml : ∀ x : Nat, x % p < p := fun x => Nat.mod_lt _ (by omega)
  refine wc_pur rfl rfl rfl rfl ?_
  repeat (first | refine ws_go ?_ | refine ws_nil ?_ | refine ws_cons ?_ | refine w1_expr ?_ | refine w1_var ?_ | refine w1_tup ?_ | refine w1_ix ?_ | refine w1_par ?_ | refine w1_aug rfl ?_ | refine w1_if ?_ | refine w1_for ?_ | refine w1_ret ?_ | refine w1_retN ?_ | refine w1_pass ?_ | refine w1_doc ?_ | refine w1_brk ?_ | refine w1_cont ?_ | refine we_var rfl ?_ | refine we_int ?_ | refine we_glo rfl ?_ | refine we_bin ?_ | refine we_cmp ?_ | refine we_call ?_ | refine we_ix ?_ | refine we_bi ?_ | refine we_tup ?_ | refine we_lst ?_ | refine we_str ?_ | refine we_bl ?_ | refine we_non ?_ | refine we_neg ?_ | refine we_not ?_ | refine we_and ?_ | refine we_or ?_ | refine we_chain ?_ | refine we_ife ?_ | refine we_sl ?_ | refine we_slr ?_ | refine we_isi ?_ | refine we_me ?_ | refine we_lc ?_ | refine wl_nil ?_ | refine wl_cons ?_ | refine wd_nil ?_ | refine wd_cons ?_ | refine wd_star ?_ | refine wo_none ?_ | refine wo_some ?_ | refine wa_one ?_ | refine wa_cons ?_ | refine wb_one ?_ | refine wb_cons ?_ | refine we_dct ?_ | refine we_dct0 ?_ | refine wp_nil ?_ | refine wp_cons ?_ | refine wt_and ?_ | refine wt_or ?_ | refine wt_not ?_ | refine wt_cmp ?_ | refine wt_chain ?_ | refine wt_val rfl ?_ | refine ww_rng1 ?_ | refine ww_rng2 ?_ | refine ww_itv ?_ | refine lct_nil ?_ | refine lct_one ?_ | refine ro_mul ?_ ?_ | refine ro_mod ?_ (by first | assumption | decide) | refine RO.mk rfl ?_ | refine ⟨_, rfl, ?_⟩ | refine ⟨rfl, ?_⟩)
  have loop : ∀ (l f s : Nat), f < p → s < p → f * s ^ l % p = b ^ e % p → ∀ K : Kt, (∀ s' : Nat, K.nx [some (DI p), some (DI b), some (.int 0), some (DI (b ^ e % p)), some (DI s')] MH.nil) →
      WS1 P k (b__law_power.getD 1 .pass) [some (DI p), some (DI b), some (DI l), some (DI f), some (DI s)] MH.nil K := by
    intro l
    induction l using Nat.strongRecOn with
    | _ l ih =>
    intro f s hf hs he K hK
    refine w1_while ?_
    repeat (first | refine ws_go ?_ | refine ws_nil ?_ | refine ws_cons ?_ | refine w1_expr ?_ | refine w1_var ?_ | refine w1_tup ?_ | refine w1_ix ?_ | refine w1_par ?_ | refine w1_aug rfl ?_ | refine w1_if ?_ | refine w1_for ?_ | refine w1_ret ?_ | refine w1_retN ?_ | refine w1_pass ?_ | refine w1_doc ?_ | refine w1_brk ?_ | refine w1_cont ?_ | refine we_var rfl ?_ | refine we_int ?_ | refine we_glo rfl ?_ | refine we_bin ?_ | refine we_cmp ?_ | refine we_call ?_ | refine we_ix ?_ | refine we_bi ?_ | refine we_tup ?_ | refine we_lst ?_ | refine we_str ?_ | refine we_bl ?_ | refine we_non ?_ | refine we_neg ?_ | refine we_not ?_ | refine we_and ?_ | refine we_or ?_ | refine we_chain ?_ | refine we_ife ?_ | refine we_sl ?_ | refine we_slr ?_ | refine we_isi ?_ | refine we_me ?_ | refine we_lc ?_ | refine wl_nil ?_ | refine wl_cons ?_ | refine wd_nil ?_ | refine wd_cons ?_ | refine wd_star ?_ | refine wo_none ?_ | refine wo_some ?_ | refine wa_one ?_ | refine wa_cons ?_ | refine wb_one ?_ | refine wb_cons ?_ | refine we_dct ?_ | refine we_dct0 ?_ | refine wp_nil ?_ | refine wp_cons ?_ | refine wt_and ?_ | refine wt_or ?_ | refine wt_not ?_ | refine wt_cmp ?_ | refine wt_chain ?_ | refine wt_val rfl ?_ | refine ww_rng1 ?_ | refine ww_rng2 ?_ | refine ww_itv ?_ | refine lct_nil ?_ | refine lct_one ?_ | refine ro_mul ?_ ?_ | refine ro_mod ?_ (by first | assumption | decide) | refine RO.mk rfl ?_ | refine ⟨_, rfl, ?_⟩ | refine ⟨rfl, ?_⟩)
    by_cases h0 : l = 0
    · subst h0
      refine if_f (by simp) ?_
      have : f = b ^ e % p := by rw [← he, Nat.pow_zero, Nat.mul_one, Nat.mod_eq_of_lt hf]
      subst this
      exact hK s
    · refine if_t (by omega) ?_
      repeat (first | refine ws_go ?_ | refine ws_nil ?_ | refine ws_cons ?_ | refine w1_expr ?_ | refine w1_var ?_ | refine w1_tup ?_ | refine w1_ix ?_ | refine w1_par ?_ | refine w1_aug rfl ?_ | refine w1_if ?_ | refine w1_for ?_ | refine w1_ret ?_ | refine w1_retN ?_ | refine w1_pass ?_ | refine w1_doc ?_ | refine w1_brk ?_ | refine w1_cont ?_ | refine we_var rfl ?_ | refine we_int ?_ | refine we_glo rfl ?_ | refine we_bin ?_ | refine we_cmp ?_ | refine we_call ?_ | refine we_ix ?_ | refine we_bi ?_ | refine we_tup ?_ | refine we_lst ?_ | refine we_str ?_ | refine we_bl ?_ | refine we_non ?_ | refine we_neg ?_ | refine we_not ?_ | refine we_and ?_ | refine we_or ?_ | refine we_chain ?_ | refine we_ife ?_ | refine we_sl ?_ | refine we_slr ?_ | refine we_isi ?_ | refine we_me ?_ | refine we_lc ?_ | refine wl_nil ?_ | refine wl_cons ?_ | refine wd_nil ?_ | refine wd_cons ?_ | refine wd_star ?_ | refine wo_none ?_ | refine wo_some ?_ | refine wa_one ?_ | refine wa_cons ?_ | refine wb_one ?_ | refine wb_cons ?_ | refine we_dct ?_ | refine we_dct0 ?_ | refine wp_nil ?_ | refine wp_cons ?_ | refine wt_and ?_ | refine wt_or ?_ | refine wt_not ?_ | refine wt_cmp ?_ | refine wt_chain ?_ | refine wt_val rfl ?_ | refine ww_rng1 ?_ | refine ww_rng2 ?_ | refine ww_itv ?_ | refine lct_nil ?_ | refine lct_one ?_ | refine ro_mul ?_ ?_ | refine ro_mod ?_ (by first | assumption | decide) | refine RO.mk rfl ?_ | refine ⟨_, rfl, ?_⟩ | refine ⟨rfl, ?_⟩)
      have hl : ((l : Int) / 2) = ((l / 2 : Nat) : Int) := by omega
      by_cases h1 : l % 2 = 1
      · refine if_t (by omega) ?_
        repeat (first | refine ws_go ?_ | refine ws_nil ?_ | refine ws_cons ?_ | refine w1_expr ?_ | refine w1_var ?_ | refine w1_tup ?_ | refine w1_ix ?_ | refine w1_par ?_ | refine w1_aug rfl ?_ | refine w1_if ?_ | refine w1_for ?_ | refine w1_ret ?_ | refine w1_retN ?_ | refine w1_pass ?_ | refine w1_doc ?_ | refine w1_brk ?_ | refine w1_cont ?_ | refine we_var rfl ?_ | refine we_int ?_ | refine we_glo rfl ?_ | refine we_bin ?_ | refine we_cmp ?_ | refine we_call ?_ | refine we_ix ?_ | refine we_bi ?_ | refine we_tup ?_ | refine we_lst ?_ | refine we_str ?_ | refine we_bl ?_ | refine we_non ?_ | refine we_neg ?_ | refine we_not ?_ | refine we_and ?_ | refine we_or ?_ | refine we_chain ?_ | refine we_ife ?_ | refine we_sl ?_ | refine we_slr ?_ | refine we_isi ?_ | refine we_me ?_ | refine we_lc ?_ | refine wl_nil ?_ | refine wl_cons ?_ | refine wd_nil ?_ | refine wd_cons ?_ | refine wd_star ?_ | refine wo_none ?_ | refine wo_some ?_ | refine wa_one ?_ | refine wa_cons ?_ | refine wb_one ?_ | refine wb_cons ?_ | refine we_dct ?_ | refine we_dct0 ?_ | refine wp_nil ?_ | refine wp_cons ?_ | refine wt_and ?_ | refine wt_or ?_ | refine wt_not ?_ | refine wt_cmp ?_ | refine wt_chain ?_ | refine wt_val rfl ?_ | refine ww_rng1 ?_ | refine ww_rng2 ?_ | refine ww_itv ?_ | refine lct_nil ?_ | refine lct_one ?_ | refine ro_mul ?_ ?_ | refine ro_mod ?_ (by first | assumption | decide) | refine RO.mk rfl ?_ | refine ⟨_, rfl, ?_⟩ | refine ⟨rfl, ?_⟩)
        · rw [cast_mul_mod, cast_mul_mod, hl]
          exact ih (l / 2) (by omega) (f * s % p) (s * s % p) (ml _) (ml _) (pow_step1 h1 he) _ fun s' => ws_nil (hK s')
        · exact mul_ok (small hp hs) (small hp hs)
        · exact mul_ok (small hp hf) (small hp hs)
      · refine if_f (by omega) ?_
        repeat (first | refine ws_go ?_ | refine ws_nil ?_ | refine ws_cons ?_ | refine w1_expr ?_ | refine w1_var ?_ | refine w1_tup ?_ | refine w1_ix ?_ | refine w1_par ?_ | refine w1_aug rfl ?_ | refine w1_if ?_ | refine w1_for ?_ | refine w1_ret ?_ | refine w1_retN ?_ | refine w1_pass ?_ | refine w1_doc ?_ | refine w1_brk ?_ | refine w1_cont ?_ | refine we_var rfl ?_ | refine we_int ?_ | refine we_glo rfl ?_ | refine we_bin ?_ | refine we_cmp ?_ | refine we_call ?_ | refine we_ix ?_ | refine we_bi ?_ | refine we_tup ?_ | refine we_lst ?_ | refine we_str ?_ | refine we_bl ?_ | refine we_non ?_ | refine we_neg ?_ | refine we_not ?_ | refine we_and ?_ | refine we_or ?_ | refine we_chain ?_ | refine we_ife ?_ | refine we_sl ?_ | refine we_slr ?_ | refine we_isi ?_ | refine we_me ?_ | refine we_lc ?_ | refine wl_nil ?_ | refine wl_cons ?_ | refine wd_nil ?_ | refine wd_cons ?_ | refine wd_star ?_ | refine wo_none ?_ | refine wo_some ?_ | refine wa_one ?_ | refine wa_cons ?_ | refine wb_one ?_ | refine wb_cons ?_ | refine we_dct ?_ | refine we_dct0 ?_ | refine wp_nil ?_ | refine wp_cons ?_ | refine wt_and ?_ | refine wt_or ?_ | refine wt_not ?_ | refine wt_cmp ?_ | refine wt_chain ?_ | refine wt_val rfl ?_ | refine ww_rng1 ?_ | refine ww_rng2 ?_ | refine ww_itv ?_ | refine lct_nil ?_ | refine lct_one ?_ | refine ro_mul ?_ ?_ | refine ro_mod ?_ (by first | assumption | decide) | refine RO.mk rfl ?_ | refine ⟨_, rfl, ?_⟩ | refine ⟨rfl, ?_⟩)
        · rw [cast_mul_mod, hl]
          exact ih (l / 2) (by omega) f (s * s % p) hf (ml _) (pow_step0 h1 he) _ fun s' => ws_nil (hK s')
        · exact mul_ok (small hp hs) (small hp hs)
  have e0 : (b : Int) % (p : Int) = ((b % p : Nat) : Int) := by rw [Int.natCast_emod]
  rw [e0]
  refine loop e 1 (b % p) hp1 (ml _) (by rw [Nat.one_mul, ← Nat.pow_mod]) _ fun s' => ?_
  repeat (first | refine ws_go ?_ | refine ws_nil ?_ | refine ws_cons ?_ | refine w1_expr ?_ | refine w1_var ?_ | refine w1_tup ?_ | refine w1_ix ?_ | refine w1_par ?_ | refine w1_aug rfl ?_ | refine w1_if ?_ | refine w1_for ?_ | refine w1_ret ?_ | refine w1_retN ?_ | refine w1_pass ?_ | refine w1_doc ?_ | refine w1_brk ?_ | refine w1_cont ?_ | refine we_var rfl ?_ | refine we_int ?_ | refine we_glo rfl ?_ | refine we_bin ?_ | refine we_cmp ?_ | refine we_call ?_ | refine we_ix ?_ | refine we_bi ?_ | refine we_tup ?_ | refine we_lst ?_ | refine we_str ?_ | refine we_bl ?_ | refine we_non ?_ | refine we_neg ?_ | refine we_not ?_ | refine we_and ?_ | refine we_or ?_ | refine we_chain ?_ | refine we_ife ?_ | refine we_sl ?_ | refine we_slr ?_ | refine we_isi ?_ | refine we_me ?_ | refine we_lc ?_ | refine wl_nil ?_ | refine wl_cons ?_ | refine wd_nil ?_ | refine wd_cons ?_ | refine wd_star ?_ | refine wo_none ?_ | refine wo_some ?_ | refine wa_one ?_ | refine wa_cons ?_ | refine wb_one ?_ | refine wb_cons ?_ | refine we_dct ?_ | refine we_dct0 ?_ | refine wp_nil ?_ | refine wp_cons ?_ | refine wt_and ?_ | refine wt_or ?_ | refine wt_not ?_ | refine wt_cmp ?_ | refine wt_chain ?_ | refine wt_val rfl ?_ | refine ww_rng1 ?_ | refine ww_rng2 ?_ | refine ww_itv ?_ | refine lct_nil ?_ | refine lct_one ?_ | refine ro_mul ?_ ?_ | refine ro_mod ?_ (by first | assumption | decide) | refine RO.mk rfl ?_ | refine ⟨_, rfl, ?_⟩ | refine ⟨rfl, ?_⟩)
  exact q
theorem w_lback {p b : Nat} (hp1 : 1 < p) (hp : p < 2 ^ 20) (q : Q (DI (b ^ (p - 2) % p)) h) : WC P (k + 2) 28 [DI p, DI b] h Q := by
  refine wc_pur rfl rfl rfl rfl ?_
  repeat (first | refine ws_go ?_ | refine ws_nil ?_ | refine ws_cons ?_ | refine w1_expr ?_ | refine w1_var ?_ | refine w1_tup ?_ | refine w1_ix ?_ | refine w1_par ?_ | refine w1_aug rfl ?_ | refine w1_if ?_ | refine w1_for ?_ | refine w1_ret ?_ | refine w1_retN ?_ | refine w1_pass ?_ | refine w1_doc ?_ | refine w1_brk ?_ | refine w1_cont ?_ | refine we_var rfl ?_ | refine we_int ?_ | refine we_glo rfl ?_ | refine we_bin ?_ | refine we_cmp ?_ | refine we_call ?_ | refine we_ix ?_ | refine we_bi ?_ | refine we_tup ?_ | refine we_lst ?_ | refine we_str ?_ | refine we_bl ?_ | refine we_non ?_ | refine we_neg ?_ | refine we_not ?_ | refine we_and ?_ | refine we_or ?_ | refine we_chain ?_ | refine we_ife ?_ | refine we_sl ?_ | refine we_slr ?_ | refine we_isi ?_ | refine we_me ?_ | refine we_lc ?_ | refine wl_nil ?_ | refine wl_cons ?_ | refine wd_nil ?_ | refine wd_cons ?_ | refine wd_star ?_ | refine wo_none ?_ | refine wo_some ?_ | refine wa_one ?_ | refine wa_cons ?_ | refine wb_one ?_ | refine wb_cons ?_ | refine we_dct ?_ | refine we_dct0 ?_ | refine wp_nil ?_ | refine wp_cons ?_ | refine wt_and ?_ | refine wt_or ?_ | refine wt_not ?_ | refine wt_cmp ?_ | refine wt_chain ?_ | refine wt_val rfl ?_ | refine ww_rng1 ?_ | refine ww_rng2 ?_ | refine ww_itv ?_ | refine lct_nil ?_ | refine lct_one ?_ | refine ro_mul ?_ ?_ | refine ro_mod ?_ (by first | assumption | decide) | refine RO.mk rfl ?_ | refine ⟨_, rfl, ?_⟩ | refine ⟨rfl, ?_⟩)
  have e : (p : Int) - 2 = ((p - 2 : Nat) : Int) := by omega
  rw [e]
  refine w_lpower hp1 hp ?_
  repeat (first | refine ws_go ?_ | refine ws_nil ?_ | refine ws_cons ?_ | refine w1_expr ?_ | refine w1_var ?_ | refine w1_tup ?_ | refine w1_ix ?_ | refine w1_par ?_ | refine w1_aug rfl ?_ | refine w1_if ?_ | refine w1_for ?_ | refine w1_ret ?_ | refine w1_retN ?_ | refine w1_pass ?_ | refine w1_doc ?_ | refine w1_brk ?_ | refine w1_cont ?_ | refine we_var rfl ?_ | refine we_int ?_ | refine we_glo rfl ?_ | refine we_bin ?_ | refine we_cmp ?_ | refine we_call ?_ | refine we_ix ?_ | refine we_bi ?_ | refine we_tup ?_ | refine we_lst ?_ | refine we_str ?_ | refine we_bl ?_ | refine we_non ?_ | refine we_neg ?_ | refine we_not ?_ | refine we_and ?_ | refine we_or ?_ | refine we_chain ?_ | refine we_ife ?_ | refine we_sl ?_ | refine we_slr ?_ | refine we_isi ?_ | refine we_me ?_ | refine we_lc ?_ | refine wl_nil ?_ | refine wl_cons ?_ | refine wd_nil ?_ | refine wd_cons ?_ | refine wd_star ?_ | refine wo_none ?_ | refine wo_some ?_ | refine wa_one ?_ | refine wa_cons ?_ | refine wb_one ?_ | refine wb_cons ?_ | refine we_dct ?_ | refine we_dct0 ?_ | refine wp_nil ?_ | refine wp_cons ?_ | refine wt_and ?_ | refine wt_or ?_ | refine wt_not ?_ | refine wt_cmp ?_ | refine wt_chain ?_ | refine wt_val rfl ?_ | refine ww_rng1 ?_ | refine ww_rng2 ?_ | refine ww_itv ?_ | refine lct_nil ?_ | refine lct_one ?_ | refine ro_mul ?_ ?_ | refine ro_mod ?_ (by first | assumption | decide) | refine RO.mk rfl ?_ | refine ⟨_, rfl, ?_⟩ | refine ⟨rfl, ?_⟩)
  exact q
theorem w_lcommon {a b : Nat} (q : Q (DI (Nat.gcd a b)) h) : WC P (k + 1) 30 [DI a, DI b] h Q := by
  refine wc_pur rfl rfl rfl rfl ?_
  repeat (first | refine ws_go ?_ | refine ws_nil ?_ | refine ws_cons ?_ | refine w1_expr ?_ | refine w1_var ?_ | refine w1_tup ?_ | refine w1_ix ?_ | refine w1_par ?_ | refine w1_aug rfl ?_ | refine w1_if ?_ | refine w1_for ?_ | refine w1_ret ?_ | refine w1_retN ?_ | refine w1_pass ?_ | refine w1_doc ?_ | refine w1_brk ?_ | refine w1_cont ?_ | refine we_var rfl ?_ | refine we_int ?_ | refine we_glo rfl ?_ | refine we_bin ?_ | refine we_cmp ?_ | refine we_call ?_ | refine we_ix ?_ | refine we_bi ?_ | refine we_tup ?_ | refine we_lst ?_ | refine we_str ?_ | refine we_bl ?_ | refine we_non ?_ | refine we_neg ?_ | refine we_not ?_ | refine we_and ?_ | refine we_or ?_ | refine we_chain ?_ | refine we_ife ?_ | refine we_sl ?_ | refine we_slr ?_ | refine we_isi ?_ | refine we_me ?_ | refine we_lc ?_ | refine wl_nil ?_ | refine wl_cons ?_ | refine wd_nil ?_ | refine wd_cons ?_ | refine wd_star ?_ | refine wo_none ?_ | refine wo_some ?_ | refine wa_one ?_ | refine wa_cons ?_ | refine wb_one ?_ | refine wb_cons ?_ | refine we_dct ?_ | refine we_dct0 ?_ | refine wp_nil ?_ | refine wp_cons ?_ | refine wt_and ?_ | refine wt_or ?_ | refine wt_not ?_ | refine wt_cmp ?_ | refine wt_chain ?_ | refine wt_val rfl ?_ | refine ww_rng1 ?_ | refine ww_rng2 ?_ | refine ww_itv ?_ | refine lct_nil ?_ | refine lct_one ?_ | refine ro_mul ?_ ?_ | refine ro_mod ?_ (by first | assumption | decide) | refine RO.mk rfl ?_ | refine ⟨_, rfl, ?_⟩ | refine ⟨rfl, ?_⟩)
  have loop : ∀ (y x : Nat), Nat.gcd x y = Nat.gcd a b → ∀ K : Kt, K.nx [some (DI (Nat.gcd a b)), some (.int 0)] MH.nil →
      WS1 P k (b__law_common.getD 0 .pass) [some (DI x), some (DI y)] MH.nil K := by
    intro y
    induction y using Nat.strongRecOn with
    | _ y ih =>
    intro x he K hK
    refine w1_while ?_
    repeat (first | refine ws_go ?_ | refine ws_nil ?_ | refine ws_cons ?_ | refine w1_expr ?_ | refine w1_var ?_ | refine w1_tup ?_ | refine w1_ix ?_ | refine w1_par ?_ | refine w1_aug rfl ?_ | refine w1_if ?_ | refine w1_for ?_ | refine w1_ret ?_ | refine w1_retN ?_ | refine w1_pass ?_ | refine w1_doc ?_ | refine w1_brk ?_ | refine w1_cont ?_ | refine we_var rfl ?_ | refine we_int ?_ | refine we_glo rfl ?_ | refine we_bin ?_ | refine we_cmp ?_ | refine we_call ?_ | refine we_ix ?_ | refine we_bi ?_ | refine we_tup ?_ | refine we_lst ?_ | refine we_str ?_ | refine we_bl ?_ | refine we_non ?_ | refine we_neg ?_ | refine we_not ?_ | refine we_and ?_ | refine we_or ?_ | refine we_chain ?_ | refine we_ife ?_ | refine we_sl ?_ | refine we_slr ?_ | refine we_isi ?_ | refine we_me ?_ | refine we_lc ?_ | refine wl_nil ?_ | refine wl_cons ?_ | refine wd_nil ?_ | refine wd_cons ?_ | refine wd_star ?_ | refine wo_none ?_ | refine wo_some ?_ | refine wa_one ?_ | refine wa_cons ?_ | refine wb_one ?_ | refine wb_cons ?_ | refine we_dct ?_ | refine we_dct0 ?_ | refine wp_nil ?_ | refine wp_cons ?_ | refine wt_and ?_ | refine wt_or ?_ | refine wt_not ?_ | refine wt_cmp ?_ | refine wt_chain ?_ | refine wt_val rfl ?_ | refine ww_rng1 ?_ | refine ww_rng2 ?_ | refine ww_itv ?_ | refine lct_nil ?_ | refine lct_one ?_ | refine ro_mul ?_ ?_ | refine ro_mod ?_ (by first | assumption | decide) | refine RO.mk rfl ?_ | refine ⟨_, rfl, ?_⟩ | refine ⟨rfl, ?_⟩)
    by_cases h0 : y = 0
    · subst h0
      rw [Nat.gcd_zero_right] at he
      subst he
      refine if_f (by simp) ?_
      exact hK
    · refine if_t (by omega) ?_
      have hp0 : (0 : Int) < (y : Int) := by omega
      repeat (first | refine ws_go ?_ | refine ws_nil ?_ | refine ws_cons ?_ | refine w1_expr ?_ | refine w1_var ?_ | refine w1_tup ?_ | refine w1_ix ?_ | refine w1_par ?_ | refine w1_aug rfl ?_ | refine w1_if ?_ | refine w1_for ?_ | refine w1_ret ?_ | refine w1_retN ?_ | refine w1_pass ?_ | refine w1_doc ?_ | refine w1_brk ?_ | refine w1_cont ?_ | refine we_var rfl ?_ | refine we_int ?_ | refine we_glo rfl ?_ | refine we_bin ?_ | refine we_cmp ?_ | refine we_call ?_ | refine we_ix ?_ | refine we_bi ?_ | refine we_tup ?_ | refine we_lst ?_ | refine we_str ?_ | refine we_bl ?_ | refine we_non ?_ | refine we_neg ?_ | refine we_not ?_ | refine we_and ?_ | refine we_or ?_ | refine we_chain ?_ | refine we_ife ?_ | refine we_sl ?_ | refine we_slr ?_ | refine we_isi ?_ | refine we_me ?_ | refine we_lc ?_ | refine wl_nil ?_ | refine wl_cons ?_ | refine wd_nil ?_ | refine wd_cons ?_ | refine wd_star ?_ | refine wo_none ?_ | refine wo_some ?_ | refine wa_one ?_ | refine wa_cons ?_ | refine wb_one ?_ | refine wb_cons ?_ | refine we_dct ?_ | refine we_dct0 ?_ | refine wp_nil ?_ | refine wp_cons ?_ | refine wt_and ?_ | refine wt_or ?_ | refine wt_not ?_ | refine wt_cmp ?_ | refine wt_chain ?_ | refine wt_val rfl ?_ | refine ww_rng1 ?_ | refine ww_rng2 ?_ | refine ww_itv ?_ | refine lct_nil ?_ | refine lct_one ?_ | refine ro_mul ?_ ?_ | refine ro_mod ?_ (by first | assumption | decide) | refine RO.mk rfl ?_ | refine ⟨_, rfl, ?_⟩ | refine ⟨rfl, ?_⟩)
      have e : (x : Int) % (y : Int) = ((x % y : Nat) : Int) := by rw [Int.natCast_emod]
      rw [e]
      refine ih (x % y) (Nat.mod_lt _ (by omega)) y ?_ _ (ws_nil hK)
      rw [← he, Nat.gcd_comm x y, Nat.gcd_rec y x, Nat.gcd_comm]
  refine loop b a rfl _ ?_
  repeat (first | refine ws_go ?_ | refine ws_nil ?_ | refine ws_cons ?_ | refine w1_expr ?_ | refine w1_var ?_ | refine w1_tup ?_ | refine w1_ix ?_ | refine w1_par ?_ | refine w1_aug rfl ?_ | refine w1_if ?_ | refine w1_for ?_ | refine w1_ret ?_ | refine w1_retN ?_ | refine w1_pass ?_ | refine w1_doc ?_ | refine w1_brk ?_ | refine w1_cont ?_ | refine we_var rfl ?_ | refine we_int ?_ | refine we_glo rfl ?_ | refine we_bin ?_ | refine we_cmp ?_ | refine we_call ?_ | refine we_ix ?_ | refine we_bi ?_ | refine we_tup ?_ | refine we_lst ?_ | refine we_str ?_ | refine we_bl ?_ | refine we_non ?_ | refine we_neg ?_ | refine we_not ?_ | refine we_and ?_ | refine we_or ?_ | refine we_chain ?_ | refine we_ife ?_ | refine we_sl ?_ | refine we_slr ?_ | refine we_isi ?_ | refine we_me ?_ | refine we_lc ?_ | refine wl_nil ?_ | refine wl_cons ?_ | refine wd_nil ?_ | refine wd_cons ?_ | refine wd_star ?_ | refine wo_none ?_ | refine wo_some ?_ | refine wa_one ?_ | refine wa_cons ?_ | refine wb_one ?_ | refine wb_cons ?_ | refine we_dct ?_ | refine we_dct0 ?_ | refine wp_nil ?_ | refine wp_cons ?_ | refine wt_and ?_ | refine wt_or ?_ | refine wt_not ?_ | refine wt_cmp ?_ | refine wt_chain ?_ | refine wt_val rfl ?_ | refine ww_rng1 ?_ | refine ww_rng2 ?_ | refine ww_itv ?_ | refine lct_nil ?_ | refine lct_one ?_ | refine ro_mul ?_ ?_ | refine ro_mod ?_ (by first | assumption | decide) | refine RO.mk rfl ?_ | refine ⟨_, rfl, ?_⟩ | refine ⟨rfl, ?_⟩)
  exact q
end
end Hd
namespace Hd
open PySem MP NT
section
variable {k : Nat} {h : MH} {Q : MP.D → MH → Prop} {p g : Nat} {qs : List Nat}
theorem w_primes (q : Q (.ref h.n) (h.new (.lst [DI 97, DI 193, DI 257, DI 769, DI 7681, DI 12289]))) : WC P (k + 1) 25 [] h Q := by
  refine wc_imp rfl rfl rfl ?_
  repeat (first | refine ws_go ?_ | refine ws_nil ?_ | refine ws_cons ?_ | refine w1_expr ?_ | refine w1_var ?_ | refine w1_tup ?_ | refine w1_ix ?_ | refine w1_par ?_ | refine w1_aug rfl ?_ | refine w1_if ?_ | refine w1_for ?_ | refine w1_ret ?_ | refine w1_retN ?_ | refine w1_pass ?_ | refine w1_doc ?_ | refine w1_brk ?_ | refine w1_cont ?_ | refine we_var rfl ?_ | refine we_int ?_ | refine we_glo rfl ?_ | refine we_bin ?_ | refine we_cmp ?_ | refine we_call ?_ | refine we_ix ?_ | refine we_bi ?_ | refine we_tup ?_ | refine we_lst ?_ | refine we_str ?_ | refine we_bl ?_ | refine we_non ?_ | refine we_neg ?_ | refine we_not ?_ | refine we_and ?_ | refine we_or ?_ | refine we_chain ?_ | refine we_ife ?_ | refine we_sl ?_ | refine we_slr ?_ | refine we_isi ?_ | refine we_me ?_ | refine we_lc ?_ | refine wl_nil ?_ | refine wl_cons ?_ | refine wd_nil ?_ | refine wd_cons ?_ | refine wd_star ?_ | refine wo_none ?_ | refine wo_some ?_ | refine wa_one ?_ | refine wa_cons ?_ | refine wb_one ?_ | refine wb_cons ?_ | refine we_dct ?_ | refine we_dct0 ?_ | refine wp_nil ?_ | refine wp_cons ?_ | refine wt_and ?_ | refine wt_or ?_ | refine wt_not ?_ | refine wt_cmp ?_ | refine wt_chain ?_ | refine wt_val rfl ?_ | refine ww_rng1 ?_ | refine ww_rng2 ?_ | refine ww_itv ?_ | refine lct_nil ?_ | refine lct_one ?_ | refine ro_mul ?_ ?_ | refine ro_mod ?_ (by first | assumption | decide) | refine RO.mk rfl ?_ | refine ⟨_, rfl, ?_⟩ | refine ⟨rfl, ?_⟩)
  exact q
theorem w_lorder {i : Nat} (hg : Prm p g) (R : Root p g (p - 1) qs) (hi : i < p - 1) (q : Q (DI ((p - 1) / Nat.gcd (p - 1) i)) h) : WC P (k + 1) 29 [DI p, DI (g ^ i % p)] h Q := by
  have hl := prm_lt hg
  have hp0 : (0 : Int) < (p : Int) := by omega
  refine wc_pur rfl rfl rfl rfl ?_
  repeat (first | refine ws_go ?_ | refine ws_nil ?_ | refine ws_cons ?_ | refine w1_expr ?_ | refine w1_var ?_ | refine w1_tup ?_ | refine w1_ix ?_ | refine w1_par ?_ | refine w1_aug rfl ?_ | refine w1_if ?_ | refine w1_for ?_ | refine w1_ret ?_ | refine w1_retN ?_ | refine w1_pass ?_ | refine w1_doc ?_ | refine w1_brk ?_ | refine w1_cont ?_ | refine we_var rfl ?_ | refine we_int ?_ | refine we_glo rfl ?_ | refine we_bin ?_ | refine we_cmp ?_ | refine we_call ?_ | refine we_ix ?_ | refine we_bi ?_ | refine we_tup ?_ | refine we_lst ?_ | refine we_str ?_ | refine we_bl ?_ | refine we_non ?_ | refine we_neg ?_ | refine we_not ?_ | refine we_and ?_ | refine we_or ?_ | refine we_chain ?_ | refine we_ife ?_ | refine we_sl ?_ | refine we_slr ?_ | refine we_isi ?_ | refine we_me ?_ | refine we_lc ?_ | refine wl_nil ?_ | refine wl_cons ?_ | refine wd_nil ?_ | refine wd_cons ?_ | refine wd_star ?_ | refine wo_none ?_ | refine wo_some ?_ | refine wa_one ?_ | refine wa_cons ?_ | refine wb_one ?_ | refine wb_cons ?_ | refine we_dct ?_ | refine we_dct0 ?_ | refine wp_nil ?_ | refine wp_cons ?_ | refine wt_and ?_ | refine wt_or ?_ | refine wt_not ?_ | refine wt_cmp ?_ | refine wt_chain ?_ | refine wt_val rfl ?_ | refine ww_rng1 ?_ | refine ww_rng2 ?_ | refine ww_itv ?_ | refine lct_nil ?_ | refine lct_one ?_ | refine ro_mul ?_ ?_ | refine ro_mod ?_ (by first | assumption | decide) | refine RO.mk rfl ?_ | refine ⟨_, rfl, ?_⟩ | refine ⟨rfl, ?_⟩)
  have h0 : 0 < Nat.gcd (p - 1) i := Nat.gcd_pos_of_pos_left i (by omega)
  have h1 : Nat.gcd (p - 1) i ≤ p - 1 := Nat.gcd_le_left i (by omega)
  have hm0 : 0 < (p - 1) / Nat.gcd (p - 1) i := Nat.div_pos h1 h0
  have key : ∀ m : Nat, g ^ (i * m) % p = 1 ↔ (p - 1) / Nat.gcd (p - 1) i ∣ m := fun m =>
    ⟨fun e => (ord_iff (by omega)).mp (R.dvd e), fun e => R.of_dvd ((ord_iff (by omega)).mpr e)⟩
  have loop : ∀ (d m : Nat), 0 < m → m + d = (p - 1) / Nat.gcd (p - 1) i → ∀ K : Kt, (∀ x, K.nx [some (DI p), some (DI (g ^ i % p)), some (DI ((p - 1) / Nat.gcd (p - 1) i)), x] MH.nil) →
      WS1 P k (b__law_order.getD 1 .pass) [some (DI p), some (DI (g ^ i % p)), some (DI m), some (DI (g ^ (i * m) % p))] MH.nil K := by
    intro d
    induction d with
    | zero =>
      intro m hm he K hK
      have e1 : g ^ (i * m) % p = 1 := (key m).mpr (by rw [← he, Nat.add_zero]; exact Nat.dvd_refl _)
      refine w1_while ?_
      repeat (first | refine ws_go ?_ | refine ws_nil ?_ | refine ws_cons ?_ | refine w1_expr ?_ | refine w1_var ?_ | refine w1_tup ?_ | refine w1_ix ?_ | refine w1_par ?_ | refine w1_aug rfl ?_ | refine w1_if ?_ | refine w1_for ?_ | refine w1_ret ?_ | refine w1_retN ?_ | refine w1_pass ?_ | refine w1_doc ?_ | refine w1_brk ?_ | refine w1_cont ?_ | refine we_var rfl ?_ | refine we_int ?_ | refine we_glo rfl ?_ | refine we_bin ?_ | refine we_cmp ?_ | refine we_call ?_ | refine we_ix ?_ | refine we_bi ?_ | refine we_tup ?_ | refine we_lst ?_ | refine we_str ?_ | refine we_bl ?_ | refine we_non ?_ | refine we_neg ?_ | refine we_not ?_ | refine we_and ?_ | refine we_or ?_ | refine we_chain ?_ | refine we_ife ?_ | refine we_sl ?_ | refine we_slr ?_ | refine we_isi ?_ | refine we_me ?_ | refine we_lc ?_ | refine wl_nil ?_ | refine wl_cons ?_ | refine wd_nil ?_ | refine wd_cons ?_ | refine wd_star ?_ | refine wo_none ?_ | refine wo_some ?_ | refine wa_one ?_ | refine wa_cons ?_ | refine wb_one ?_ | refine wb_cons ?_ | refine we_dct ?_ | refine we_dct0 ?_ | refine wp_nil ?_ | refine wp_cons ?_ | refine wt_and ?_ | refine wt_or ?_ | refine wt_not ?_ | refine wt_cmp ?_ | refine wt_chain ?_ | refine wt_val rfl ?_ | refine ww_rng1 ?_ | refine ww_rng2 ?_ | refine ww_itv ?_ | refine lct_nil ?_ | refine lct_one ?_ | refine ro_mul ?_ ?_ | refine ro_mod ?_ (by first | assumption | decide) | refine RO.mk rfl ?_ | refine ⟨_, rfl, ?_⟩ | refine ⟨rfl, ?_⟩)
      rw [if_neg (by rw [e1]; decide)]
      have : m = (p - 1) / Nat.gcd (p - 1) i := by omega
      rw [← this] at hK
      exact hK _
    | succ d ih =>
      intro m hm he K hK
      have e1 : g ^ (i * m) % p ≠ 1 := fun z => by
        have := Nat.le_of_dvd hm ((key m).mp z)
        omega
      refine w1_while ?_
      repeat (first | refine ws_go ?_ | refine ws_nil ?_ | refine ws_cons ?_ | refine w1_expr ?_ | refine w1_var ?_ | refine w1_tup ?_ | refine w1_ix ?_ | refine w1_par ?_ | refine w1_aug rfl ?_ | refine w1_if ?_ | refine w1_for ?_ | refine w1_ret ?_ | refine w1_retN ?_ | refine w1_pass ?_ | refine w1_doc ?_ | refine w1_brk ?_ | refine w1_cont ?_ | refine we_var rfl ?_ | refine we_int ?_ | refine we_glo rfl ?_ | refine we_bin ?_ | refine we_cmp ?_ | refine we_call ?_ | refine we_ix ?_ | refine we_bi ?_ | refine we_tup ?_ | refine we_lst ?_ | refine we_str ?_ | refine we_bl ?_ | refine we_non ?_ | refine we_neg ?_ | refine we_not ?_ | refine we_and ?_ | refine we_or ?_ | refine we_chain ?_ | refine we_ife ?_ | refine we_sl ?_ | refine we_slr ?_ | refine we_isi ?_ | refine we_me ?_ | refine we_lc ?_ | refine wl_nil ?_ | refine wl_cons ?_ | refine wd_nil ?_ | refine wd_cons ?_ | refine wd_star ?_ | refine wo_none ?_ | refine wo_some ?_ | refine wa_one ?_ | refine wa_cons ?_ | refine wb_one ?_ | refine wb_cons ?_ | refine we_dct ?_ | refine we_dct0 ?_ | refine wp_nil ?_ | refine wp_cons ?_ | refine wt_and ?_ | refine wt_or ?_ | refine wt_not ?_ | refine wt_cmp ?_ | refine wt_chain ?_ | refine wt_val rfl ?_ | refine ww_rng1 ?_ | refine ww_rng2 ?_ | refine ww_itv ?_ | refine lct_nil ?_ | refine lct_one ?_ | refine ro_mul ?_ ?_ | refine ro_mod ?_ (by first | assumption | decide) | refine RO.mk rfl ?_ | refine ⟨_, rfl, ?_⟩ | refine ⟨rfl, ?_⟩)
      rw [if_pos (by simp only [Bool.not_eq_true', decide_eq_false_iff_not]; omega)]
      repeat (first | refine ws_go ?_ | refine ws_nil ?_ | refine ws_cons ?_ | refine w1_expr ?_ | refine w1_var ?_ | refine w1_tup ?_ | refine w1_ix ?_ | refine w1_par ?_ | refine w1_aug rfl ?_ | refine w1_if ?_ | refine w1_for ?_ | refine w1_ret ?_ | refine w1_retN ?_ | refine w1_pass ?_ | refine w1_doc ?_ | refine w1_brk ?_ | refine w1_cont ?_ | refine we_var rfl ?_ | refine we_int ?_ | refine we_glo rfl ?_ | refine we_bin ?_ | refine we_cmp ?_ | refine we_call ?_ | refine we_ix ?_ | refine we_bi ?_ | refine we_tup ?_ | refine we_lst ?_ | refine we_str ?_ | refine we_bl ?_ | refine we_non ?_ | refine we_neg ?_ | refine we_not ?_ | refine we_and ?_ | refine we_or ?_ | refine we_chain ?_ | refine we_ife ?_ | refine we_sl ?_ | refine we_slr ?_ | refine we_isi ?_ | refine we_me ?_ | refine we_lc ?_ | refine wl_nil ?_ | refine wl_cons ?_ | refine wd_nil ?_ | refine wd_cons ?_ | refine wd_star ?_ | refine wo_none ?_ | refine wo_some ?_ | refine wa_one ?_ | refine wa_cons ?_ | refine wb_one ?_ | refine wb_cons ?_ | refine we_dct ?_ | refine we_dct0 ?_ | refine wp_nil ?_ | refine wp_cons ?_ | refine wt_and ?_ | refine wt_or ?_ | refine wt_not ?_ | refine wt_cmp ?_ | refine wt_chain ?_ | refine wt_val rfl ?_ | refine ww_rng1 ?_ | refine ww_rng2 ?_ | refine ww_itv ?_ | refine lct_nil ?_ | refine lct_one ?_ | refine ro_mul ?_ ?_ | refine ro_mod ?_ (by first | assumption | decide) | refine RO.mk rfl ?_ | refine ⟨_, rfl, ?_⟩ | refine ⟨rfl, ?_⟩)
      · have e : ((g ^ (i * m) % p : Nat) : Int) * ((g ^ i % p : Nat) : Int) % (p : Int) = ((g ^ (i * (m + 1)) % p : Nat) : Int) := by
          rw [cast_mul_mod, ← Nat.mul_mod, ← Nat.pow_add, Nat.mul_succ]
        have e2 : (m : Int) + 1 = ((m + 1 : Nat) : Int) := by omega
        rw [e, e2]
        exact ih (m + 1) (by omega) (by omega) _ fun x => ws_nil (hK x)
      · exact mul_ok (small hl.2.1 (Nat.mod_lt _ (by omega))) (small hl.2.1 (Nat.mod_lt _ (by omega)))
  have := loop ((p - 1) / Nat.gcd (p - 1) i - 1) 1 (by decide) (by omega)
  rw [Nat.mul_one] at this
  refine this _ fun x => ?_
  repeat (first | refine ws_go ?_ | refine ws_nil ?_ | refine ws_cons ?_ | refine w1_expr ?_ | refine w1_var ?_ | refine w1_tup ?_ | refine w1_ix ?_ | refine w1_par ?_ | refine w1_aug rfl ?_ | refine w1_if ?_ | refine w1_for ?_ | refine w1_ret ?_ | refine w1_retN ?_ | refine w1_pass ?_ | refine w1_doc ?_ | refine w1_brk ?_ | refine w1_cont ?_ | refine we_var rfl ?_ | refine we_int ?_ | refine we_glo rfl ?_ | refine we_bin ?_ | refine we_cmp ?_ | refine we_call ?_ | refine we_ix ?_ | refine we_bi ?_ | refine we_tup ?_ | refine we_lst ?_ | refine we_str ?_ | refine we_bl ?_ | refine we_non ?_ | refine we_neg ?_ | refine we_not ?_ | refine we_and ?_ | refine we_or ?_ | refine we_chain ?_ | refine we_ife ?_ | refine we_sl ?_ | refine we_slr ?_ | refine we_isi ?_ | refine we_me ?_ | refine we_lc ?_ | refine wl_nil ?_ | refine wl_cons ?_ | refine wd_nil ?_ | refine wd_cons ?_ | refine wd_star ?_ | refine wo_none ?_ | refine wo_some ?_ | refine wa_one ?_ | refine wa_cons ?_ | refine wb_one ?_ | refine wb_cons ?_ | refine we_dct ?_ | refine we_dct0 ?_ | refine wp_nil ?_ | refine wp_cons ?_ | refine wt_and ?_ | refine wt_or ?_ | refine wt_not ?_ | refine wt_cmp ?_ | refine wt_chain ?_ | refine wt_val rfl ?_ | refine ww_rng1 ?_ | refine ww_rng2 ?_ | refine ww_itv ?_ | refine lct_nil ?_ | refine lct_one ?_ | refine ro_mul ?_ ?_ | refine ro_mod ?_ (by first | assumption | decide) | refine RO.mk rfl ?_ | refine ⟨_, rfl, ?_⟩ | refine ⟨rfl, ?_⟩)
  exact q
theorem w_lroot (hg : Prm p g) (q : Q (DI g) h) : WC P (k + 1) 26 [DI p] h Q := by
  refine wc_pur rfl rfl rfl rfl ?_
  repeat (first | refine ws_go ?_ | refine ws_nil ?_ | refine ws_cons ?_ | refine w1_expr ?_ | refine w1_var ?_ | refine w1_tup ?_ | refine w1_ix ?_ | refine w1_par ?_ | refine w1_aug rfl ?_ | refine w1_if ?_ | refine w1_for ?_ | refine w1_ret ?_ | refine w1_retN ?_ | refine w1_pass ?_ | refine w1_doc ?_ | refine w1_brk ?_ | refine w1_cont ?_ | refine we_var rfl ?_ | refine we_int ?_ | refine we_glo rfl ?_ | refine we_bin ?_ | refine we_cmp ?_ | refine we_call ?_ | refine we_ix ?_ | refine we_bi ?_ | refine we_tup ?_ | refine we_lst ?_ | refine we_str ?_ | refine we_bl ?_ | refine we_non ?_ | refine we_neg ?_ | refine we_not ?_ | refine we_and ?_ | refine we_or ?_ | refine we_chain ?_ | refine we_ife ?_ | refine we_sl ?_ | refine we_slr ?_ | refine we_isi ?_ | refine we_me ?_ | refine we_lc ?_ | refine wl_nil ?_ | refine wl_cons ?_ | refine wd_nil ?_ | refine wd_cons ?_ | refine wd_star ?_ | refine wo_none ?_ | refine wo_some ?_ | refine wa_one ?_ | refine wa_cons ?_ | refine wb_one ?_ | refine wb_cons ?_ | refine we_dct ?_ | refine we_dct0 ?_ | refine wp_nil ?_ | refine wp_cons ?_ | refine wt_and ?_ | refine wt_or ?_ | refine wt_not ?_ | refine wt_cmp ?_ | refine wt_chain ?_ | refine wt_val rfl ?_ | refine ww_rng1 ?_ | refine ww_rng2 ?_ | refine ww_itv ?_ | refine lct_nil ?_ | refine lct_one ?_ | refine ro_mul ?_ ?_ | refine ro_mod ?_ (by first | assumption | decide) | refine RO.mk rfl ?_ | refine ⟨_, rfl, ?_⟩ | refine ⟨rfl, ?_⟩)
  refine ⟨DI g, ?_, ?_⟩
  · rcases hg with ⟨rfl, rfl⟩ | ⟨rfl, rfl⟩ | ⟨rfl, rfl⟩ | ⟨rfl, rfl⟩ | ⟨rfl, rfl⟩ | ⟨rfl, rfl⟩ <;> rfl
  repeat (first | refine ws_go ?_ | refine ws_nil ?_ | refine ws_cons ?_ | refine w1_expr ?_ | refine w1_var ?_ | refine w1_tup ?_ | refine w1_ix ?_ | refine w1_par ?_ | refine w1_aug rfl ?_ | refine w1_if ?_ | refine w1_for ?_ | refine w1_ret ?_ | refine w1_retN ?_ | refine w1_pass ?_ | refine w1_doc ?_ | refine w1_brk ?_ | refine w1_cont ?_ | refine we_var rfl ?_ | refine we_int ?_ | refine we_glo rfl ?_ | refine we_bin ?_ | refine we_cmp ?_ | refine we_call ?_ | refine we_ix ?_ | refine we_bi ?_ | refine we_tup ?_ | refine we_lst ?_ | refine we_str ?_ | refine we_bl ?_ | refine we_non ?_ | refine we_neg ?_ | refine we_not ?_ | refine we_and ?_ | refine we_or ?_ | refine we_chain ?_ | refine we_ife ?_ | refine we_sl ?_ | refine we_slr ?_ | refine we_isi ?_ | refine we_me ?_ | refine we_lc ?_ | refine wl_nil ?_ | refine wl_cons ?_ | refine wd_nil ?_ | refine wd_cons ?_ | refine wd_star ?_ | refine wo_none ?_ | refine wo_some ?_ | refine wa_one ?_ | refine wa_cons ?_ | refine wb_one ?_ | refine wb_cons ?_ | refine we_dct ?_ | refine we_dct0 ?_ | refine wp_nil ?_ | refine wp_cons ?_ | refine wt_and ?_ | refine wt_or ?_ | refine wt_not ?_ | refine wt_cmp ?_ | refine wt_chain ?_ | refine wt_val rfl ?_ | refine ww_rng1 ?_ | refine ww_rng2 ?_ | refine ww_itv ?_ | refine lct_nil ?_ | refine lct_one ?_ | refine ro_mul ?_ ?_ | refine ro_mod ?_ (by first | assumption | decide) | refine RO.mk rfl ?_ | refine ⟨_, rfl, ?_⟩ | refine ⟨rfl, ?_⟩)
  exact q
end
end Hd
namespace Hd
open PySem MP NT
section
variable {k : Nat} {h : MH} {Q : MP.D → MH → Prop} {p g : Nat} {qs : List Nat}
theorem okR_of {p : PyData} (h1 : p.showable = true) (h2 : p.hasDict = false) (h3 : p.depth ≤ 100) (h4 : p.leavesShort 100 = true) (h5 : p.weight ≤ 160000) : okR p :=
  ⟨h1, h2, h3, by have := PyData.shown_le 100 (by decide) p h4; rw [sizeLine_eq]; omega⟩
theorem short_int {a : Nat} (ha : a < 2 ^ 90) : PyData.leavesShort 100 (.int (a : Int)) = true ∧ PyData.showable (.int (a : Int)) = true ∧ PyData.weight (.int (a : Int)) ≤ 91 := by
  have hl : (a : Int).natAbs.log2 < 90 := log2_of (by rw [Int.natAbs_natCast]; exact ha) (by decide)
  refine ⟨?_, ?_, ?_⟩
  · have z := int_text_length_le (k := 90) (by decide) hl
    have e : (PyData.shown (.int (a : Int))).length = (toString (a : Int)).length := by
      simp only [PyData.shown]
      exact PySem.ofString_length _
    simp only [PyData.leavesShort, decide_eq_true_eq]
    rw [e]; omega
  · simp only [PyData.showable, decide_eq_true_eq]; omega
  · simp only [PyData.weight]
    split <;> omega
theorem okR_l2 {a b : Nat} (ha : a < 2 ^ 90) (hb : b < 2 ^ 90) : okR (.list [.int (a : Int), .int (b : Int)]) := by
  obtain ⟨a1, a2, a3⟩ := short_int ha
  obtain ⟨b1, b2, b3⟩ := short_int hb
  refine okR_of ?_ ?_ ?_ ?_ ?_
  · show PyData.showableAll [.int (a : Int), .int (b : Int)] = true
    show (PyData.showable (.int (a : Int)) && (PyData.showable (.int (b : Int)) && true)) = true
    rw [a2, b2]; rfl
  · simp only [PyData.hasDict, PyData.hasDictAll, Bool.or_self]
  · simp only [PyData.depth, PyData.depthAll]; omega
  · show (PyData.leavesShort 100 (.int (a : Int)) && (PyData.leavesShort 100 (.int (b : Int)) && true)) = true
    rw [a1, b1]; rfl
  · simp only [PyData.weight, PyData.weightAll] at *; omega
end
end Hd
namespace Hd
open PySem MP NT
section
variable {k : Nat} {h : MH} {Q : MP.D → MH → Prop} {p g : Nat} {qs : List Nat}
theorem prm_of {r : Nat} {x : MP.D} (e : [DI 97, DI 193, DI 257, DI 769, DI 7681, DI 12289][r]? = some x) : ∃ p g, Prm p g ∧ x = DI p := by
  match r, e with
  | 0, e => exact ⟨97, 5, .inl ⟨rfl, rfl⟩, (Option.some.inj e).symm⟩
  | 1, e => exact ⟨193, 5, .inr (.inl ⟨rfl, rfl⟩), (Option.some.inj e).symm⟩
  | 2, e => exact ⟨257, 3, .inr (.inr (.inl ⟨rfl, rfl⟩)), (Option.some.inj e).symm⟩
  | 3, e => exact ⟨769, 11, .inr (.inr (.inr (.inl ⟨rfl, rfl⟩))), (Option.some.inj e).symm⟩
  | 4, e => exact ⟨7681, 17, .inr (.inr (.inr (.inr (.inl ⟨rfl, rfl⟩)))), (Option.some.inj e).symm⟩
  | 5, e => exact ⟨12289, 11, .inr (.inr (.inr (.inr (.inr ⟨rfl, rfl⟩)))), (Option.some.inj e).symm⟩
  | r + 6, e => cases e
theorem mulm (p a b : Nat) : a % p * (b % p) % p = a * b % p := by rw [← Nat.mul_mod]
theorem pwm (p g i e : Nat) : (g ^ i % p) ^ e % p = g ^ (i * e) % p := by rw [← Nat.pow_mod, ← Nat.pow_mul]
theorem fact1 {p g i : Nat} (hp : 2 ≤ p) (fer : ∀ t : Nat, g ^ (t * (p - 1)) % p = 1) : (g ^ i % p) ^ (p - 2) % p * (g ^ i % p) % p = 1 := by
  rw [pwm, mulm, ← Nat.pow_add, ← fer i]
  congr 2
  have : p - 1 = p - 2 + 1 := by omega
  rw [this, Nat.mul_add, Nat.mul_one]
theorem ifn_f {p : Prop} {A B : Prop} [Decidable p] (hp : p) (b : B) : if (!decide p) = true then A else B := by rw [if_neg (by simpa using hp)]; exact b
theorem ifn_t {p : Prop} {A B : Prop} [Decidable p] (hp : ¬ p) (a : A) : if (!decide p) = true then A else B := by rw [if_pos (by simpa using hp)]; exact a
theorem ifz_t {p : Prop} {A B : Prop} [Decidable p] (hp : p) (a : A) : if (!decide p) = false then A else B := by rw [if_pos (by simpa using hp)]; exact a
theorem okR_nat {a : Nat} (ha : a < 2 ^ 90) : okR (.int (a : Int)) := okR_int (Nat.lt_trans (log2_of (by rw [Int.natAbs_natCast]; exact ha) (by decide)) (by decide))
theorem pd_int {h : MH} {i : Int} : pd 70 h (.int i) = some (.int i) := rfl
theorem pick_n {p r3 r4 r : Nat} {x : MP.D} (hp : 0 < p) (hp2 : p < 2 ^ 20) (h3 : r3 < 1000) (h4 : r4 < 99) (e : [DI 0, DI 1, .int ((p : Int) - 1), DI p, DI r3, .int ((10 : Int) ^ 60 - 1 - (r4 : Int))][r]? = some x) :
    ∃ n : Nat, n < 1000000000000000000000000000000000000000000000000000000000000 ∧ x = DI n := by
  match r, e with
  | 0, e => exact ⟨0, by decide, (Option.some.inj e).symm⟩
  | 1, e => exact ⟨1, by decide, (Option.some.inj e).symm⟩
  | 2, e => exact ⟨p - 1, by omega, by rw [← Option.some.inj e]; congr 1; omega⟩
  | 3, e => exact ⟨p, by omega, (Option.some.inj e).symm⟩
  | 4, e => exact ⟨r3, by omega, (Option.some.inj e).symm⟩
  | 5, e => exact ⟨10 ^ 60 - 1 - r4, by omega, by rw [← Option.some.inj e]; congr 1; omega⟩
  | r + 6, e => cases e
theorem ne_self (s : PySem.Str) (h : MH) : cmpD .ne (.str s) (.str s) h = some false := by
  show (eqD h (.str s) (.str s)).map (!·) = some false
  show some (!decide (s = s)) = some false
  rw [decide_eq_true rfl]; rfl
theorem zero_pow_int {p n : Nat} (hp : 1 < p) : ((0 ^ n % p : Nat) : Int) = if (n : Int) = 0 then 1 else 0 := by
  by_cases h : n = 0
  · subst h; rw [Nat.pow_zero, Nat.mod_eq_of_lt hp]; rfl
  · rw [Nat.zero_pow (Nat.pos_of_ne_zero h), Nat.zero_mod, if_neg (by omega)]; rfl
theorem int_div {a b : Nat} : (a : Int) / (b : Int) = ((a / b : Nat) : Int) := by rw [Int.natCast_ediv]
theorem fact_ord {p g i : Nat} {qs : List Nat} (R : Root p g (p - 1) qs) (hp : 2 < p) : (g ^ i % p) ^ ((p - 1) / Nat.gcd (p - 1) i) % p = 1 := by
  rw [pwm]
  exact R.of_dvd ((ord_iff (by omega)).mpr (Nat.dvd_refl _))
theorem fact_ab {p g i j : Nat} {qs : List Nat} (R : Root p g (p - 1) qs) : (g ^ i % p) * (g ^ j % p) % p = g ^ ((i + j) % (p - 1)) % p := by
  rw [mulm, ← Nat.pow_add, R.mod]
theorem w_tail {d n' i j : Nat} (hg : Prm p g) (R : Root p g (p - 1) qs) (hi : i < p - 1) (hj : j < p - 1) (q : Q (.bl true) h) : WSt P (k + 9) (b__law_right.drop 8)
        [some (.ref d), some (DI p), some (DI (g ^ i % p)), some (DI (g ^ j % p)), some (DI g), some (DI n'), none, none] h { nx := fun _ h => Q .non h, rt := Q } := by
  have hl := prm_lt hg
  have ml : ∀ x : Nat, x % p < p := fun x => Nat.mod_lt _ (by omega)
  have m90 : ∀ x : Nat, x % p < 2 ^ 90 := fun x => Nat.lt_trans (ml x) (Nat.lt_of_lt_of_le hl.2.1 (by decide))
  have hp0 : (0 : Int) < (p : Int) := by omega
  have hp1 : (0 : Int) < ((p - 1 : Nat) : Int) := by omega
  have ep : (p : Int) - 1 = ((p - 1 : Nat) : Int) := by omega
  have sm : ∀ x : Nat, ((x % p : Nat) : Int).natAbs < 2 ^ 400000 := fun x => small hl.2.1 (ml x)
  have gd : ∀ x : Nat, (p - 1) / x < 2 ^ 90 := fun x => Nat.lt_of_le_of_lt (Nat.div_le_self _ _) (Nat.lt_of_lt_of_le (show p - 1 < 2 ^ 20 by omega) (by decide))
  have g0 : 0 < Nat.gcd (p - 1) i := Nat.gcd_pos_of_pos_left i (by omega)
  repeat (first | refine ws_go ?_ | refine ws_nil ?_ | refine ws_cons ?_ | refine w1_expr ?_ | refine w1_var ?_ | refine w1_tup ?_ | refine w1_ix ?_ | refine w1_par ?_ | refine w1_aug rfl ?_ | refine w1_if ?_ | refine w1_for ?_ | refine w1_ret ?_ | refine w1_retN ?_ | refine w1_pass ?_ | refine w1_doc ?_ | refine w1_brk ?_ | refine w1_cont ?_ | refine we_var rfl ?_ | refine we_int ?_ | refine we_glo rfl ?_ | refine we_bin ?_ | refine we_cmp ?_ | refine we_call ?_ | refine we_ix ?_ | refine we_bi ?_ | refine we_tup ?_ | refine we_lst ?_ | refine we_str ?_ | refine we_bl ?_ | refine we_non ?_ | refine we_neg ?_ | refine we_not ?_ | refine we_and ?_ | refine we_or ?_ | refine we_chain ?_ | refine we_ife ?_ | refine we_sl ?_ | refine we_slr ?_ | refine we_isi ?_ | refine we_me ?_ | refine we_lc ?_ | refine wl_nil ?_ | refine wl_cons ?_ | refine wd_nil ?_ | refine wd_cons ?_ | refine wd_star ?_ | refine wo_none ?_ | refine wo_some ?_ | refine wa_one ?_ | refine wa_cons ?_ | refine wb_one ?_ | refine wb_cons ?_ | refine we_dct ?_ | refine we_dct0 ?_ | refine wp_nil ?_ | refine wp_cons ?_ | refine wt_and ?_ | refine wt_or ?_ | refine wt_not ?_ | refine wt_cmp ?_ | refine wt_chain ?_ | refine wt_val rfl ?_ | refine ww_rng1 ?_ | refine ww_rng2 ?_ | refine ww_itv ?_ | refine lct_nil ?_ | refine lct_one ?_ | refine ro_mul ?_ ?_ | refine ro_mod ?_ (by first | assumption | decide) | refine RO.mk rfl ?_ | refine ⟨_, rfl, ?_⟩ | refine ⟨rfl, ?_⟩)
  refine w_log_by (k := k + 2) hg R hi ?_
  repeat (first | refine ws_go ?_ | refine ws_nil ?_ | refine ws_cons ?_ | refine w1_expr ?_ | refine w1_var ?_ | refine w1_tup ?_ | refine w1_ix ?_ | refine w1_par ?_ | refine w1_aug rfl ?_ | refine w1_if ?_ | refine w1_for ?_ | refine w1_ret ?_ | refine w1_retN ?_ | refine w1_pass ?_ | refine w1_doc ?_ | refine w1_brk ?_ | refine w1_cont ?_ | refine we_var rfl ?_ | refine we_int ?_ | refine we_glo rfl ?_ | refine we_bin ?_ | refine we_cmp ?_ | refine we_call ?_ | refine we_ix ?_ | refine we_bi ?_ | refine we_tup ?_ | refine we_lst ?_ | refine we_str ?_ | refine we_bl ?_ | refine we_non ?_ | refine we_neg ?_ | refine we_not ?_ | refine we_and ?_ | refine we_or ?_ | refine we_chain ?_ | refine we_ife ?_ | refine we_sl ?_ | refine we_slr ?_ | refine we_isi ?_ | refine we_me ?_ | refine we_lc ?_ | refine wl_nil ?_ | refine wl_cons ?_ | refine wd_nil ?_ | refine wd_cons ?_ | refine wd_star ?_ | refine wo_none ?_ | refine wo_some ?_ | refine wa_one ?_ | refine wa_cons ?_ | refine wb_one ?_ | refine wb_cons ?_ | refine we_dct ?_ | refine we_dct0 ?_ | refine wp_nil ?_ | refine wp_cons ?_ | refine wt_and ?_ | refine wt_or ?_ | refine wt_not ?_ | refine wt_cmp ?_ | refine wt_chain ?_ | refine wt_val rfl ?_ | refine ww_rng1 ?_ | refine ww_rng2 ?_ | refine ww_itv ?_ | refine lct_nil ?_ | refine lct_one ?_ | refine ro_mul ?_ ?_ | refine ro_mod ?_ (by first | assumption | decide) | refine RO.mk rfl ?_ | refine ⟨_, rfl, ?_⟩ | refine ⟨rfl, ?_⟩)
  refine w_isint (k := k + 7) (by omega) (by omega) ?_
  repeat (first | refine ws_go ?_ | refine ws_nil ?_ | refine ws_cons ?_ | refine w1_expr ?_ | refine w1_var ?_ | refine w1_tup ?_ | refine w1_ix ?_ | refine w1_par ?_ | refine w1_aug rfl ?_ | refine w1_if ?_ | refine w1_for ?_ | refine w1_ret ?_ | refine w1_retN ?_ | refine w1_pass ?_ | refine w1_doc ?_ | refine w1_brk ?_ | refine w1_cont ?_ | refine we_var rfl ?_ | refine we_int ?_ | refine we_glo rfl ?_ | refine we_bin ?_ | refine we_cmp ?_ | refine we_call ?_ | refine we_ix ?_ | refine we_bi ?_ | refine we_tup ?_ | refine we_lst ?_ | refine we_str ?_ | refine we_bl ?_ | refine we_non ?_ | refine we_neg ?_ | refine we_not ?_ | refine we_and ?_ | refine we_or ?_ | refine we_chain ?_ | refine we_ife ?_ | refine we_sl ?_ | refine we_slr ?_ | refine we_isi ?_ | refine we_me ?_ | refine we_lc ?_ | refine wl_nil ?_ | refine wl_cons ?_ | refine wd_nil ?_ | refine wd_cons ?_ | refine wd_star ?_ | refine wo_none ?_ | refine wo_some ?_ | refine wa_one ?_ | refine wa_cons ?_ | refine wb_one ?_ | refine wb_cons ?_ | refine we_dct ?_ | refine we_dct0 ?_ | refine wp_nil ?_ | refine wp_cons ?_ | refine wt_and ?_ | refine wt_or ?_ | refine wt_not ?_ | refine wt_cmp ?_ | refine wt_chain ?_ | refine wt_val rfl ?_ | refine ww_rng1 ?_ | refine ww_rng2 ?_ | refine ww_itv ?_ | refine lct_nil ?_ | refine lct_one ?_ | refine ro_mul ?_ ?_ | refine ro_mod ?_ (by first | assumption | decide) | refine RO.mk rfl ?_ | refine ⟨_, rfl, ?_⟩ | refine ⟨rfl, ?_⟩)
  refine w_lpower (k := k + 8) hl.1 hl.2.1 ?_
  repeat (first | refine ws_go ?_ | refine ws_nil ?_ | refine ws_cons ?_ | refine w1_expr ?_ | refine w1_var ?_ | refine w1_tup ?_ | refine w1_ix ?_ | refine w1_par ?_ | refine w1_aug rfl ?_ | refine w1_if ?_ | refine w1_for ?_ | refine w1_ret ?_ | refine w1_retN ?_ | refine w1_pass ?_ | refine w1_doc ?_ | refine w1_brk ?_ | refine w1_cont ?_ | refine we_var rfl ?_ | refine we_int ?_ | refine we_glo rfl ?_ | refine we_bin ?_ | refine we_cmp ?_ | refine we_call ?_ | refine we_ix ?_ | refine we_bi ?_ | refine we_tup ?_ | refine we_lst ?_ | refine we_str ?_ | refine we_bl ?_ | refine we_non ?_ | refine we_neg ?_ | refine we_not ?_ | refine we_and ?_ | refine we_or ?_ | refine we_chain ?_ | refine we_ife ?_ | refine we_sl ?_ | refine we_slr ?_ | refine we_isi ?_ | refine we_me ?_ | refine we_lc ?_ | refine wl_nil ?_ | refine wl_cons ?_ | refine wd_nil ?_ | refine wd_cons ?_ | refine wd_star ?_ | refine wo_none ?_ | refine wo_some ?_ | refine wa_one ?_ | refine wa_cons ?_ | refine wb_one ?_ | refine wb_cons ?_ | refine we_dct ?_ | refine we_dct0 ?_ | refine wp_nil ?_ | refine wp_cons ?_ | refine wt_and ?_ | refine wt_or ?_ | refine wt_not ?_ | refine wt_cmp ?_ | refine wt_chain ?_ | refine wt_val rfl ?_ | refine ww_rng1 ?_ | refine ww_rng2 ?_ | refine ww_itv ?_ | refine lct_nil ?_ | refine lct_one ?_ | refine ro_mul ?_ ?_ | refine ro_mod ?_ (by first | assumption | decide) | refine RO.mk rfl ?_ | refine ⟨_, rfl, ?_⟩ | refine ⟨rfl, ?_⟩)
  refine ifn_f rfl ?_
  repeat (first | refine ws_go ?_ | refine ws_nil ?_ | refine ws_cons ?_ | refine w1_expr ?_ | refine w1_var ?_ | refine w1_tup ?_ | refine w1_ix ?_ | refine w1_par ?_ | refine w1_aug rfl ?_ | refine w1_if ?_ | refine w1_for ?_ | refine w1_ret ?_ | refine w1_retN ?_ | refine w1_pass ?_ | refine w1_doc ?_ | refine w1_brk ?_ | refine w1_cont ?_ | refine we_var rfl ?_ | refine we_int ?_ | refine we_glo rfl ?_ | refine we_bin ?_ | refine we_cmp ?_ | refine we_call ?_ | refine we_ix ?_ | refine we_bi ?_ | refine we_tup ?_ | refine we_lst ?_ | refine we_str ?_ | refine we_bl ?_ | refine we_non ?_ | refine we_neg ?_ | refine we_not ?_ | refine we_and ?_ | refine we_or ?_ | refine we_chain ?_ | refine we_ife ?_ | refine we_sl ?_ | refine we_slr ?_ | refine we_isi ?_ | refine we_me ?_ | refine we_lc ?_ | refine wl_nil ?_ | refine wl_cons ?_ | refine wd_nil ?_ | refine wd_cons ?_ | refine wd_star ?_ | refine wo_none ?_ | refine wo_some ?_ | refine wa_one ?_ | refine wa_cons ?_ | refine wb_one ?_ | refine wb_cons ?_ | refine we_dct ?_ | refine we_dct0 ?_ | refine wp_nil ?_ | refine wp_cons ?_ | refine wt_and ?_ | refine wt_or ?_ | refine wt_not ?_ | refine wt_cmp ?_ | refine wt_chain ?_ | refine wt_val rfl ?_ | refine ww_rng1 ?_ | refine ww_rng2 ?_ | refine ww_itv ?_ | refine lct_nil ?_ | refine lct_one ?_ | refine ro_mul ?_ ?_ | refine ro_mod ?_ (by first | assumption | decide) | refine RO.mk rfl ?_ | refine ⟨_, rfl, ?_⟩ | refine ⟨rfl, ?_⟩)
  refine w_order_by (k := k + 2) hg R hi ?_
  repeat (first | refine ws_go ?_ | refine ws_nil ?_ | refine ws_cons ?_ | refine w1_expr ?_ | refine w1_var ?_ | refine w1_tup ?_ | refine w1_ix ?_ | refine w1_par ?_ | refine w1_aug rfl ?_ | refine w1_if ?_ | refine w1_for ?_ | refine w1_ret ?_ | refine w1_retN ?_ | refine w1_pass ?_ | refine w1_doc ?_ | refine w1_brk ?_ | refine w1_cont ?_ | refine we_var rfl ?_ | refine we_int ?_ | refine we_glo rfl ?_ | refine we_bin ?_ | refine we_cmp ?_ | refine we_call ?_ | refine we_ix ?_ | refine we_bi ?_ | refine we_tup ?_ | refine we_lst ?_ | refine we_str ?_ | refine we_bl ?_ | refine we_non ?_ | refine we_neg ?_ | refine we_not ?_ | refine we_and ?_ | refine we_or ?_ | refine we_chain ?_ | refine we_ife ?_ | refine we_sl ?_ | refine we_slr ?_ | refine we_isi ?_ | refine we_me ?_ | refine we_lc ?_ | refine wl_nil ?_ | refine wl_cons ?_ | refine wd_nil ?_ | refine wd_cons ?_ | refine wd_star ?_ | refine wo_none ?_ | refine wo_some ?_ | refine wa_one ?_ | refine wa_cons ?_ | refine wb_one ?_ | refine wb_cons ?_ | refine we_dct ?_ | refine we_dct0 ?_ | refine wp_nil ?_ | refine wp_cons ?_ | refine wt_and ?_ | refine wt_or ?_ | refine wt_not ?_ | refine wt_cmp ?_ | refine wt_chain ?_ | refine wt_val rfl ?_ | refine ww_rng1 ?_ | refine ww_rng2 ?_ | refine ww_itv ?_ | refine lct_nil ?_ | refine lct_one ?_ | refine ro_mul ?_ ?_ | refine ro_mod ?_ (by first | assumption | decide) | refine RO.mk rfl ?_ | refine ⟨_, rfl, ?_⟩ | refine ⟨rfl, ?_⟩)
  refine ro_repr pd_int (okR_nat (gd _)) ?_
  repeat (first | refine ws_go ?_ | refine ws_nil ?_ | refine ws_cons ?_ | refine w1_expr ?_ | refine w1_var ?_ | refine w1_tup ?_ | refine w1_ix ?_ | refine w1_par ?_ | refine w1_aug rfl ?_ | refine w1_if ?_ | refine w1_for ?_ | refine w1_ret ?_ | refine w1_retN ?_ | refine w1_pass ?_ | refine w1_doc ?_ | refine w1_brk ?_ | refine w1_cont ?_ | refine we_var rfl ?_ | refine we_int ?_ | refine we_glo rfl ?_ | refine we_bin ?_ | refine we_cmp ?_ | refine we_call ?_ | refine we_ix ?_ | refine we_bi ?_ | refine we_tup ?_ | refine we_lst ?_ | refine we_str ?_ | refine we_bl ?_ | refine we_non ?_ | refine we_neg ?_ | refine we_not ?_ | refine we_and ?_ | refine we_or ?_ | refine we_chain ?_ | refine we_ife ?_ | refine we_sl ?_ | refine we_slr ?_ | refine we_isi ?_ | refine we_me ?_ | refine we_lc ?_ | refine wl_nil ?_ | refine wl_cons ?_ | refine wd_nil ?_ | refine wd_cons ?_ | refine wd_star ?_ | refine wo_none ?_ | refine wo_some ?_ | refine wa_one ?_ | refine wa_cons ?_ | refine wb_one ?_ | refine wb_cons ?_ | refine we_dct ?_ | refine we_dct0 ?_ | refine wp_nil ?_ | refine wp_cons ?_ | refine wt_and ?_ | refine wt_or ?_ | refine wt_not ?_ | refine wt_cmp ?_ | refine wt_chain ?_ | refine wt_val rfl ?_ | refine ww_rng1 ?_ | refine ww_rng2 ?_ | refine ww_itv ?_ | refine lct_nil ?_ | refine lct_one ?_ | refine ro_mul ?_ ?_ | refine ro_mod ?_ (by first | assumption | decide) | refine RO.mk rfl ?_ | refine ⟨_, rfl, ?_⟩ | refine ⟨rfl, ?_⟩)
  rw [ep]
  refine w_lcommon (k := k + 8) ?_
  repeat (first | refine ws_go ?_ | refine ws_nil ?_ | refine ws_cons ?_ | refine w1_expr ?_ | refine w1_var ?_ | refine w1_tup ?_ | refine w1_ix ?_ | refine w1_par ?_ | refine w1_aug rfl ?_ | refine w1_if ?_ | refine w1_for ?_ | refine w1_ret ?_ | refine w1_retN ?_ | refine w1_pass ?_ | refine w1_doc ?_ | refine w1_brk ?_ | refine w1_cont ?_ | refine we_var rfl ?_ | refine we_int ?_ | refine we_glo rfl ?_ | refine we_bin ?_ | refine we_cmp ?_ | refine we_call ?_ | refine we_ix ?_ | refine we_bi ?_ | refine we_tup ?_ | refine we_lst ?_ | refine we_str ?_ | refine we_bl ?_ | refine we_non ?_ | refine we_neg ?_ | refine we_not ?_ | refine we_and ?_ | refine we_or ?_ | refine we_chain ?_ | refine we_ife ?_ | refine we_sl ?_ | refine we_slr ?_ | refine we_isi ?_ | refine we_me ?_ | refine we_lc ?_ | refine wl_nil ?_ | refine wl_cons ?_ | refine wd_nil ?_ | refine wd_cons ?_ | refine wd_star ?_ | refine wo_none ?_ | refine wo_some ?_ | refine wa_one ?_ | refine wa_cons ?_ | refine wb_one ?_ | refine wb_cons ?_ | refine we_dct ?_ | refine we_dct0 ?_ | refine wp_nil ?_ | refine wp_cons ?_ | refine wt_and ?_ | refine wt_or ?_ | refine wt_not ?_ | refine wt_cmp ?_ | refine wt_chain ?_ | refine wt_val rfl ?_ | refine ww_rng1 ?_ | refine ww_rng2 ?_ | refine ww_itv ?_ | refine lct_nil ?_ | refine lct_one ?_ | refine ro_mul ?_ ?_ | refine ro_mod ?_ (by first | assumption | decide) | refine RO.mk rfl ?_ | refine ⟨_, rfl, ?_⟩ | refine ⟨rfl, ?_⟩)
  refine ro_fdiv ?_ ⟨by omega, ?_⟩
  · rw [int_div]
    repeat (first | refine ws_go ?_ | refine ws_nil ?_ | refine ws_cons ?_ | refine w1_expr ?_ | refine w1_var ?_ | refine w1_tup ?_ | refine w1_ix ?_ | refine w1_par ?_ | refine w1_aug rfl ?_ | refine w1_if ?_ | refine w1_for ?_ | refine w1_ret ?_ | refine w1_retN ?_ | refine w1_pass ?_ | refine w1_doc ?_ | refine w1_brk ?_ | refine w1_cont ?_ | refine we_var rfl ?_ | refine we_int ?_ | refine we_glo rfl ?_ | refine we_bin ?_ | refine we_cmp ?_ | refine we_call ?_ | refine we_ix ?_ | refine we_bi ?_ | refine we_tup ?_ | refine we_lst ?_ | refine we_str ?_ | refine we_bl ?_ | refine we_non ?_ | refine we_neg ?_ | refine we_not ?_ | refine we_and ?_ | refine we_or ?_ | refine we_chain ?_ | refine we_ife ?_ | refine we_sl ?_ | refine we_slr ?_ | refine we_isi ?_ | refine we_me ?_ | refine we_lc ?_ | refine wl_nil ?_ | refine wl_cons ?_ | refine wd_nil ?_ | refine wd_cons ?_ | refine wd_star ?_ | refine wo_none ?_ | refine wo_some ?_ | refine wa_one ?_ | refine wa_cons ?_ | refine wb_one ?_ | refine wb_cons ?_ | refine we_dct ?_ | refine we_dct0 ?_ | refine wp_nil ?_ | refine wp_cons ?_ | refine wt_and ?_ | refine wt_or ?_ | refine wt_not ?_ | refine wt_cmp ?_ | refine wt_chain ?_ | refine wt_val rfl ?_ | refine ww_rng1 ?_ | refine ww_rng2 ?_ | refine ww_itv ?_ | refine lct_nil ?_ | refine lct_one ?_ | refine ro_mul ?_ ?_ | refine ro_mod ?_ (by first | assumption | decide) | refine RO.mk rfl ?_ | refine ⟨_, rfl, ?_⟩ | refine ⟨rfl, ?_⟩)
    refine ro_repr pd_int (okR_nat (gd _)) ?_
    refine ⟨false, ne_self _ _, ?_⟩
    rw [if_pos rfl]
    repeat (first | refine ws_go ?_ | refine ws_nil ?_ | refine ws_cons ?_ | refine w1_expr ?_ | refine w1_var ?_ | refine w1_tup ?_ | refine w1_ix ?_ | refine w1_par ?_ | refine w1_aug rfl ?_ | refine w1_if ?_ | refine w1_for ?_ | refine w1_ret ?_ | refine w1_retN ?_ | refine w1_pass ?_ | refine w1_doc ?_ | refine w1_brk ?_ | refine w1_cont ?_ | refine we_var rfl ?_ | refine we_int ?_ | refine we_glo rfl ?_ | refine we_bin ?_ | refine we_cmp ?_ | refine we_call ?_ | refine we_ix ?_ | refine we_bi ?_ | refine we_tup ?_ | refine we_lst ?_ | refine we_str ?_ | refine we_bl ?_ | refine we_non ?_ | refine we_neg ?_ | refine we_not ?_ | refine we_and ?_ | refine we_or ?_ | refine we_chain ?_ | refine we_ife ?_ | refine we_sl ?_ | refine we_slr ?_ | refine we_isi ?_ | refine we_me ?_ | refine we_lc ?_ | refine wl_nil ?_ | refine wl_cons ?_ | refine wd_nil ?_ | refine wd_cons ?_ | refine wd_star ?_ | refine wo_none ?_ | refine wo_some ?_ | refine wa_one ?_ | refine wa_cons ?_ | refine wb_one ?_ | refine wb_cons ?_ | refine we_dct ?_ | refine we_dct0 ?_ | refine wp_nil ?_ | refine wp_cons ?_ | refine wt_and ?_ | refine wt_or ?_ | refine wt_not ?_ | refine wt_cmp ?_ | refine wt_chain ?_ | refine wt_val rfl ?_ | refine ww_rng1 ?_ | refine ww_rng2 ?_ | refine ww_itv ?_ | refine lct_nil ?_ | refine lct_one ?_ | refine ro_mul ?_ ?_ | refine ro_mod ?_ (by first | assumption | decide) | refine RO.mk rfl ?_ | refine ⟨_, rfl, ?_⟩ | refine ⟨rfl, ?_⟩)
    refine w_lpower (k := k + 8) hl.1 hl.2.1 ?_
    repeat (first | refine ws_go ?_ | refine ws_nil ?_ | refine ws_cons ?_ | refine w1_expr ?_ | refine w1_var ?_ | refine w1_tup ?_ | refine w1_ix ?_ | refine w1_par ?_ | refine w1_aug rfl ?_ | refine w1_if ?_ | refine w1_for ?_ | refine w1_ret ?_ | refine w1_retN ?_ | refine w1_pass ?_ | refine w1_doc ?_ | refine w1_brk ?_ | refine w1_cont ?_ | refine we_var rfl ?_ | refine we_int ?_ | refine we_glo rfl ?_ | refine we_bin ?_ | refine we_cmp ?_ | refine we_call ?_ | refine we_ix ?_ | refine we_bi ?_ | refine we_tup ?_ | refine we_lst ?_ | refine we_str ?_ | refine we_bl ?_ | refine we_non ?_ | refine we_neg ?_ | refine we_not ?_ | refine we_and ?_ | refine we_or ?_ | refine we_chain ?_ | refine we_ife ?_ | refine we_sl ?_ | refine we_slr ?_ | refine we_isi ?_ | refine we_me ?_ | refine we_lc ?_ | refine wl_nil ?_ | refine wl_cons ?_ | refine wd_nil ?_ | refine wd_cons ?_ | refine wd_star ?_ | refine wo_none ?_ | refine wo_some ?_ | refine wa_one ?_ | refine wa_cons ?_ | refine wb_one ?_ | refine wb_cons ?_ | refine we_dct ?_ | refine we_dct0 ?_ | refine wp_nil ?_ | refine wp_cons ?_ | refine wt_and ?_ | refine wt_or ?_ | refine wt_not ?_ | refine wt_cmp ?_ | refine wt_chain ?_ | refine wt_val rfl ?_ | refine ww_rng1 ?_ | refine ww_rng2 ?_ | refine ww_itv ?_ | refine lct_nil ?_ | refine lct_one ?_ | refine ro_mul ?_ ?_ | refine ro_mod ?_ (by first | assumption | decide) | refine RO.mk rfl ?_ | refine ⟨_, rfl, ?_⟩ | refine ⟨rfl, ?_⟩)
    refine ifn_f ?_ ?_
    · rw [fact_ord R (by omega)]; rfl
    repeat (first | refine ws_go ?_ | refine ws_nil ?_ | refine ws_cons ?_ | refine w1_expr ?_ | refine w1_var ?_ | refine w1_tup ?_ | refine w1_ix ?_ | refine w1_par ?_ | refine w1_aug rfl ?_ | refine w1_if ?_ | refine w1_for ?_ | refine w1_ret ?_ | refine w1_retN ?_ | refine w1_pass ?_ | refine w1_doc ?_ | refine w1_brk ?_ | refine w1_cont ?_ | refine we_var rfl ?_ | refine we_int ?_ | refine we_glo rfl ?_ | refine we_bin ?_ | refine we_cmp ?_ | refine we_call ?_ | refine we_ix ?_ | refine we_bi ?_ | refine we_tup ?_ | refine we_lst ?_ | refine we_str ?_ | refine we_bl ?_ | refine we_non ?_ | refine we_neg ?_ | refine we_not ?_ | refine we_and ?_ | refine we_or ?_ | refine we_chain ?_ | refine we_ife ?_ | refine we_sl ?_ | refine we_slr ?_ | refine we_isi ?_ | refine we_me ?_ | refine we_lc ?_ | refine wl_nil ?_ | refine wl_cons ?_ | refine wd_nil ?_ | refine wd_cons ?_ | refine wd_star ?_ | refine wo_none ?_ | refine wo_some ?_ | refine wa_one ?_ | refine wa_cons ?_ | refine wb_one ?_ | refine wb_cons ?_ | refine we_dct ?_ | refine we_dct0 ?_ | refine wp_nil ?_ | refine wp_cons ?_ | refine wt_and ?_ | refine wt_or ?_ | refine wt_not ?_ | refine wt_cmp ?_ | refine wt_chain ?_ | refine wt_val rfl ?_ | refine ww_rng1 ?_ | refine ww_rng2 ?_ | refine ww_itv ?_ | refine lct_nil ?_ | refine lct_one ?_ | refine ro_mul ?_ ?_ | refine ro_mod ?_ (by first | assumption | decide) | refine RO.mk rfl ?_ | refine ⟨_, rfl, ?_⟩ | refine ⟨rfl, ?_⟩)
    have last : ∀ h : MH, Q (.bl true) h → WSt P (k + 9) (b__law_right.drop 13)
        [some (.ref d), some (DI p), some (DI (g ^ i % p)), some (DI (g ^ j % p)), some (DI g), some (DI n'), some (DI i), some (DI ((p - 1) / Nat.gcd (p - 1) i))] h { nx := fun _ h => Q .non h, rt := Q } := by
      intro h q
      repeat (first | refine ws_go ?_ | refine ws_nil ?_ | refine ws_cons ?_ | refine w1_expr ?_ | refine w1_var ?_ | refine w1_tup ?_ | refine w1_ix ?_ | refine w1_par ?_ | refine w1_aug rfl ?_ | refine w1_if ?_ | refine w1_for ?_ | refine w1_ret ?_ | refine w1_retN ?_ | refine w1_pass ?_ | refine w1_doc ?_ | refine w1_brk ?_ | refine w1_cont ?_ | refine we_var rfl ?_ | refine we_int ?_ | refine we_glo rfl ?_ | refine we_bin ?_ | refine we_cmp ?_ | refine we_call ?_ | refine we_ix ?_ | refine we_bi ?_ | refine we_tup ?_ | refine we_lst ?_ | refine we_str ?_ | refine we_bl ?_ | refine we_non ?_ | refine we_neg ?_ | refine we_not ?_ | refine we_and ?_ | refine we_or ?_ | refine we_chain ?_ | refine we_ife ?_ | refine we_sl ?_ | refine we_slr ?_ | refine we_isi ?_ | refine we_me ?_ | refine we_lc ?_ | refine wl_nil ?_ | refine wl_cons ?_ | refine wd_nil ?_ | refine wd_cons ?_ | refine wd_star ?_ | refine wo_none ?_ | refine wo_some ?_ | refine wa_one ?_ | refine wa_cons ?_ | refine wb_one ?_ | refine wb_cons ?_ | refine we_dct ?_ | refine we_dct0 ?_ | refine wp_nil ?_ | refine wp_cons ?_ | refine wt_and ?_ | refine wt_or ?_ | refine wt_not ?_ | refine wt_cmp ?_ | refine wt_chain ?_ | refine wt_val rfl ?_ | refine ww_rng1 ?_ | refine ww_rng2 ?_ | refine ww_itv ?_ | refine lct_nil ?_ | refine lct_one ?_ | refine ro_mul ?_ ?_ | refine ro_mod ?_ (by first | assumption | decide) | refine RO.mk rfl ?_ | refine ⟨_, rfl, ?_⟩ | refine ⟨rfl, ?_⟩)
      · rw [cast_mul_mod, fact_ab R]
        refine w_log_by (k := k + 2) hg R (Nat.mod_lt _ (by omega)) ?_
        repeat (first | refine ws_go ?_ | refine ws_nil ?_ | refine ws_cons ?_ | refine w1_expr ?_ | refine w1_var ?_ | refine w1_tup ?_ | refine w1_ix ?_ | refine w1_par ?_ | refine w1_aug rfl ?_ | refine w1_if ?_ | refine w1_for ?_ | refine w1_ret ?_ | refine w1_retN ?_ | refine w1_pass ?_ | refine w1_doc ?_ | refine w1_brk ?_ | refine w1_cont ?_ | refine we_var rfl ?_ | refine we_int ?_ | refine we_glo rfl ?_ | refine we_bin ?_ | refine we_cmp ?_ | refine we_call ?_ | refine we_ix ?_ | refine we_bi ?_ | refine we_tup ?_ | refine we_lst ?_ | refine we_str ?_ | refine we_bl ?_ | refine we_non ?_ | refine we_neg ?_ | refine we_not ?_ | refine we_and ?_ | refine we_or ?_ | refine we_chain ?_ | refine we_ife ?_ | refine we_sl ?_ | refine we_slr ?_ | refine we_isi ?_ | refine we_me ?_ | refine we_lc ?_ | refine wl_nil ?_ | refine wl_cons ?_ | refine wd_nil ?_ | refine wd_cons ?_ | refine wd_star ?_ | refine wo_none ?_ | refine wo_some ?_ | refine wa_one ?_ | refine wa_cons ?_ | refine wb_one ?_ | refine wb_cons ?_ | refine we_dct ?_ | refine we_dct0 ?_ | refine wp_nil ?_ | refine wp_cons ?_ | refine wt_and ?_ | refine wt_or ?_ | refine wt_not ?_ | refine wt_cmp ?_ | refine wt_chain ?_ | refine wt_val rfl ?_ | refine ww_rng1 ?_ | refine ww_rng2 ?_ | refine ww_itv ?_ | refine lct_nil ?_ | refine lct_one ?_ | refine ro_mul ?_ ?_ | refine ro_mod ?_ (by first | assumption | decide) | refine RO.mk rfl ?_ | refine ⟨_, rfl, ?_⟩ | refine ⟨rfl, ?_⟩)
        refine w_log_by (k := k + 2) hg R hj ?_
        repeat (first | refine ws_go ?_ | refine ws_nil ?_ | refine ws_cons ?_ | refine w1_expr ?_ | refine w1_var ?_ | refine w1_tup ?_ | refine w1_ix ?_ | refine w1_par ?_ | refine w1_aug rfl ?_ | refine w1_if ?_ | refine w1_for ?_ | refine w1_ret ?_ | refine w1_retN ?_ | refine w1_pass ?_ | refine w1_doc ?_ | refine w1_brk ?_ | refine w1_cont ?_ | refine we_var rfl ?_ | refine we_int ?_ | refine we_glo rfl ?_ | refine we_bin ?_ | refine we_cmp ?_ | refine we_call ?_ | refine we_ix ?_ | refine we_bi ?_ | refine we_tup ?_ | refine we_lst ?_ | refine we_str ?_ | refine we_bl ?_ | refine we_non ?_ | refine we_neg ?_ | refine we_not ?_ | refine we_and ?_ | refine we_or ?_ | refine we_chain ?_ | refine we_ife ?_ | refine we_sl ?_ | refine we_slr ?_ | refine we_isi ?_ | refine we_me ?_ | refine we_lc ?_ | refine wl_nil ?_ | refine wl_cons ?_ | refine wd_nil ?_ | refine wd_cons ?_ | refine wd_star ?_ | refine wo_none ?_ | refine wo_some ?_ | refine wa_one ?_ | refine wa_cons ?_ | refine wb_one ?_ | refine wb_cons ?_ | refine we_dct ?_ | refine we_dct0 ?_ | refine wp_nil ?_ | refine wp_cons ?_ | refine wt_and ?_ | refine wt_or ?_ | refine wt_not ?_ | refine wt_cmp ?_ | refine wt_chain ?_ | refine wt_val rfl ?_ | refine ww_rng1 ?_ | refine ww_rng2 ?_ | refine ww_itv ?_ | refine lct_nil ?_ | refine lct_one ?_ | refine ro_mul ?_ ?_ | refine ro_mod ?_ (by first | assumption | decide) | refine RO.mk rfl ?_ | refine ⟨_, rfl, ?_⟩ | refine ⟨rfl, ?_⟩)
        rw [ep]
        refine ro_mod ?_ hp1
        repeat (first | refine ws_go ?_ | refine ws_nil ?_ | refine ws_cons ?_ | refine w1_expr ?_ | refine w1_var ?_ | refine w1_tup ?_ | refine w1_ix ?_ | refine w1_par ?_ | refine w1_aug rfl ?_ | refine w1_if ?_ | refine w1_for ?_ | refine w1_ret ?_ | refine w1_retN ?_ | refine w1_pass ?_ | refine w1_doc ?_ | refine w1_brk ?_ | refine w1_cont ?_ | refine we_var rfl ?_ | refine we_int ?_ | refine we_glo rfl ?_ | refine we_bin ?_ | refine we_cmp ?_ | refine we_call ?_ | refine we_ix ?_ | refine we_bi ?_ | refine we_tup ?_ | refine we_lst ?_ | refine we_str ?_ | refine we_bl ?_ | refine we_non ?_ | refine we_neg ?_ | refine we_not ?_ | refine we_and ?_ | refine we_or ?_ | refine we_chain ?_ | refine we_ife ?_ | refine we_sl ?_ | refine we_slr ?_ | refine we_isi ?_ | refine we_me ?_ | refine we_lc ?_ | refine wl_nil ?_ | refine wl_cons ?_ | refine wd_nil ?_ | refine wd_cons ?_ | refine wd_star ?_ | refine wo_none ?_ | refine wo_some ?_ | refine wa_one ?_ | refine wa_cons ?_ | refine wb_one ?_ | refine wb_cons ?_ | refine we_dct ?_ | refine we_dct0 ?_ | refine wp_nil ?_ | refine wp_cons ?_ | refine wt_and ?_ | refine wt_or ?_ | refine wt_not ?_ | refine wt_cmp ?_ | refine wt_chain ?_ | refine wt_val rfl ?_ | refine ww_rng1 ?_ | refine ww_rng2 ?_ | refine ww_itv ?_ | refine lct_nil ?_ | refine lct_one ?_ | refine ro_mul ?_ ?_ | refine ro_mod ?_ (by first | assumption | decide) | refine RO.mk rfl ?_ | refine ⟨_, rfl, ?_⟩ | refine ⟨rfl, ?_⟩)
        have e : ((i : Int) + (j : Int)) % ((p - 1 : Nat) : Int) = (((i + j) % (p - 1) : Nat) : Int) := by rw [Int.natCast_emod, Int.natCast_add]
        rw [e, decide_eq_true rfl]
        exact q
      · exact mul_ok (sm _) (sm _)
    by_cases hs : (p : Int) < 800
    · refine if_t hs ?_
      repeat (first | refine ws_go ?_ | refine ws_nil ?_ | refine ws_cons ?_ | refine w1_expr ?_ | refine w1_var ?_ | refine w1_tup ?_ | refine w1_ix ?_ | refine w1_par ?_ | refine w1_aug rfl ?_ | refine w1_if ?_ | refine w1_for ?_ | refine w1_ret ?_ | refine w1_retN ?_ | refine w1_pass ?_ | refine w1_doc ?_ | refine w1_brk ?_ | refine w1_cont ?_ | refine we_var rfl ?_ | refine we_int ?_ | refine we_glo rfl ?_ | refine we_bin ?_ | refine we_cmp ?_ | refine we_call ?_ | refine we_ix ?_ | refine we_bi ?_ | refine we_tup ?_ | refine we_lst ?_ | refine we_str ?_ | refine we_bl ?_ | refine we_non ?_ | refine we_neg ?_ | refine we_not ?_ | refine we_and ?_ | refine we_or ?_ | refine we_chain ?_ | refine we_ife ?_ | refine we_sl ?_ | refine we_slr ?_ | refine we_isi ?_ | refine we_me ?_ | refine we_lc ?_ | refine wl_nil ?_ | refine wl_cons ?_ | refine wd_nil ?_ | refine wd_cons ?_ | refine wd_star ?_ | refine wo_none ?_ | refine wo_some ?_ | refine wa_one ?_ | refine wa_cons ?_ | refine wb_one ?_ | refine wb_cons ?_ | refine we_dct ?_ | refine we_dct0 ?_ | refine wp_nil ?_ | refine wp_cons ?_ | refine wt_and ?_ | refine wt_or ?_ | refine wt_not ?_ | refine wt_cmp ?_ | refine wt_chain ?_ | refine wt_val rfl ?_ | refine ww_rng1 ?_ | refine ww_rng2 ?_ | refine ww_itv ?_ | refine lct_nil ?_ | refine lct_one ?_ | refine ro_mul ?_ ?_ | refine ro_mod ?_ (by first | assumption | decide) | refine RO.mk rfl ?_ | refine ⟨_, rfl, ?_⟩ | refine ⟨rfl, ?_⟩)
      refine w_lorder (k := k + 8) hg R hi ?_
      repeat (first | refine ws_go ?_ | refine ws_nil ?_ | refine ws_cons ?_ | refine w1_expr ?_ | refine w1_var ?_ | refine w1_tup ?_ | refine w1_ix ?_ | refine w1_par ?_ | refine w1_aug rfl ?_ | refine w1_if ?_ | refine w1_for ?_ | refine w1_ret ?_ | refine w1_retN ?_ | refine w1_pass ?_ | refine w1_doc ?_ | refine w1_brk ?_ | refine w1_cont ?_ | refine we_var rfl ?_ | refine we_int ?_ | refine we_glo rfl ?_ | refine we_bin ?_ | refine we_cmp ?_ | refine we_call ?_ | refine we_ix ?_ | refine we_bi ?_ | refine we_tup ?_ | refine we_lst ?_ | refine we_str ?_ | refine we_bl ?_ | refine we_non ?_ | refine we_neg ?_ | refine we_not ?_ | refine we_and ?_ | refine we_or ?_ | refine we_chain ?_ | refine we_ife ?_ | refine we_sl ?_ | refine we_slr ?_ | refine we_isi ?_ | refine we_me ?_ | refine we_lc ?_ | refine wl_nil ?_ | refine wl_cons ?_ | refine wd_nil ?_ | refine wd_cons ?_ | refine wd_star ?_ | refine wo_none ?_ | refine wo_some ?_ | refine wa_one ?_ | refine wa_cons ?_ | refine wb_one ?_ | refine wb_cons ?_ | refine we_dct ?_ | refine we_dct0 ?_ | refine wp_nil ?_ | refine wp_cons ?_ | refine wt_and ?_ | refine wt_or ?_ | refine wt_not ?_ | refine wt_cmp ?_ | refine wt_chain ?_ | refine wt_val rfl ?_ | refine ww_rng1 ?_ | refine ww_rng2 ?_ | refine ww_itv ?_ | refine lct_nil ?_ | refine lct_one ?_ | refine ro_mul ?_ ?_ | refine ro_mod ?_ (by first | assumption | decide) | refine RO.mk rfl ?_ | refine ⟨_, rfl, ?_⟩ | refine ⟨rfl, ?_⟩)
      refine ifn_f rfl ?_
      refine ws_go (ws_nil ?_)
      exact last _ q
    · refine if_f hs ?_
      refine if_f hs ?_
      refine ws_go (ws_nil ?_)
      exact last _ q
  · rw [Int.natAbs_natCast]
    exact Nat.lt_of_lt_of_le (log2_of (i := ((Nat.gcd (p - 1) i : Nat) : Int)) (a := 20) (by rw [Int.natAbs_natCast]; exact Nat.lt_of_le_of_lt (Nat.gcd_le_left i (by omega)) (by omega)) (by decide)) (by decide)
theorem w_right {d n : Nat} (hd : Dice d n h) (hn : n < 2 ^ 50) (q : ∀ h' : MH, Dice d (n + 100) h' → Q (.bl true) h') : WC P (k + 10) 31 [.ref d] h Q := by
  refine wc_imp rfl rfl rfl ?_
  repeat (first | refine ws_go ?_ | refine ws_nil ?_ | refine ws_cons ?_ | refine w1_expr ?_ | refine w1_var ?_ | refine w1_tup ?_ | refine w1_ix ?_ | refine w1_par ?_ | refine w1_aug rfl ?_ | refine w1_if ?_ | refine w1_for ?_ | refine w1_ret ?_ | refine w1_retN ?_ | refine w1_pass ?_ | refine w1_doc ?_ | refine w1_brk ?_ | refine w1_cont ?_ | refine we_var rfl ?_ | refine we_int ?_ | refine we_glo rfl ?_ | refine we_bin ?_ | refine we_cmp ?_ | refine we_call ?_ | refine we_ix ?_ | refine we_bi ?_ | refine we_tup ?_ | refine we_lst ?_ | refine we_str ?_ | refine we_bl ?_ | refine we_non ?_ | refine we_neg ?_ | refine we_not ?_ | refine we_and ?_ | refine we_or ?_ | refine we_chain ?_ | refine we_ife ?_ | refine we_sl ?_ | refine we_slr ?_ | refine we_isi ?_ | refine we_me ?_ | refine we_lc ?_ | refine wl_nil ?_ | refine wl_cons ?_ | refine wd_nil ?_ | refine wd_cons ?_ | refine wd_star ?_ | refine wo_none ?_ | refine wo_some ?_ | refine wa_one ?_ | refine wa_cons ?_ | refine wb_one ?_ | refine wb_cons ?_ | refine we_dct ?_ | refine we_dct0 ?_ | refine wp_nil ?_ | refine wp_cons ?_ | refine wt_and ?_ | refine wt_or ?_ | refine wt_not ?_ | refine wt_cmp ?_ | refine wt_chain ?_ | refine wt_val rfl ?_ | refine ww_rng1 ?_ | refine ww_rng2 ?_ | refine ww_itv ?_ | refine lct_nil ?_ | refine lct_one ?_ | refine ro_mul ?_ ?_ | refine ro_mod ?_ (by first | assumption | decide) | refine RO.mk rfl ?_ | refine ⟨_, rfl, ?_⟩ | refine ⟨rfl, ?_⟩)
  refine w_primes ?_
  repeat (first | refine ws_go ?_ | refine ws_nil ?_ | refine ws_cons ?_ | refine w1_expr ?_ | refine w1_var ?_ | refine w1_tup ?_ | refine w1_ix ?_ | refine w1_par ?_ | refine w1_aug rfl ?_ | refine w1_if ?_ | refine w1_for ?_ | refine w1_ret ?_ | refine w1_retN ?_ | refine w1_pass ?_ | refine w1_doc ?_ | refine w1_brk ?_ | refine w1_cont ?_ | refine we_var rfl ?_ | refine we_int ?_ | refine we_glo rfl ?_ | refine we_bin ?_ | refine we_cmp ?_ | refine we_call ?_ | refine we_ix ?_ | refine we_bi ?_ | refine we_tup ?_ | refine we_lst ?_ | refine we_str ?_ | refine we_bl ?_ | refine we_non ?_ | refine we_neg ?_ | refine we_not ?_ | refine we_and ?_ | refine we_or ?_ | refine we_chain ?_ | refine we_ife ?_ | refine we_sl ?_ | refine we_slr ?_ | refine we_isi ?_ | refine we_me ?_ | refine we_lc ?_ | refine wl_nil ?_ | refine wl_cons ?_ | refine wd_nil ?_ | refine wd_cons ?_ | refine wd_star ?_ | refine wo_none ?_ | refine wo_some ?_ | refine wa_one ?_ | refine wa_cons ?_ | refine wb_one ?_ | refine wb_cons ?_ | refine we_dct ?_ | refine we_dct0 ?_ | refine wp_nil ?_ | refine wp_cons ?_ | refine wt_and ?_ | refine wt_or ?_ | refine wt_not ?_ | refine wt_cmp ?_ | refine wt_chain ?_ | refine wt_val rfl ?_ | refine ww_rng1 ?_ | refine ww_rng2 ?_ | refine ww_itv ?_ | refine lct_nil ?_ | refine lct_one ?_ | refine ro_mul ?_ ?_ | refine ro_mod ?_ (by first | assumption | decide) | refine RO.mk rfl ?_ | refine ⟨_, rfl, ?_⟩ | refine ⟨rfl, ?_⟩)
  have f0 := Fr.new (o := .lst [DI 97, DI 193, DI 257, DI 769, DI 7681, DI 12289]) hd
  refine w_pick (k := k + 7) f0.di (by omega) (by have := hd.lt; omega) MH.get_new_same (by decide) (by decide) fun r x h1 hx f1 => ?_
  obtain ⟨p, g, hg, rfl⟩ := prm_of hx
  have hl := prm_lt hg
  obtain ⟨qs, R⟩ := hg.root
  have ep : (p : Int) - 1 = ((p - 1 : Nat) : Int) := by omega
  repeat (first | refine ws_go ?_ | refine ws_nil ?_ | refine ws_cons ?_ | refine w1_expr ?_ | refine w1_var ?_ | refine w1_tup ?_ | refine w1_ix ?_ | refine w1_par ?_ | refine w1_aug rfl ?_ | refine w1_if ?_ | refine w1_for ?_ | refine w1_ret ?_ | refine w1_retN ?_ | refine w1_pass ?_ | refine w1_doc ?_ | refine w1_brk ?_ | refine w1_cont ?_ | refine we_var rfl ?_ | refine we_int ?_ | refine we_glo rfl ?_ | refine we_bin ?_ | refine we_cmp ?_ | refine we_call ?_ | refine we_ix ?_ | refine we_bi ?_ | refine we_tup ?_ | refine we_lst ?_ | refine we_str ?_ | refine we_bl ?_ | refine we_non ?_ | refine we_neg ?_ | refine we_not ?_ | refine we_and ?_ | refine we_or ?_ | refine we_chain ?_ | refine we_ife ?_ | refine we_sl ?_ | refine we_slr ?_ | refine we_isi ?_ | refine we_me ?_ | refine we_lc ?_ | refine wl_nil ?_ | refine wl_cons ?_ | refine wd_nil ?_ | refine wd_cons ?_ | refine wd_star ?_ | refine wo_none ?_ | refine wo_some ?_ | refine wa_one ?_ | refine wa_cons ?_ | refine wb_one ?_ | refine wb_cons ?_ | refine we_dct ?_ | refine we_dct0 ?_ | refine wp_nil ?_ | refine wp_cons ?_ | refine wt_and ?_ | refine wt_or ?_ | refine wt_not ?_ | refine wt_cmp ?_ | refine wt_chain ?_ | refine wt_val rfl ?_ | refine ww_rng1 ?_ | refine ww_rng2 ?_ | refine ww_itv ?_ | refine lct_nil ?_ | refine lct_one ?_ | refine ro_mul ?_ ?_ | refine ro_mod ?_ (by first | assumption | decide) | refine RO.mk rfl ?_ | refine ⟨_, rfl, ?_⟩ | refine ⟨rfl, ?_⟩)
  rw [ep]
  refine w_roll (k := k + 8) f1.di (by omega) (by omega) (by omega) fun r1 h2 hr1 f2 => ?_
  repeat (first | refine ws_go ?_ | refine ws_nil ?_ | refine ws_cons ?_ | refine w1_expr ?_ | refine w1_var ?_ | refine w1_tup ?_ | refine w1_ix ?_ | refine w1_par ?_ | refine w1_aug rfl ?_ | refine w1_if ?_ | refine w1_for ?_ | refine w1_ret ?_ | refine w1_retN ?_ | refine w1_pass ?_ | refine w1_doc ?_ | refine w1_brk ?_ | refine w1_cont ?_ | refine we_var rfl ?_ | refine we_int ?_ | refine we_glo rfl ?_ | refine we_bin ?_ | refine we_cmp ?_ | refine we_call ?_ | refine we_ix ?_ | refine we_bi ?_ | refine we_tup ?_ | refine we_lst ?_ | refine we_str ?_ | refine we_bl ?_ | refine we_non ?_ | refine we_neg ?_ | refine we_not ?_ | refine we_and ?_ | refine we_or ?_ | refine we_chain ?_ | refine we_ife ?_ | refine we_sl ?_ | refine we_slr ?_ | refine we_isi ?_ | refine we_me ?_ | refine we_lc ?_ | refine wl_nil ?_ | refine wl_cons ?_ | refine wd_nil ?_ | refine wd_cons ?_ | refine wd_star ?_ | refine wo_none ?_ | refine wo_some ?_ | refine wa_one ?_ | refine wa_cons ?_ | refine wb_one ?_ | refine wb_cons ?_ | refine we_dct ?_ | refine we_dct0 ?_ | refine wp_nil ?_ | refine wp_cons ?_ | refine wt_and ?_ | refine wt_or ?_ | refine wt_not ?_ | refine wt_cmp ?_ | refine wt_chain ?_ | refine wt_val rfl ?_ | refine ww_rng1 ?_ | refine ww_rng2 ?_ | refine ww_itv ?_ | refine lct_nil ?_ | refine lct_one ?_ | refine ro_mul ?_ ?_ | refine ro_mod ?_ (by first | assumption | decide) | refine RO.mk rfl ?_ | refine ⟨_, rfl, ?_⟩ | refine ⟨rfl, ?_⟩)
  rw [ep]
  refine w_roll (k := k + 8) f2.di (by omega) (by omega) (by omega) fun r2 h3 hr2 f3 => ?_
  repeat (first | refine ws_go ?_ | refine ws_nil ?_ | refine ws_cons ?_ | refine w1_expr ?_ | refine w1_var ?_ | refine w1_tup ?_ | refine w1_ix ?_ | refine w1_par ?_ | refine w1_aug rfl ?_ | refine w1_if ?_ | refine w1_for ?_ | refine w1_ret ?_ | refine w1_retN ?_ | refine w1_pass ?_ | refine w1_doc ?_ | refine w1_brk ?_ | refine w1_cont ?_ | refine we_var rfl ?_ | refine we_int ?_ | refine we_glo rfl ?_ | refine we_bin ?_ | refine we_cmp ?_ | refine we_call ?_ | refine we_ix ?_ | refine we_bi ?_ | refine we_tup ?_ | refine we_lst ?_ | refine we_str ?_ | refine we_bl ?_ | refine we_non ?_ | refine we_neg ?_ | refine we_not ?_ | refine we_and ?_ | refine we_or ?_ | refine we_chain ?_ | refine we_ife ?_ | refine we_sl ?_ | refine we_slr ?_ | refine we_isi ?_ | refine we_me ?_ | refine we_lc ?_ | refine wl_nil ?_ | refine wl_cons ?_ | refine wd_nil ?_ | refine wd_cons ?_ | refine wd_star ?_ | refine wo_none ?_ | refine wo_some ?_ | refine wa_one ?_ | refine wa_cons ?_ | refine wb_one ?_ | refine wb_cons ?_ | refine we_dct ?_ | refine we_dct0 ?_ | refine wp_nil ?_ | refine wp_cons ?_ | refine wt_and ?_ | refine wt_or ?_ | refine wt_not ?_ | refine wt_cmp ?_ | refine wt_chain ?_ | refine wt_val rfl ?_ | refine ww_rng1 ?_ | refine ww_rng2 ?_ | refine ww_itv ?_ | refine lct_nil ?_ | refine lct_one ?_ | refine ro_mul ?_ ?_ | refine ro_mod ?_ (by first | assumption | decide) | refine RO.mk rfl ?_ | refine ⟨_, rfl, ?_⟩ | refine ⟨rfl, ?_⟩)
  obtain ⟨i, hi, ei⟩ := R.onto (x := 1 + r1) (by omega) (by omega)
  obtain ⟨j, hj, ej⟩ := R.onto (x := 1 + r2) (by omega) (by omega)
  have e1 : (1 : Int) + (r1 : Int) = ((g ^ i % p : Nat) : Int) := by rw [ei]; omega
  have e2 : (1 : Int) + (r2 : Int) = ((g ^ j % p : Nat) : Int) := by rw [ej]; omega
  rw [e1, e2]
  refine w_lroot hg ?_
  repeat (first | refine ws_go ?_ | refine ws_nil ?_ | refine ws_cons ?_ | refine w1_expr ?_ | refine w1_var ?_ | refine w1_tup ?_ | refine w1_ix ?_ | refine w1_par ?_ | refine w1_aug rfl ?_ | refine w1_if ?_ | refine w1_for ?_ | refine w1_ret ?_ | refine w1_retN ?_ | refine w1_pass ?_ | refine w1_doc ?_ | refine w1_brk ?_ | refine w1_cont ?_ | refine we_var rfl ?_ | refine we_int ?_ | refine we_glo rfl ?_ | refine we_bin ?_ | refine we_cmp ?_ | refine we_call ?_ | refine we_ix ?_ | refine we_bi ?_ | refine we_tup ?_ | refine we_lst ?_ | refine we_str ?_ | refine we_bl ?_ | refine we_non ?_ | refine we_neg ?_ | refine we_not ?_ | refine we_and ?_ | refine we_or ?_ | refine we_chain ?_ | refine we_ife ?_ | refine we_sl ?_ | refine we_slr ?_ | refine we_isi ?_ | refine we_me ?_ | refine we_lc ?_ | refine wl_nil ?_ | refine wl_cons ?_ | refine wd_nil ?_ | refine wd_cons ?_ | refine wd_star ?_ | refine wo_none ?_ | refine wo_some ?_ | refine wa_one ?_ | refine wa_cons ?_ | refine wb_one ?_ | refine wb_cons ?_ | refine we_dct ?_ | refine we_dct0 ?_ | refine wp_nil ?_ | refine wp_cons ?_ | refine wt_and ?_ | refine wt_or ?_ | refine wt_not ?_ | refine wt_cmp ?_ | refine wt_chain ?_ | refine wt_val rfl ?_ | refine ww_rng1 ?_ | refine ww_rng2 ?_ | refine ww_itv ?_ | refine lct_nil ?_ | refine lct_one ?_ | refine ro_mul ?_ ?_ | refine ro_mod ?_ (by first | assumption | decide) | refine RO.mk rfl ?_ | refine ⟨_, rfl, ?_⟩ | refine ⟨rfl, ?_⟩)
  refine w_root_of hg ?_
  repeat (first | refine ws_go ?_ | refine ws_nil ?_ | refine ws_cons ?_ | refine w1_expr ?_ | refine w1_var ?_ | refine w1_tup ?_ | refine w1_ix ?_ | refine w1_par ?_ | refine w1_aug rfl ?_ | refine w1_if ?_ | refine w1_for ?_ | refine w1_ret ?_ | refine w1_retN ?_ | refine w1_pass ?_ | refine w1_doc ?_ | refine w1_brk ?_ | refine w1_cont ?_ | refine we_var rfl ?_ | refine we_int ?_ | refine we_glo rfl ?_ | refine we_bin ?_ | refine we_cmp ?_ | refine we_call ?_ | refine we_ix ?_ | refine we_bi ?_ | refine we_tup ?_ | refine we_lst ?_ | refine we_str ?_ | refine we_bl ?_ | refine we_non ?_ | refine we_neg ?_ | refine we_not ?_ | refine we_and ?_ | refine we_or ?_ | refine we_chain ?_ | refine we_ife ?_ | refine we_sl ?_ | refine we_slr ?_ | refine we_isi ?_ | refine we_me ?_ | refine we_lc ?_ | refine wl_nil ?_ | refine wl_cons ?_ | refine wd_nil ?_ | refine wd_cons ?_ | refine wd_star ?_ | refine wo_none ?_ | refine wo_some ?_ | refine wa_one ?_ | refine wa_cons ?_ | refine wb_one ?_ | refine wb_cons ?_ | refine we_dct ?_ | refine we_dct0 ?_ | refine wp_nil ?_ | refine wp_cons ?_ | refine wt_and ?_ | refine wt_or ?_ | refine wt_not ?_ | refine wt_cmp ?_ | refine wt_chain ?_ | refine wt_val rfl ?_ | refine ww_rng1 ?_ | refine ww_rng2 ?_ | refine ww_itv ?_ | refine lct_nil ?_ | refine lct_one ?_ | refine ro_mul ?_ ?_ | refine ro_mod ?_ (by first | assumption | decide) | refine RO.mk rfl ?_ | refine ⟨_, rfl, ?_⟩ | refine ⟨rfl, ?_⟩)
  have ml : ∀ x : Nat, x % p < p := fun x => Nat.mod_lt _ (by omega)
  have m90 : ∀ x : Nat, x % p < 2 ^ 90 := fun x => Nat.lt_trans (ml x) (Nat.lt_of_lt_of_le hl.2.1 (by decide))
  refine w_back_by (k := k + 2) hg (ml _) (R.pos hi) ?_
  repeat (first | refine ws_go ?_ | refine ws_nil ?_ | refine ws_cons ?_ | refine w1_expr ?_ | refine w1_var ?_ | refine w1_tup ?_ | refine w1_ix ?_ | refine w1_par ?_ | refine w1_aug rfl ?_ | refine w1_if ?_ | refine w1_for ?_ | refine w1_ret ?_ | refine w1_retN ?_ | refine w1_pass ?_ | refine w1_doc ?_ | refine w1_brk ?_ | refine w1_cont ?_ | refine we_var rfl ?_ | refine we_int ?_ | refine we_glo rfl ?_ | refine we_bin ?_ | refine we_cmp ?_ | refine we_call ?_ | refine we_ix ?_ | refine we_bi ?_ | refine we_tup ?_ | refine we_lst ?_ | refine we_str ?_ | refine we_bl ?_ | refine we_non ?_ | refine we_neg ?_ | refine we_not ?_ | refine we_and ?_ | refine we_or ?_ | refine we_chain ?_ | refine we_ife ?_ | refine we_sl ?_ | refine we_slr ?_ | refine we_isi ?_ | refine we_me ?_ | refine we_lc ?_ | refine wl_nil ?_ | refine wl_cons ?_ | refine wd_nil ?_ | refine wd_cons ?_ | refine wd_star ?_ | refine wo_none ?_ | refine wo_some ?_ | refine wa_one ?_ | refine wa_cons ?_ | refine wb_one ?_ | refine wb_cons ?_ | refine we_dct ?_ | refine we_dct0 ?_ | refine wp_nil ?_ | refine wp_cons ?_ | refine wt_and ?_ | refine wt_or ?_ | refine wt_not ?_ | refine wt_cmp ?_ | refine wt_chain ?_ | refine wt_val rfl ?_ | refine ww_rng1 ?_ | refine ww_rng2 ?_ | refine ww_itv ?_ | refine lct_nil ?_ | refine lct_one ?_ | refine ro_mul ?_ ?_ | refine ro_mod ?_ (by first | assumption | decide) | refine RO.mk rfl ?_ | refine ⟨_, rfl, ?_⟩ | refine ⟨rfl, ?_⟩)
  have g90 : g < 2 ^ 90 := Nat.lt_trans (prm_g hg) (Nat.lt_of_lt_of_le hl.2.1 (by decide))
  refine ro_repr (pd_ints (ns := [(g : Int), (((g ^ i % p) ^ (p - 2) % p : Nat) : Int)]) MH.get_new_same) (okR_l2 g90 (m90 _)) ?_
  repeat (first | refine ws_go ?_ | refine ws_nil ?_ | refine ws_cons ?_ | refine w1_expr ?_ | refine w1_var ?_ | refine w1_tup ?_ | refine w1_ix ?_ | refine w1_par ?_ | refine w1_aug rfl ?_ | refine w1_if ?_ | refine w1_for ?_ | refine w1_ret ?_ | refine w1_retN ?_ | refine w1_pass ?_ | refine w1_doc ?_ | refine w1_brk ?_ | refine w1_cont ?_ | refine we_var rfl ?_ | refine we_int ?_ | refine we_glo rfl ?_ | refine we_bin ?_ | refine we_cmp ?_ | refine we_call ?_ | refine we_ix ?_ | refine we_bi ?_ | refine we_tup ?_ | refine we_lst ?_ | refine we_str ?_ | refine we_bl ?_ | refine we_non ?_ | refine we_neg ?_ | refine we_not ?_ | refine we_and ?_ | refine we_or ?_ | refine we_chain ?_ | refine we_ife ?_ | refine we_sl ?_ | refine we_slr ?_ | refine we_isi ?_ | refine we_me ?_ | refine we_lc ?_ | refine wl_nil ?_ | refine wl_cons ?_ | refine wd_nil ?_ | refine wd_cons ?_ | refine wd_star ?_ | refine wo_none ?_ | refine wo_some ?_ | refine wa_one ?_ | refine wa_cons ?_ | refine wb_one ?_ | refine wb_cons ?_ | refine we_dct ?_ | refine we_dct0 ?_ | refine wp_nil ?_ | refine wp_cons ?_ | refine wt_and ?_ | refine wt_or ?_ | refine wt_not ?_ | refine wt_cmp ?_ | refine wt_chain ?_ | refine wt_val rfl ?_ | refine ww_rng1 ?_ | refine ww_rng2 ?_ | refine ww_itv ?_ | refine lct_nil ?_ | refine lct_one ?_ | refine ro_mul ?_ ?_ | refine ro_mod ?_ (by first | assumption | decide) | refine RO.mk rfl ?_ | refine ⟨_, rfl, ?_⟩ | refine ⟨rfl, ?_⟩)
  refine w_lback (k := k + 7) hl.1 hl.2.1 ?_
  repeat (first | refine ws_go ?_ | refine ws_nil ?_ | refine ws_cons ?_ | refine w1_expr ?_ | refine w1_var ?_ | refine w1_tup ?_ | refine w1_ix ?_ | refine w1_par ?_ | refine w1_aug rfl ?_ | refine w1_if ?_ | refine w1_for ?_ | refine w1_ret ?_ | refine w1_retN ?_ | refine w1_pass ?_ | refine w1_doc ?_ | refine w1_brk ?_ | refine w1_cont ?_ | refine we_var rfl ?_ | refine we_int ?_ | refine we_glo rfl ?_ | refine we_bin ?_ | refine we_cmp ?_ | refine we_call ?_ | refine we_ix ?_ | refine we_bi ?_ | refine we_tup ?_ | refine we_lst ?_ | refine we_str ?_ | refine we_bl ?_ | refine we_non ?_ | refine we_neg ?_ | refine we_not ?_ | refine we_and ?_ | refine we_or ?_ | refine we_chain ?_ | refine we_ife ?_ | refine we_sl ?_ | refine we_slr ?_ | refine we_isi ?_ | refine we_me ?_ | refine we_lc ?_ | refine wl_nil ?_ | refine wl_cons ?_ | refine wd_nil ?_ | refine wd_cons ?_ | refine wd_star ?_ | refine wo_none ?_ | refine wo_some ?_ | refine wa_one ?_ | refine wa_cons ?_ | refine wb_one ?_ | refine wb_cons ?_ | refine we_dct ?_ | refine we_dct0 ?_ | refine wp_nil ?_ | refine wp_cons ?_ | refine wt_and ?_ | refine wt_or ?_ | refine wt_not ?_ | refine wt_cmp ?_ | refine wt_chain ?_ | refine wt_val rfl ?_ | refine ww_rng1 ?_ | refine ww_rng2 ?_ | refine ww_itv ?_ | refine lct_nil ?_ | refine lct_one ?_ | refine ro_mul ?_ ?_ | refine ro_mod ?_ (by first | assumption | decide) | refine RO.mk rfl ?_ | refine ⟨_, rfl, ?_⟩ | refine ⟨rfl, ?_⟩)
  refine ro_repr (pd_ints (ns := [(g : Int), (((g ^ i % p) ^ (p - 2) % p : Nat) : Int)]) MH.get_new_same) (okR_l2 g90 (m90 _)) ?_
  refine ⟨false, ne_self _ _, ?_⟩
  rw [if_pos rfl]
  repeat (first | refine ws_go ?_ | refine ws_nil ?_ | refine ws_cons ?_ | refine w1_expr ?_ | refine w1_var ?_ | refine w1_tup ?_ | refine w1_ix ?_ | refine w1_par ?_ | refine w1_aug rfl ?_ | refine w1_if ?_ | refine w1_for ?_ | refine w1_ret ?_ | refine w1_retN ?_ | refine w1_pass ?_ | refine w1_doc ?_ | refine w1_brk ?_ | refine w1_cont ?_ | refine we_var rfl ?_ | refine we_int ?_ | refine we_glo rfl ?_ | refine we_bin ?_ | refine we_cmp ?_ | refine we_call ?_ | refine we_ix ?_ | refine we_bi ?_ | refine we_tup ?_ | refine we_lst ?_ | refine we_str ?_ | refine we_bl ?_ | refine we_non ?_ | refine we_neg ?_ | refine we_not ?_ | refine we_and ?_ | refine we_or ?_ | refine we_chain ?_ | refine we_ife ?_ | refine we_sl ?_ | refine we_slr ?_ | refine we_isi ?_ | refine we_me ?_ | refine we_lc ?_ | refine wl_nil ?_ | refine wl_cons ?_ | refine wd_nil ?_ | refine wd_cons ?_ | refine wd_star ?_ | refine wo_none ?_ | refine wo_some ?_ | refine wa_one ?_ | refine wa_cons ?_ | refine wb_one ?_ | refine wb_cons ?_ | refine we_dct ?_ | refine we_dct0 ?_ | refine wp_nil ?_ | refine wp_cons ?_ | refine wt_and ?_ | refine wt_or ?_ | refine wt_not ?_ | refine wt_cmp ?_ | refine wt_chain ?_ | refine wt_val rfl ?_ | refine ww_rng1 ?_ | refine ww_rng2 ?_ | refine ww_itv ?_ | refine lct_nil ?_ | refine lct_one ?_ | refine ro_mul ?_ ?_ | refine ro_mod ?_ (by first | assumption | decide) | refine RO.mk rfl ?_ | refine ⟨_, rfl, ?_⟩ | refine ⟨rfl, ?_⟩)
  refine w_back_by (k := k + 2) hg (ml _) (R.pos hi) ?_
  have hp0 : (0 : Int) < (p : Int) := by omega
  have sm : ∀ x : Nat, ((x % p : Nat) : Int).natAbs < 2 ^ 400000 := fun x => small hl.2.1 (ml x)
  have fer : ∀ t : Nat, g ^ (t * (p - 1)) % p = 1 := fun t => R.of_dvd (Nat.dvd_mul_left _ _)
  repeat (first | refine ws_go ?_ | refine ws_nil ?_ | refine ws_cons ?_ | refine w1_expr ?_ | refine w1_var ?_ | refine w1_tup ?_ | refine w1_ix ?_ | refine w1_par ?_ | refine w1_aug rfl ?_ | refine w1_if ?_ | refine w1_for ?_ | refine w1_ret ?_ | refine w1_retN ?_ | refine w1_pass ?_ | refine w1_doc ?_ | refine w1_brk ?_ | refine w1_cont ?_ | refine we_var rfl ?_ | refine we_int ?_ | refine we_glo rfl ?_ | refine we_bin ?_ | refine we_cmp ?_ | refine we_call ?_ | refine we_ix ?_ | refine we_bi ?_ | refine we_tup ?_ | refine we_lst ?_ | refine we_str ?_ | refine we_bl ?_ | refine we_non ?_ | refine we_neg ?_ | refine we_not ?_ | refine we_and ?_ | refine we_or ?_ | refine we_chain ?_ | refine we_ife ?_ | refine we_sl ?_ | refine we_slr ?_ | refine we_isi ?_ | refine we_me ?_ | refine we_lc ?_ | refine wl_nil ?_ | refine wl_cons ?_ | refine wd_nil ?_ | refine wd_cons ?_ | refine wd_star ?_ | refine wo_none ?_ | refine wo_some ?_ | refine wa_one ?_ | refine wa_cons ?_ | refine wb_one ?_ | refine wb_cons ?_ | refine we_dct ?_ | refine we_dct0 ?_ | refine wp_nil ?_ | refine wp_cons ?_ | refine wt_and ?_ | refine wt_or ?_ | refine wt_not ?_ | refine wt_cmp ?_ | refine wt_chain ?_ | refine wt_val rfl ?_ | refine ww_rng1 ?_ | refine ww_rng2 ?_ | refine ww_itv ?_ | refine lct_nil ?_ | refine lct_one ?_ | refine ro_mul ?_ ?_ | refine ro_mod ?_ (by first | assumption | decide) | refine RO.mk rfl ?_ | refine ⟨_, rfl, ?_⟩ | refine ⟨rfl, ?_⟩)
  · refine ifn_f ?_ ?_
    · rw [cast_mul_mod, fact1 (by omega) fer]; rfl
    repeat (first | refine ws_go ?_ | refine ws_nil ?_ | refine ws_cons ?_ | refine w1_expr ?_ | refine w1_var ?_ | refine w1_tup ?_ | refine w1_ix ?_ | refine w1_par ?_ | refine w1_aug rfl ?_ | refine w1_if ?_ | refine w1_for ?_ | refine w1_ret ?_ | refine w1_retN ?_ | refine w1_pass ?_ | refine w1_doc ?_ | refine w1_brk ?_ | refine w1_cont ?_ | refine we_var rfl ?_ | refine we_int ?_ | refine we_glo rfl ?_ | refine we_bin ?_ | refine we_cmp ?_ | refine we_call ?_ | refine we_ix ?_ | refine we_bi ?_ | refine we_tup ?_ | refine we_lst ?_ | refine we_str ?_ | refine we_bl ?_ | refine we_non ?_ | refine we_neg ?_ | refine we_not ?_ | refine we_and ?_ | refine we_or ?_ | refine we_chain ?_ | refine we_ife ?_ | refine we_sl ?_ | refine we_slr ?_ | refine we_isi ?_ | refine we_me ?_ | refine we_lc ?_ | refine wl_nil ?_ | refine wl_cons ?_ | refine wd_nil ?_ | refine wd_cons ?_ | refine wd_star ?_ | refine wo_none ?_ | refine wo_some ?_ | refine wa_one ?_ | refine wa_cons ?_ | refine wb_one ?_ | refine wb_cons ?_ | refine we_dct ?_ | refine we_dct0 ?_ | refine wp_nil ?_ | refine wp_cons ?_ | refine wt_and ?_ | refine wt_or ?_ | refine wt_not ?_ | refine wt_cmp ?_ | refine wt_chain ?_ | refine wt_val rfl ?_ | refine ww_rng1 ?_ | refine ww_rng2 ?_ | refine ww_itv ?_ | refine lct_nil ?_ | refine lct_one ?_ | refine ro_mul ?_ ?_ | refine ro_mod ?_ (by first | assumption | decide) | refine RO.mk rfl ?_ | refine ⟨_, rfl, ?_⟩ | refine ⟨rfl, ?_⟩)
    have f4 := Fr.new (o := .lst [DI g, DI ((g ^ i % p) ^ (p - 2) % p)]) f3.di
    have f5 := Fr.new (o := .lst [DI g, DI ((g ^ i % p) ^ (p - 2) % p)]) f4.di
    refine w_roll (k := k + 8) (t := 1000) f5.di (by omega) (by decide) (by decide) fun r3 h4 hr3 f6 => ?_
    repeat (first | refine ws_go ?_ | refine ws_nil ?_ | refine ws_cons ?_ | refine w1_expr ?_ | refine w1_var ?_ | refine w1_tup ?_ | refine w1_ix ?_ | refine w1_par ?_ | refine w1_aug rfl ?_ | refine w1_if ?_ | refine w1_for ?_ | refine w1_ret ?_ | refine w1_retN ?_ | refine w1_pass ?_ | refine w1_doc ?_ | refine w1_brk ?_ | refine w1_cont ?_ | refine we_var rfl ?_ | refine we_int ?_ | refine we_glo rfl ?_ | refine we_bin ?_ | refine we_cmp ?_ | refine we_call ?_ | refine we_ix ?_ | refine we_bi ?_ | refine we_tup ?_ | refine we_lst ?_ | refine we_str ?_ | refine we_bl ?_ | refine we_non ?_ | refine we_neg ?_ | refine we_not ?_ | refine we_and ?_ | refine we_or ?_ | refine we_chain ?_ | refine we_ife ?_ | refine we_sl ?_ | refine we_slr ?_ | refine we_isi ?_ | refine we_me ?_ | refine we_lc ?_ | refine wl_nil ?_ | refine wl_cons ?_ | refine wd_nil ?_ | refine wd_cons ?_ | refine wd_star ?_ | refine wo_none ?_ | refine wo_some ?_ | refine wa_one ?_ | refine wa_cons ?_ | refine wb_one ?_ | refine wb_cons ?_ | refine we_dct ?_ | refine we_dct0 ?_ | refine wp_nil ?_ | refine wp_cons ?_ | refine wt_and ?_ | refine wt_or ?_ | refine wt_not ?_ | refine wt_cmp ?_ | refine wt_chain ?_ | refine wt_val rfl ?_ | refine ww_rng1 ?_ | refine ww_rng2 ?_ | refine ww_itv ?_ | refine lct_nil ?_ | refine lct_one ?_ | refine ro_mul ?_ ?_ | refine ro_mod ?_ (by first | assumption | decide) | refine RO.mk rfl ?_ | refine ⟨_, rfl, ?_⟩ | refine ⟨rfl, ?_⟩)
    refine w_roll (k := k + 8) (t := 99) f6.di (by omega) (by decide) (by decide) fun r4 h5 hr4 f7 => ?_
    repeat (first | refine ws_go ?_ | refine ws_nil ?_ | refine ws_cons ?_ | refine w1_expr ?_ | refine w1_var ?_ | refine w1_tup ?_ | refine w1_ix ?_ | refine w1_par ?_ | refine w1_aug rfl ?_ | refine w1_if ?_ | refine w1_for ?_ | refine w1_ret ?_ | refine w1_retN ?_ | refine w1_pass ?_ | refine w1_doc ?_ | refine w1_brk ?_ | refine w1_cont ?_ | refine we_var rfl ?_ | refine we_int ?_ | refine we_glo rfl ?_ | refine we_bin ?_ | refine we_cmp ?_ | refine we_call ?_ | refine we_ix ?_ | refine we_bi ?_ | refine we_tup ?_ | refine we_lst ?_ | refine we_str ?_ | refine we_bl ?_ | refine we_non ?_ | refine we_neg ?_ | refine we_not ?_ | refine we_and ?_ | refine we_or ?_ | refine we_chain ?_ | refine we_ife ?_ | refine we_sl ?_ | refine we_slr ?_ | refine we_isi ?_ | refine we_me ?_ | refine we_lc ?_ | refine wl_nil ?_ | refine wl_cons ?_ | refine wd_nil ?_ | refine wd_cons ?_ | refine wd_star ?_ | refine wo_none ?_ | refine wo_some ?_ | refine wa_one ?_ | refine wa_cons ?_ | refine wb_one ?_ | refine wb_cons ?_ | refine we_dct ?_ | refine we_dct0 ?_ | refine wp_nil ?_ | refine wp_cons ?_ | refine wt_and ?_ | refine wt_or ?_ | refine wt_not ?_ | refine wt_cmp ?_ | refine wt_chain ?_ | refine wt_val rfl ?_ | refine ww_rng1 ?_ | refine ww_rng2 ?_ | refine ww_itv ?_ | refine lct_nil ?_ | refine lct_one ?_ | refine ro_mul ?_ ?_ | refine ro_mod ?_ (by first | assumption | decide) | refine RO.mk rfl ?_ | refine ⟨_, rfl, ?_⟩ | refine ⟨rfl, ?_⟩)
    have f8 := Fr.new (o := .lst [DI 0, DI 1, .int ((p : Int) - 1), DI p, DI r3, .int ((10 : Int) ^ 60 - 1 - (r4 : Int))]) f7.di
    refine w_pick (k := k + 7) f8.di (by omega) (by have := f7.di.lt; omega) MH.get_new_same (by simp) (by simp) fun r5 x h6 hx6 f9 => ?_
    obtain ⟨n', hn', rfl⟩ := pick_n (by omega) hl.2.1 hr3 hr4 hx6
    repeat (first | refine ws_go ?_ | refine ws_nil ?_ | refine ws_cons ?_ | refine w1_expr ?_ | refine w1_var ?_ | refine w1_tup ?_ | refine w1_ix ?_ | refine w1_par ?_ | refine w1_aug rfl ?_ | refine w1_if ?_ | refine w1_for ?_ | refine w1_ret ?_ | refine w1_retN ?_ | refine w1_pass ?_ | refine w1_doc ?_ | refine w1_brk ?_ | refine w1_cont ?_ | refine we_var rfl ?_ | refine we_int ?_ | refine we_glo rfl ?_ | refine we_bin ?_ | refine we_cmp ?_ | refine we_call ?_ | refine we_ix ?_ | refine we_bi ?_ | refine we_tup ?_ | refine we_lst ?_ | refine we_str ?_ | refine we_bl ?_ | refine we_non ?_ | refine we_neg ?_ | refine we_not ?_ | refine we_and ?_ | refine we_or ?_ | refine we_chain ?_ | refine we_ife ?_ | refine we_sl ?_ | refine we_slr ?_ | refine we_isi ?_ | refine we_me ?_ | refine we_lc ?_ | refine wl_nil ?_ | refine wl_cons ?_ | refine wd_nil ?_ | refine wd_cons ?_ | refine wd_star ?_ | refine wo_none ?_ | refine wo_some ?_ | refine wa_one ?_ | refine wa_cons ?_ | refine wb_one ?_ | refine wb_cons ?_ | refine we_dct ?_ | refine we_dct0 ?_ | refine wp_nil ?_ | refine wp_cons ?_ | refine wt_and ?_ | refine wt_or ?_ | refine wt_not ?_ | refine wt_cmp ?_ | refine wt_chain ?_ | refine wt_val rfl ?_ | refine ww_rng1 ?_ | refine ww_rng2 ?_ | refine ww_itv ?_ | refine lct_nil ?_ | refine lct_one ?_ | refine ro_mul ?_ ?_ | refine ro_mod ?_ (by first | assumption | decide) | refine RO.mk rfl ?_ | refine ⟨_, rfl, ?_⟩ | refine ⟨rfl, ?_⟩)
    refine w_power_by (k := k + 3) hg (ml _) hn' ?_
    repeat (first | refine ws_go ?_ | refine ws_nil ?_ | refine ws_cons ?_ | refine w1_expr ?_ | refine w1_var ?_ | refine w1_tup ?_ | refine w1_ix ?_ | refine w1_par ?_ | refine w1_aug rfl ?_ | refine w1_if ?_ | refine w1_for ?_ | refine w1_ret ?_ | refine w1_retN ?_ | refine w1_pass ?_ | refine w1_doc ?_ | refine w1_brk ?_ | refine w1_cont ?_ | refine we_var rfl ?_ | refine we_int ?_ | refine we_glo rfl ?_ | refine we_bin ?_ | refine we_cmp ?_ | refine we_call ?_ | refine we_ix ?_ | refine we_bi ?_ | refine we_tup ?_ | refine we_lst ?_ | refine we_str ?_ | refine we_bl ?_ | refine we_non ?_ | refine we_neg ?_ | refine we_not ?_ | refine we_and ?_ | refine we_or ?_ | refine we_chain ?_ | refine we_ife ?_ | refine we_sl ?_ | refine we_slr ?_ | refine we_isi ?_ | refine we_me ?_ | refine we_lc ?_ | refine wl_nil ?_ | refine wl_cons ?_ | refine wd_nil ?_ | refine wd_cons ?_ | refine wd_star ?_ | refine wo_none ?_ | refine wo_some ?_ | refine wa_one ?_ | refine wa_cons ?_ | refine wb_one ?_ | refine wb_cons ?_ | refine we_dct ?_ | refine we_dct0 ?_ | refine wp_nil ?_ | refine wp_cons ?_ | refine wt_and ?_ | refine wt_or ?_ | refine wt_not ?_ | refine wt_cmp ?_ | refine wt_chain ?_ | refine wt_val rfl ?_ | refine ww_rng1 ?_ | refine ww_rng2 ?_ | refine ww_itv ?_ | refine lct_nil ?_ | refine lct_one ?_ | refine ro_mul ?_ ?_ | refine ro_mod ?_ (by first | assumption | decide) | refine RO.mk rfl ?_ | refine ⟨_, rfl, ?_⟩ | refine ⟨rfl, ?_⟩)
    refine ro_repr pd_int (okR_nat (m90 _)) ?_
    repeat (first | refine ws_go ?_ | refine ws_nil ?_ | refine ws_cons ?_ | refine w1_expr ?_ | refine w1_var ?_ | refine w1_tup ?_ | refine w1_ix ?_ | refine w1_par ?_ | refine w1_aug rfl ?_ | refine w1_if ?_ | refine w1_for ?_ | refine w1_ret ?_ | refine w1_retN ?_ | refine w1_pass ?_ | refine w1_doc ?_ | refine w1_brk ?_ | refine w1_cont ?_ | refine we_var rfl ?_ | refine we_int ?_ | refine we_glo rfl ?_ | refine we_bin ?_ | refine we_cmp ?_ | refine we_call ?_ | refine we_ix ?_ | refine we_bi ?_ | refine we_tup ?_ | refine we_lst ?_ | refine we_str ?_ | refine we_bl ?_ | refine we_non ?_ | refine we_neg ?_ | refine we_not ?_ | refine we_and ?_ | refine we_or ?_ | refine we_chain ?_ | refine we_ife ?_ | refine we_sl ?_ | refine we_slr ?_ | refine we_isi ?_ | refine we_me ?_ | refine we_lc ?_ | refine wl_nil ?_ | refine wl_cons ?_ | refine wd_nil ?_ | refine wd_cons ?_ | refine wd_star ?_ | refine wo_none ?_ | refine wo_some ?_ | refine wa_one ?_ | refine wa_cons ?_ | refine wb_one ?_ | refine wb_cons ?_ | refine we_dct ?_ | refine we_dct0 ?_ | refine wp_nil ?_ | refine wp_cons ?_ | refine wt_and ?_ | refine wt_or ?_ | refine wt_not ?_ | refine wt_cmp ?_ | refine wt_chain ?_ | refine wt_val rfl ?_ | refine ww_rng1 ?_ | refine ww_rng2 ?_ | refine ww_itv ?_ | refine lct_nil ?_ | refine lct_one ?_ | refine ro_mul ?_ ?_ | refine ro_mod ?_ (by first | assumption | decide) | refine RO.mk rfl ?_ | refine ⟨_, rfl, ?_⟩ | refine ⟨rfl, ?_⟩)
    refine w_lpower (k := k + 8) hl.1 hl.2.1 ?_
    repeat (first | refine ws_go ?_ | refine ws_nil ?_ | refine ws_cons ?_ | refine w1_expr ?_ | refine w1_var ?_ | refine w1_tup ?_ | refine w1_ix ?_ | refine w1_par ?_ | refine w1_aug rfl ?_ | refine w1_if ?_ | refine w1_for ?_ | refine w1_ret ?_ | refine w1_retN ?_ | refine w1_pass ?_ | refine w1_doc ?_ | refine w1_brk ?_ | refine w1_cont ?_ | refine we_var rfl ?_ | refine we_int ?_ | refine we_glo rfl ?_ | refine we_bin ?_ | refine we_cmp ?_ | refine we_call ?_ | refine we_ix ?_ | refine we_bi ?_ | refine we_tup ?_ | refine we_lst ?_ | refine we_str ?_ | refine we_bl ?_ | refine we_non ?_ | refine we_neg ?_ | refine we_not ?_ | refine we_and ?_ | refine we_or ?_ | refine we_chain ?_ | refine we_ife ?_ | refine we_sl ?_ | refine we_slr ?_ | refine we_isi ?_ | refine we_me ?_ | refine we_lc ?_ | refine wl_nil ?_ | refine wl_cons ?_ | refine wd_nil ?_ | refine wd_cons ?_ | refine wd_star ?_ | refine wo_none ?_ | refine wo_some ?_ | refine wa_one ?_ | refine wa_cons ?_ | refine wb_one ?_ | refine wb_cons ?_ | refine we_dct ?_ | refine we_dct0 ?_ | refine wp_nil ?_ | refine wp_cons ?_ | refine wt_and ?_ | refine wt_or ?_ | refine wt_not ?_ | refine wt_cmp ?_ | refine wt_chain ?_ | refine wt_val rfl ?_ | refine ww_rng1 ?_ | refine ww_rng2 ?_ | refine ww_itv ?_ | refine lct_nil ?_ | refine lct_one ?_ | refine ro_mul ?_ ?_ | refine ro_mod ?_ (by first | assumption | decide) | refine RO.mk rfl ?_ | refine ⟨_, rfl, ?_⟩ | refine ⟨rfl, ?_⟩)
    refine ro_repr pd_int (okR_nat (m90 _)) ?_
    refine ⟨false, ne_self _ _, ?_⟩
    rw [if_neg Bool.false_ne_true]
    repeat (first | refine ws_go ?_ | refine ws_nil ?_ | refine ws_cons ?_ | refine w1_expr ?_ | refine w1_var ?_ | refine w1_tup ?_ | refine w1_ix ?_ | refine w1_par ?_ | refine w1_aug rfl ?_ | refine w1_if ?_ | refine w1_for ?_ | refine w1_ret ?_ | refine w1_retN ?_ | refine w1_pass ?_ | refine w1_doc ?_ | refine w1_brk ?_ | refine w1_cont ?_ | refine we_var rfl ?_ | refine we_int ?_ | refine we_glo rfl ?_ | refine we_bin ?_ | refine we_cmp ?_ | refine we_call ?_ | refine we_ix ?_ | refine we_bi ?_ | refine we_tup ?_ | refine we_lst ?_ | refine we_str ?_ | refine we_bl ?_ | refine we_non ?_ | refine we_neg ?_ | refine we_not ?_ | refine we_and ?_ | refine we_or ?_ | refine we_chain ?_ | refine we_ife ?_ | refine we_sl ?_ | refine we_slr ?_ | refine we_isi ?_ | refine we_me ?_ | refine we_lc ?_ | refine wl_nil ?_ | refine wl_cons ?_ | refine wd_nil ?_ | refine wd_cons ?_ | refine wd_star ?_ | refine wo_none ?_ | refine wo_some ?_ | refine wa_one ?_ | refine wa_cons ?_ | refine wb_one ?_ | refine wb_cons ?_ | refine we_dct ?_ | refine we_dct0 ?_ | refine wp_nil ?_ | refine wp_cons ?_ | refine wt_and ?_ | refine wt_or ?_ | refine wt_not ?_ | refine wt_cmp ?_ | refine wt_chain ?_ | refine wt_val rfl ?_ | refine ww_rng1 ?_ | refine ww_rng2 ?_ | refine ww_itv ?_ | refine lct_nil ?_ | refine lct_one ?_ | refine ro_mul ?_ ?_ | refine ro_mod ?_ (by first | assumption | decide) | refine RO.mk rfl ?_ | refine ⟨_, rfl, ?_⟩ | refine ⟨rfl, ?_⟩)
    have p5 : ∀ h7 : MH, Dice d (n + 100) h7 → WSt P (k + 9) (b__law_right.drop 7)
        [some (.ref d), some (DI p), some (DI (g ^ i % p)), some (DI (g ^ j % p)), some (DI g), some (DI n'), none, none] h7 { nx := fun _ h => Q .non h, rt := Q } := by
      intro h7 hd7
      repeat (first | refine ws_go ?_ | refine ws_nil ?_ | refine ws_cons ?_ | refine w1_expr ?_ | refine w1_var ?_ | refine w1_tup ?_ | refine w1_ix ?_ | refine w1_par ?_ | refine w1_aug rfl ?_ | refine w1_if ?_ | refine w1_for ?_ | refine w1_ret ?_ | refine w1_retN ?_ | refine w1_pass ?_ | refine w1_doc ?_ | refine w1_brk ?_ | refine w1_cont ?_ | refine we_var rfl ?_ | refine we_int ?_ | refine we_glo rfl ?_ | refine we_bin ?_ | refine we_cmp ?_ | refine we_call ?_ | refine we_ix ?_ | refine we_bi ?_ | refine we_tup ?_ | refine we_lst ?_ | refine we_str ?_ | refine we_bl ?_ | refine we_non ?_ | refine we_neg ?_ | refine we_not ?_ | refine we_and ?_ | refine we_or ?_ | refine we_chain ?_ | refine we_ife ?_ | refine we_sl ?_ | refine we_slr ?_ | refine we_isi ?_ | refine we_me ?_ | refine we_lc ?_ | refine wl_nil ?_ | refine wl_cons ?_ | refine wd_nil ?_ | refine wd_cons ?_ | refine wd_star ?_ | refine wo_none ?_ | refine wo_some ?_ | refine wa_one ?_ | refine wa_cons ?_ | refine wb_one ?_ | refine wb_cons ?_ | refine we_dct ?_ | refine we_dct0 ?_ | refine wp_nil ?_ | refine wp_cons ?_ | refine wt_and ?_ | refine wt_or ?_ | refine wt_not ?_ | refine wt_cmp ?_ | refine wt_chain ?_ | refine wt_val rfl ?_ | refine ww_rng1 ?_ | refine ww_rng2 ?_ | refine ww_itv ?_ | refine lct_nil ?_ | refine lct_one ?_ | refine ro_mul ?_ ?_ | refine ro_mod ?_ (by first | assumption | decide) | refine RO.mk rfl ?_ | refine ⟨_, rfl, ?_⟩ | refine ⟨rfl, ?_⟩)
      refine w_power_by (k := k + 3) (a := 0) hg (by omega) hn' ?_
      repeat (first | refine ws_go ?_ | refine ws_nil ?_ | refine ws_cons ?_ | refine w1_expr ?_ | refine w1_var ?_ | refine w1_tup ?_ | refine w1_ix ?_ | refine w1_par ?_ | refine w1_aug rfl ?_ | refine w1_if ?_ | refine w1_for ?_ | refine w1_ret ?_ | refine w1_retN ?_ | refine w1_pass ?_ | refine w1_doc ?_ | refine w1_brk ?_ | refine w1_cont ?_ | refine we_var rfl ?_ | refine we_int ?_ | refine we_glo rfl ?_ | refine we_bin ?_ | refine we_cmp ?_ | refine we_call ?_ | refine we_ix ?_ | refine we_bi ?_ | refine we_tup ?_ | refine we_lst ?_ | refine we_str ?_ | refine we_bl ?_ | refine we_non ?_ | refine we_neg ?_ | refine we_not ?_ | refine we_and ?_ | refine we_or ?_ | refine we_chain ?_ | refine we_ife ?_ | refine we_sl ?_ | refine we_slr ?_ | refine we_isi ?_ | refine we_me ?_ | refine we_lc ?_ | refine wl_nil ?_ | refine wl_cons ?_ | refine wd_nil ?_ | refine wd_cons ?_ | refine wd_star ?_ | refine wo_none ?_ | refine wo_some ?_ | refine wa_one ?_ | refine wa_cons ?_ | refine wb_one ?_ | refine wb_cons ?_ | refine we_dct ?_ | refine we_dct0 ?_ | refine wp_nil ?_ | refine wp_cons ?_ | refine wt_and ?_ | refine wt_or ?_ | refine wt_not ?_ | refine wt_cmp ?_ | refine wt_chain ?_ | refine wt_val rfl ?_ | refine ww_rng1 ?_ | refine ww_rng2 ?_ | refine ww_itv ?_ | refine lct_nil ?_ | refine lct_one ?_ | refine ro_mul ?_ ?_ | refine ro_mod ?_ (by first | assumption | decide) | refine RO.mk rfl ?_ | refine ⟨_, rfl, ?_⟩ | refine ⟨rfl, ?_⟩)
      refine ifn_f ?_ ?_
      · rw [zero_pow_int hl.1]; by_cases hz : (n' : Int) = 0 <;> simp [hz]
      refine ws_go (ws_nil ?_)
      exact w_tail hg R hi hj (q _ hd7)
    have p4 : ∀ h7 : MH, Dice d (n + 100) h7 → WC P (k + 9) 20 [DI p, DI (g ^ i % p), .int (0 - (n' : Int))] h7 fun x h => x = DI ((((g ^ i % p) ^ (p - 2) % p) ^ n') % p) ∧ h = h7 := by
      intro h7 hd7
      by_cases hz : n' = 0
      · subst hz
        have e : (0 : Int) - ((0 : Nat) : Int) = ((0 : Nat) : Int) := by rfl
        rw [e]
        refine w_power_by (k := k + 3) hg (ml _) (by decide) ?_
        rw [Nat.pow_zero, Nat.pow_zero]
        exact ⟨rfl, rfl⟩
      · rw [Int.zero_sub]
        exact w_power_neg (k := k + 3) hg (ml _) (R.pos hi) (Nat.pos_of_ne_zero hz) hn' ⟨rfl, rfl⟩
    refine (p4 h6 (f9.di.mono (by omega))).imp fun x h e => ?_
    obtain ⟨rfl, rfl⟩ := e
    repeat (first | refine ws_go ?_ | refine ws_nil ?_ | refine ws_cons ?_ | refine w1_expr ?_ | refine w1_var ?_ | refine w1_tup ?_ | refine w1_ix ?_ | refine w1_par ?_ | refine w1_aug rfl ?_ | refine w1_if ?_ | refine w1_for ?_ | refine w1_ret ?_ | refine w1_retN ?_ | refine w1_pass ?_ | refine w1_doc ?_ | refine w1_brk ?_ | refine w1_cont ?_ | refine we_var rfl ?_ | refine we_int ?_ | refine we_glo rfl ?_ | refine we_bin ?_ | refine we_cmp ?_ | refine we_call ?_ | refine we_ix ?_ | refine we_bi ?_ | refine we_tup ?_ | refine we_lst ?_ | refine we_str ?_ | refine we_bl ?_ | refine we_non ?_ | refine we_neg ?_ | refine we_not ?_ | refine we_and ?_ | refine we_or ?_ | refine we_chain ?_ | refine we_ife ?_ | refine we_sl ?_ | refine we_slr ?_ | refine we_isi ?_ | refine we_me ?_ | refine we_lc ?_ | refine wl_nil ?_ | refine wl_cons ?_ | refine wd_nil ?_ | refine wd_cons ?_ | refine wd_star ?_ | refine wo_none ?_ | refine wo_some ?_ | refine wa_one ?_ | refine wa_cons ?_ | refine wb_one ?_ | refine wb_cons ?_ | refine we_dct ?_ | refine we_dct0 ?_ | refine wp_nil ?_ | refine wp_cons ?_ | refine wt_and ?_ | refine wt_or ?_ | refine wt_not ?_ | refine wt_cmp ?_ | refine wt_chain ?_ | refine wt_val rfl ?_ | refine ww_rng1 ?_ | refine ww_rng2 ?_ | refine ww_itv ?_ | refine lct_nil ?_ | refine lct_one ?_ | refine ro_mul ?_ ?_ | refine ro_mod ?_ (by first | assumption | decide) | refine RO.mk rfl ?_ | refine ⟨_, rfl, ?_⟩ | refine ⟨rfl, ?_⟩)
    refine w_lback (k := k + 7) hl.1 hl.2.1 ?_
    repeat (first | refine ws_go ?_ | refine ws_nil ?_ | refine ws_cons ?_ | refine w1_expr ?_ | refine w1_var ?_ | refine w1_tup ?_ | refine w1_ix ?_ | refine w1_par ?_ | refine w1_aug rfl ?_ | refine w1_if ?_ | refine w1_for ?_ | refine w1_ret ?_ | refine w1_retN ?_ | refine w1_pass ?_ | refine w1_doc ?_ | refine w1_brk ?_ | refine w1_cont ?_ | refine we_var rfl ?_ | refine we_int ?_ | refine we_glo rfl ?_ | refine we_bin ?_ | refine we_cmp ?_ | refine we_call ?_ | refine we_ix ?_ | refine we_bi ?_ | refine we_tup ?_ | refine we_lst ?_ | refine we_str ?_ | refine we_bl ?_ | refine we_non ?_ | refine we_neg ?_ | refine we_not ?_ | refine we_and ?_ | refine we_or ?_ | refine we_chain ?_ | refine we_ife ?_ | refine we_sl ?_ | refine we_slr ?_ | refine we_isi ?_ | refine we_me ?_ | refine we_lc ?_ | refine wl_nil ?_ | refine wl_cons ?_ | refine wd_nil ?_ | refine wd_cons ?_ | refine wd_star ?_ | refine wo_none ?_ | refine wo_some ?_ | refine wa_one ?_ | refine wa_cons ?_ | refine wb_one ?_ | refine wb_cons ?_ | refine we_dct ?_ | refine we_dct0 ?_ | refine wp_nil ?_ | refine wp_cons ?_ | refine wt_and ?_ | refine wt_or ?_ | refine wt_not ?_ | refine wt_cmp ?_ | refine wt_chain ?_ | refine wt_val rfl ?_ | refine ww_rng1 ?_ | refine ww_rng2 ?_ | refine ww_itv ?_ | refine lct_nil ?_ | refine lct_one ?_ | refine ro_mul ?_ ?_ | refine ro_mod ?_ (by first | assumption | decide) | refine RO.mk rfl ?_ | refine ⟨_, rfl, ?_⟩ | refine ⟨rfl, ?_⟩)
    refine w_lpower (k := k + 8) hl.1 hl.2.1 ?_
    repeat (first | refine ws_go ?_ | refine ws_nil ?_ | refine ws_cons ?_ | refine w1_expr ?_ | refine w1_var ?_ | refine w1_tup ?_ | refine w1_ix ?_ | refine w1_par ?_ | refine w1_aug rfl ?_ | refine w1_if ?_ | refine w1_for ?_ | refine w1_ret ?_ | refine w1_retN ?_ | refine w1_pass ?_ | refine w1_doc ?_ | refine w1_brk ?_ | refine w1_cont ?_ | refine we_var rfl ?_ | refine we_int ?_ | refine we_glo rfl ?_ | refine we_bin ?_ | refine we_cmp ?_ | refine we_call ?_ | refine we_ix ?_ | refine we_bi ?_ | refine we_tup ?_ | refine we_lst ?_ | refine we_str ?_ | refine we_bl ?_ | refine we_non ?_ | refine we_neg ?_ | refine we_not ?_ | refine we_and ?_ | refine we_or ?_ | refine we_chain ?_ | refine we_ife ?_ | refine we_sl ?_ | refine we_slr ?_ | refine we_isi ?_ | refine we_me ?_ | refine we_lc ?_ | refine wl_nil ?_ | refine wl_cons ?_ | refine wd_nil ?_ | refine wd_cons ?_ | refine wd_star ?_ | refine wo_none ?_ | refine wo_some ?_ | refine wa_one ?_ | refine wa_cons ?_ | refine wb_one ?_ | refine wb_cons ?_ | refine we_dct ?_ | refine we_dct0 ?_ | refine wp_nil ?_ | refine wp_cons ?_ | refine wt_and ?_ | refine wt_or ?_ | refine wt_not ?_ | refine wt_cmp ?_ | refine wt_chain ?_ | refine wt_val rfl ?_ | refine ww_rng1 ?_ | refine ww_rng2 ?_ | refine ww_itv ?_ | refine lct_nil ?_ | refine lct_one ?_ | refine ro_mul ?_ ?_ | refine ro_mod ?_ (by first | assumption | decide) | refine RO.mk rfl ?_ | refine ⟨_, rfl, ?_⟩ | refine ⟨rfl, ?_⟩)
    refine ifz_t rfl ?_
    repeat (first | refine ws_go ?_ | refine ws_nil ?_ | refine ws_cons ?_ | refine w1_expr ?_ | refine w1_var ?_ | refine w1_tup ?_ | refine w1_ix ?_ | refine w1_par ?_ | refine w1_aug rfl ?_ | refine w1_if ?_ | refine w1_for ?_ | refine w1_ret ?_ | refine w1_retN ?_ | refine w1_pass ?_ | refine w1_doc ?_ | refine w1_brk ?_ | refine w1_cont ?_ | refine we_var rfl ?_ | refine we_int ?_ | refine we_glo rfl ?_ | refine we_bin ?_ | refine we_cmp ?_ | refine we_call ?_ | refine we_ix ?_ | refine we_bi ?_ | refine we_tup ?_ | refine we_lst ?_ | refine we_str ?_ | refine we_bl ?_ | refine we_non ?_ | refine we_neg ?_ | refine we_not ?_ | refine we_and ?_ | refine we_or ?_ | refine we_chain ?_ | refine we_ife ?_ | refine we_sl ?_ | refine we_slr ?_ | refine we_isi ?_ | refine we_me ?_ | refine we_lc ?_ | refine wl_nil ?_ | refine wl_cons ?_ | refine wd_nil ?_ | refine wd_cons ?_ | refine wd_star ?_ | refine wo_none ?_ | refine wo_some ?_ | refine wa_one ?_ | refine wa_cons ?_ | refine wb_one ?_ | refine wb_cons ?_ | refine we_dct ?_ | refine we_dct0 ?_ | refine wp_nil ?_ | refine wp_cons ?_ | refine wt_and ?_ | refine wt_or ?_ | refine wt_not ?_ | refine wt_cmp ?_ | refine wt_chain ?_ | refine wt_val rfl ?_ | refine ww_rng1 ?_ | refine ww_rng2 ?_ | refine ww_itv ?_ | refine lct_nil ?_ | refine lct_one ?_ | refine ro_mul ?_ ?_ | refine ro_mod ?_ (by first | assumption | decide) | refine RO.mk rfl ?_ | refine ⟨_, rfl, ?_⟩ | refine ⟨rfl, ?_⟩)
    rw [ep]
    refine w_power_by (k := k + 3) hg (ml _) (by omega) ?_
    repeat (first | refine ws_go ?_ | refine ws_nil ?_ | refine ws_cons ?_ | refine w1_expr ?_ | refine w1_var ?_ | refine w1_tup ?_ | refine w1_ix ?_ | refine w1_par ?_ | refine w1_aug rfl ?_ | refine w1_if ?_ | refine w1_for ?_ | refine w1_ret ?_ | refine w1_retN ?_ | refine w1_pass ?_ | refine w1_doc ?_ | refine w1_brk ?_ | refine w1_cont ?_ | refine we_var rfl ?_ | refine we_int ?_ | refine we_glo rfl ?_ | refine we_bin ?_ | refine we_cmp ?_ | refine we_call ?_ | refine we_ix ?_ | refine we_bi ?_ | refine we_tup ?_ | refine we_lst ?_ | refine we_str ?_ | refine we_bl ?_ | refine we_non ?_ | refine we_neg ?_ | refine we_not ?_ | refine we_and ?_ | refine we_or ?_ | refine we_chain ?_ | refine we_ife ?_ | refine we_sl ?_ | refine we_slr ?_ | refine we_isi ?_ | refine we_me ?_ | refine we_lc ?_ | refine wl_nil ?_ | refine wl_cons ?_ | refine wd_nil ?_ | refine wd_cons ?_ | refine wd_star ?_ | refine wo_none ?_ | refine wo_some ?_ | refine wa_one ?_ | refine wa_cons ?_ | refine wb_one ?_ | refine wb_cons ?_ | refine we_dct ?_ | refine we_dct0 ?_ | refine wp_nil ?_ | refine wp_cons ?_ | refine wt_and ?_ | refine wt_or ?_ | refine wt_not ?_ | refine wt_cmp ?_ | refine wt_chain ?_ | refine wt_val rfl ?_ | refine ww_rng1 ?_ | refine ww_rng2 ?_ | refine ww_itv ?_ | refine lct_nil ?_ | refine lct_one ?_ | refine ro_mul ?_ ?_ | refine ro_mod ?_ (by first | assumption | decide) | refine RO.mk rfl ?_ | refine ⟨_, rfl, ?_⟩ | refine ⟨rfl, ?_⟩)
    refine ifn_f ?_ ?_
    · rw [pwm, fer]; rfl
    refine ws_go (ws_nil ?_)
    exact p5 _ (f9.di.mono (by omega))
  · exact mul_ok (sm _) (sm _)
end
end Hd
namespace Hd
open PySem MP NT
section
variable {k : Nat} {h : MH} {Q : MP.D → MH → Prop}
theorem callD_nil {P : MP.Prog} {r : MP.Rec} {i : Nat} {fn : Fn} {ds : List MP.D} {d : MP.D} (hf : P.fns[i]? = some fn) (hp : fn.pur = true) (e : callD P r i ds MH.nil = .ok d MH.nil) (h : MH) : callD P r i ds h = .ok d h := by
  unfold callD at *
  rw [hf] at *
  dsimp only at *
  rw [hp] at *
  split at e
  · rename_i h1
    rw [if_pos h1]
    rw [if_pos rfl] at *
    split at e
    · rename_i h2
      rw [if_pos h2]
      split at e
      · split at e
        · rename_i h3
          rw [if_pos h3]
          cases e
          rfl
        · cases e
      · split at e <;> cases e
      · cases e
    · cases e
  · cases e
theorem wc_eval {P : MP.Prog} {i N : Nat} {fn : Fn} {ds : List MP.D} {d : MP.D} (hf : P.fns[i]? = some fn) (hp : fn.pur = true) (e : evk P N (k + 1) i ds MH.nil = .ok d MH.nil) (q : Q d h) : WC P (k + 1) i ds h Q :=
  ⟨N, d, h, callD_nil hf hp e h, q⟩
theorem turns {d : Nat} {s0 x1 x4 x5 : Option MP.D} : ∀ (L : List MP.D) (n : Nat) (h : MH) (x3 : Option MP.D) (K : Kt), Dice d n h → n + 100 * L.length < 2 ^ 50 → (∀ h x3, K.nx [s0, x1, some (.ref d), x3, x4, x5] h) →
    WFD P (k + 10) (.var 3) [.ifs (.not (.call 31 [.var 2])) [.ret (.bl false)] []] L [s0, x1, some (.ref d), x3, x4, x5] h K := by
  intro L
  induction L with
  | nil => intro n h x3 K _ _ hK; exact hK h x3
  | cons y L ih =>
    intro n h x3 K hd hn hK
    rw [List.length_cons] at hn
    refine ⟨_, rfl, ?_⟩
    repeat (first | refine ws_go ?_ | refine ws_nil ?_ | refine ws_cons ?_ | refine w1_expr ?_ | refine w1_var ?_ | refine w1_tup ?_ | refine w1_ix ?_ | refine w1_par ?_ | refine w1_aug rfl ?_ | refine w1_if ?_ | refine w1_for ?_ | refine w1_ret ?_ | refine w1_retN ?_ | refine w1_pass ?_ | refine w1_doc ?_ | refine w1_brk ?_ | refine w1_cont ?_ | refine we_var rfl ?_ | refine we_int ?_ | refine we_glo rfl ?_ | refine we_bin ?_ | refine we_cmp ?_ | refine we_call ?_ | refine we_ix ?_ | refine we_bi ?_ | refine we_tup ?_ | refine we_lst ?_ | refine we_str ?_ | refine we_bl ?_ | refine we_non ?_ | refine we_neg ?_ | refine we_not ?_ | refine we_and ?_ | refine we_or ?_ | refine we_chain ?_ | refine we_ife ?_ | refine we_sl ?_ | refine we_slr ?_ | refine we_isi ?_ | refine we_me ?_ | refine we_lc ?_ | refine wl_nil ?_ | refine wl_cons ?_ | refine wd_nil ?_ | refine wd_cons ?_ | refine wd_star ?_ | refine wo_none ?_ | refine wo_some ?_ | refine wa_one ?_ | refine wa_cons ?_ | refine wb_one ?_ | refine wb_cons ?_ | refine we_dct ?_ | refine we_dct0 ?_ | refine wp_nil ?_ | refine wp_cons ?_ | refine wt_and ?_ | refine wt_or ?_ | refine wt_not ?_ | refine wt_cmp ?_ | refine wt_chain ?_ | refine wt_val rfl ?_ | refine ww_rng1 ?_ | refine ww_rng2 ?_ | refine ww_itv ?_ | refine lct_nil ?_ | refine lct_one ?_ | refine ro_mul ?_ ?_ | refine ro_mod ?_ (by first | assumption | decide) | refine RO.mk rfl ?_ | refine ⟨_, rfl, ?_⟩ | refine ⟨rfl, ?_⟩)
    refine w_right hd (by omega) fun h' hd' => ?_
    repeat (first | refine ws_go ?_ | refine ws_nil ?_ | refine ws_cons ?_ | refine w1_expr ?_ | refine w1_var ?_ | refine w1_tup ?_ | refine w1_ix ?_ | refine w1_par ?_ | refine w1_aug rfl ?_ | refine w1_if ?_ | refine w1_for ?_ | refine w1_ret ?_ | refine w1_retN ?_ | refine w1_pass ?_ | refine w1_doc ?_ | refine w1_brk ?_ | refine w1_cont ?_ | refine we_var rfl ?_ | refine we_int ?_ | refine we_glo rfl ?_ | refine we_bin ?_ | refine we_cmp ?_ | refine we_call ?_ | refine we_ix ?_ | refine we_bi ?_ | refine we_tup ?_ | refine we_lst ?_ | refine we_str ?_ | refine we_bl ?_ | refine we_non ?_ | refine we_neg ?_ | refine we_not ?_ | refine we_and ?_ | refine we_or ?_ | refine we_chain ?_ | refine we_ife ?_ | refine we_sl ?_ | refine we_slr ?_ | refine we_isi ?_ | refine we_me ?_ | refine we_lc ?_ | refine wl_nil ?_ | refine wl_cons ?_ | refine wd_nil ?_ | refine wd_cons ?_ | refine wd_star ?_ | refine wo_none ?_ | refine wo_some ?_ | refine wa_one ?_ | refine wa_cons ?_ | refine wb_one ?_ | refine wb_cons ?_ | refine we_dct ?_ | refine we_dct0 ?_ | refine wp_nil ?_ | refine wp_cons ?_ | refine wt_and ?_ | refine wt_or ?_ | refine wt_not ?_ | refine wt_cmp ?_ | refine wt_chain ?_ | refine wt_val rfl ?_ | refine ww_rng1 ?_ | refine ww_rng2 ?_ | refine ww_itv ?_ | refine lct_nil ?_ | refine lct_one ?_ | refine ro_mul ?_ ?_ | refine ro_mod ?_ (by first | assumption | decide) | refine RO.mk rfl ?_ | refine ⟨_, rfl, ?_⟩ | refine ⟨rfl, ?_⟩)
    exact ih (n + 100) h' _ K hd' (by omega) hK
theorem spots {ns : List Int} : ∀ (is : List Nat) (h : MH) (x1 x2 x3 : Option MP.D) (K : Kt), (∀ i ∈ is, i < 1000) → (∀ h x1 x2 x3, K.nx [some (.rol (ns.map .int)), x1, x2, x3, none, none] h) →
    WFD P (k + 10) (.var 1) [.asg (.var 2) (.call 21 [.var 0, .var 1]), .for_ (.var 3) (.range [.int (6)]) [.ifs (.not (.call 31 [.var 2])) [.ret (.bl false)] []]] (is.map fun (i : Nat) => .int (0 + i * 1)) [some (.rol (ns.map .int)), x1, x2, x3, none, none] h K := by
  intro is
  induction is with
  | nil => intro h x1 x2 x3 K _ hK; exact hK h x1 x2 x3
  | cons i is ih =>
    intro h x1 x2 x3 K hi hK
    have e : (0 + (i : Int) * 1) = (i : Int) := by omega
    show WFD P (k + 10) (.var 1) [.asg (.var 2) (.call 21 [.var 0, .var 1]), .for_ (.var 3) (.range [.int (6)]) [.ifs (.not (.call 31 [.var 2])) [.ret (.bl false)] []]] (MP.D.int (0 + (i : Int) * 1) :: is.map fun (i : Nat) => .int (0 + i * 1)) [some (.rol (ns.map .int)), x1, x2, x3, none, none] h K
    rw [e]
    refine ⟨_, rfl, ?_⟩
    repeat (first | refine ws_go ?_ | refine ws_nil ?_ | refine ws_cons ?_ | refine w1_expr ?_ | refine w1_var ?_ | refine w1_tup ?_ | refine w1_ix ?_ | refine w1_par ?_ | refine w1_aug rfl ?_ | refine w1_if ?_ | refine w1_for ?_ | refine w1_ret ?_ | refine w1_retN ?_ | refine w1_pass ?_ | refine w1_doc ?_ | refine w1_brk ?_ | refine w1_cont ?_ | refine we_var rfl ?_ | refine we_int ?_ | refine we_glo rfl ?_ | refine we_bin ?_ | refine we_cmp ?_ | refine we_call ?_ | refine we_ix ?_ | refine we_bi ?_ | refine we_tup ?_ | refine we_lst ?_ | refine we_str ?_ | refine we_bl ?_ | refine we_non ?_ | refine we_neg ?_ | refine we_not ?_ | refine we_and ?_ | refine we_or ?_ | refine we_chain ?_ | refine we_ife ?_ | refine we_sl ?_ | refine we_slr ?_ | refine we_isi ?_ | refine we_me ?_ | refine we_lc ?_ | refine wl_nil ?_ | refine wl_cons ?_ | refine wd_nil ?_ | refine wd_cons ?_ | refine wd_star ?_ | refine wo_none ?_ | refine wo_some ?_ | refine wa_one ?_ | refine wa_cons ?_ | refine wb_one ?_ | refine wb_cons ?_ | refine we_dct ?_ | refine we_dct0 ?_ | refine wp_nil ?_ | refine wp_cons ?_ | refine wt_and ?_ | refine wt_or ?_ | refine wt_not ?_ | refine wt_cmp ?_ | refine wt_chain ?_ | refine wt_val rfl ?_ | refine ww_rng1 ?_ | refine ww_rng2 ?_ | refine ww_itv ?_ | refine lct_nil ?_ | refine lct_one ?_ | refine ro_mul ?_ ?_ | refine ro_mod ?_ (by first | assumption | decide) | refine RO.mk rfl ?_ | refine ⟨_, rfl, ?_⟩ | refine ⟨rfl, ?_⟩)
    refine w_dice (k := k + 9) (hi i (List.mem_cons_self ..)) fun h' hd => ?_
    repeat (first | refine ws_go ?_ | refine ws_nil ?_ | refine ws_cons ?_ | refine w1_expr ?_ | refine w1_var ?_ | refine w1_tup ?_ | refine w1_ix ?_ | refine w1_par ?_ | refine w1_aug rfl ?_ | refine w1_if ?_ | refine w1_for ?_ | refine w1_ret ?_ | refine w1_retN ?_ | refine w1_pass ?_ | refine w1_doc ?_ | refine w1_brk ?_ | refine w1_cont ?_ | refine we_var rfl ?_ | refine we_int ?_ | refine we_glo rfl ?_ | refine we_bin ?_ | refine we_cmp ?_ | refine we_call ?_ | refine we_ix ?_ | refine we_bi ?_ | refine we_tup ?_ | refine we_lst ?_ | refine we_str ?_ | refine we_bl ?_ | refine we_non ?_ | refine we_neg ?_ | refine we_not ?_ | refine we_and ?_ | refine we_or ?_ | refine we_chain ?_ | refine we_ife ?_ | refine we_sl ?_ | refine we_slr ?_ | refine we_isi ?_ | refine we_me ?_ | refine we_lc ?_ | refine wl_nil ?_ | refine wl_cons ?_ | refine wd_nil ?_ | refine wd_cons ?_ | refine wd_star ?_ | refine wo_none ?_ | refine wo_some ?_ | refine wa_one ?_ | refine wa_cons ?_ | refine wb_one ?_ | refine wb_cons ?_ | refine we_dct ?_ | refine we_dct0 ?_ | refine wp_nil ?_ | refine wp_cons ?_ | refine wt_and ?_ | refine wt_or ?_ | refine wt_not ?_ | refine wt_cmp ?_ | refine wt_chain ?_ | refine wt_val rfl ?_ | refine ww_rng1 ?_ | refine ww_rng2 ?_ | refine ww_itv ?_ | refine lct_nil ?_ | refine lct_one ?_ | refine ro_mul ?_ ?_ | refine ro_mod ?_ (by first | assumption | decide) | refine RO.mk rfl ?_ | refine ⟨_, rfl, ?_⟩ | refine ⟨rfl, ?_⟩)
    refine ⟨by decide, wf_rng ?_⟩
    refine turns _ 0 h' x3 _ hd (by simp [rngL]) fun h'' y3 => ?_
    exact ws_nil (ih h'' _ _ _ K (fun j hj => hi j (List.mem_cons_of_mem _ hj)) hK)
end
section
variable {h : MH} {Q : MP.D → MH → Prop}
def les (d : MP.D) : MP.D := match d with
  | .int i => .int (i - 1)
  | d => d
theorem ne_refs {i j : Nat} {ns : List Int} (e1 : h.get i = some (.lst (ns.map MP.D.int))) (e2 : h.get j = some (.lst (ns.map MP.D.int))) (hs : SeqAt.shaped (.list (ns.map PyData.int)) = true) (he : PyData.eqv (.list (ns.map PyData.int)) (.list (ns.map PyData.int)) = true) :
    cmpD .ne (.ref i) (.ref j) h = some false := by
  have z : eqD h (.ref i) (.ref j) = some true := eq_refs e1 e2 hs he
  show (eqD h (.ref i) (.ref j)).map (!·) = some false
  rw [z]; rfl
theorem er_97 : evk P 100 10 16 [DI 97] MH.nil = .ok (DI 5) MH.nil := by kernel_rfl
theorem eo_97 : evk P 100 10 18 [DI 97, DI 5] MH.nil = .ok (DI 96) MH.nil := by kernel_rfl
theorem er_193 : evk P 100 10 16 [DI 193] MH.nil = .ok (DI 5) MH.nil := by kernel_rfl
theorem eo_193 : evk P 100 10 18 [DI 193, DI 5] MH.nil = .ok (DI 192) MH.nil := by kernel_rfl
theorem er_257 : evk P 100 10 16 [DI 257] MH.nil = .ok (DI 3) MH.nil := by kernel_rfl
theorem eo_257 : evk P 100 10 18 [DI 257, DI 3] MH.nil = .ok (DI 256) MH.nil := by kernel_rfl
theorem er_769 : evk P 100 10 16 [DI 769] MH.nil = .ok (DI 11) MH.nil := by kernel_rfl
theorem eo_769 : evk P 100 10 18 [DI 769, DI 11] MH.nil = .ok (DI 768) MH.nil := by kernel_rfl
theorem er_7681 : evk P 100 10 16 [DI 7681] MH.nil = .ok (DI 17) MH.nil := by kernel_rfl
theorem eo_7681 : evk P 100 10 18 [DI 7681, DI 17] MH.nil = .ok (DI 7680) MH.nil := by kernel_rfl
theorem er_12289 : evk P 100 10 16 [DI 12289] MH.nil = .ok (DI 11) MH.nil := by kernel_rfl
theorem eo_12289 : evk P 100 10 18 [DI 12289, DI 11] MH.nil = .ok (DI 12288) MH.nil := by kernel_rfl
theorem ec_0 : evk P 100 10 17 [DI 97, DI 2] MH.nil = .ok (DI 49) MH.nil := by kernel_rfl
theorem ec_1 : evk P 100 10 20 [DI 97, DI 5, DI 2] MH.nil = .ok (DI 25) MH.nil := by kernel_rfl
theorem ec_2 : evk P 100 10 20 [DI 257, DI 3, .int (-1)] MH.nil = .ok (DI 86) MH.nil := by kernel_rfl
theorem ec_3 : evk P 100 10 18 [DI 97, DI 22] MH.nil = .ok (DI 4) MH.nil := by kernel_rfl
theorem ec_4 : evk P 100 10 18 [DI 97, DI 1] MH.nil = .ok (DI 1) MH.nil := by kernel_rfl
theorem ec_5 : evk P 100 10 19 [DI 97, DI 25] MH.nil = .ok (DI 2) MH.nil := by kernel_rfl
theorem ec_6 : evk P 100 10 20 [DI 97, DI 0, DI 0] MH.nil = .ok (DI 1) MH.nil := by kernel_rfl
theorem ec_7 : evk P 100 10 17 [DI 12289, DI 12288] MH.nil = .ok (DI 12288) MH.nil := by kernel_rfl
theorem ec_8 : evk P 100 10 19 [DI 12289, DI 1] MH.nil = .ok (DI 0) MH.nil := by kernel_rfl
theorem ro_cat {i j : Nat} {xs ys : List MP.D} (e1 : h.get i = some (.lst xs)) (e2 : h.get j = some (.lst ys)) (hl : (xs ++ ys).length ≤ sizeLine) (q : Q (.ref h.n) (h.new (.lst (xs ++ ys)))) : RO (binD .add (.ref i) (.ref j) h) Q := by
  refine ⟨_, _, ?_, q⟩
  show (match h.get i, h.get j with
    | some (.lst xs), some (.lst ys) => newL h (xs ++ ys)
    | _, _ => .bad) = _
  rw [e1, e2]
  show newL h (xs ++ ys) = _
  unfold newL
  rw [if_pos hl]
theorem w_ord_7681 (q : Q (DI 2) h) : WC P 10 18 [DI 7681, DI 7680] h Q := by
  have hg : Prm 7681 17 := .inr (.inr (.inr (.inr (.inl ⟨rfl, rfl⟩))))
  obtain ⟨qs, R⟩ := hg.root
  have e : (17 : Nat) ^ 3840 % 7681 = 7680 := by
    rw [← pm_ok 7681 20 17 3840 (by decide)]
    decide +kernel
  have z := w_order_by (k := 3) (Q := Q) (h := h) (i := 3840) hg R (by decide) q
  rw [e] at z
  exact z
theorem w_end {ns : List Int} {x1 x2 x3 : Option MP.D} (q : ∀ h', Q (.bl true) h') : WSt P 10 (b_law.drop 1) [some (.rol (ns.map .int)), x1, x2, x3, none, none] h { nx := fun _ h => Q .non h, rt := Q } := by
  repeat (first | refine ws_go ?_ | refine ws_nil ?_ | refine ws_cons ?_ | refine w1_expr ?_ | refine w1_var ?_ | refine w1_tup ?_ | refine w1_ix ?_ | refine w1_par ?_ | refine w1_aug rfl ?_ | refine w1_if ?_ | refine w1_for ?_ | refine w1_ret ?_ | refine w1_retN ?_ | refine w1_pass ?_ | refine w1_doc ?_ | refine w1_brk ?_ | refine w1_cont ?_ | refine we_var rfl ?_ | refine we_int ?_ | refine we_glo rfl ?_ | refine we_bin ?_ | refine we_cmp ?_ | refine we_call ?_ | refine we_ix ?_ | refine we_bi ?_ | refine we_tup ?_ | refine we_lst ?_ | refine we_str ?_ | refine we_bl ?_ | refine we_non ?_ | refine we_neg ?_ | refine we_not ?_ | refine we_and ?_ | refine we_or ?_ | refine we_chain ?_ | refine we_ife ?_ | refine we_sl ?_ | refine we_slr ?_ | refine we_isi ?_ | refine we_me ?_ | refine we_lc ?_ | refine wl_nil ?_ | refine wl_cons ?_ | refine wd_nil ?_ | refine wd_cons ?_ | refine wd_star ?_ | refine wo_none ?_ | refine wo_some ?_ | refine wa_one ?_ | refine wa_cons ?_ | refine wb_one ?_ | refine wb_cons ?_ | refine we_dct ?_ | refine we_dct0 ?_ | refine wp_nil ?_ | refine wp_cons ?_ | refine wt_and ?_ | refine wt_or ?_ | refine wt_not ?_ | refine wt_cmp ?_ | refine wt_chain ?_ | refine wt_val rfl ?_ | refine ww_rng1 ?_ | refine ww_rng2 ?_ | refine ww_itv ?_ | refine lct_nil ?_ | refine lct_one ?_ | refine ro_mul ?_ ?_ | refine ro_mod ?_ (by first | assumption | decide) | refine RO.mk rfl ?_ | refine ⟨_, rfl, ?_⟩ | refine ⟨rfl, ?_⟩)
  refine w_primes (k := 9) ?_
  repeat (first | refine ws_go ?_ | refine ws_nil ?_ | refine ws_cons ?_ | refine w1_expr ?_ | refine w1_var ?_ | refine w1_tup ?_ | refine w1_ix ?_ | refine w1_par ?_ | refine w1_aug rfl ?_ | refine w1_if ?_ | refine w1_for ?_ | refine w1_ret ?_ | refine w1_retN ?_ | refine w1_pass ?_ | refine w1_doc ?_ | refine w1_brk ?_ | refine w1_cont ?_ | refine we_var rfl ?_ | refine we_int ?_ | refine we_glo rfl ?_ | refine we_bin ?_ | refine we_cmp ?_ | refine we_call ?_ | refine we_ix ?_ | refine we_bi ?_ | refine we_tup ?_ | refine we_lst ?_ | refine we_str ?_ | refine we_bl ?_ | refine we_non ?_ | refine we_neg ?_ | refine we_not ?_ | refine we_and ?_ | refine we_or ?_ | refine we_chain ?_ | refine we_ife ?_ | refine we_sl ?_ | refine we_slr ?_ | refine we_isi ?_ | refine we_me ?_ | refine we_lc ?_ | refine wl_nil ?_ | refine wl_cons ?_ | refine wd_nil ?_ | refine wd_cons ?_ | refine wd_star ?_ | refine wo_none ?_ | refine wo_some ?_ | refine wa_one ?_ | refine wa_cons ?_ | refine wb_one ?_ | refine wb_cons ?_ | refine we_dct ?_ | refine we_dct0 ?_ | refine wp_nil ?_ | refine wp_cons ?_ | refine wt_and ?_ | refine wt_or ?_ | refine wt_not ?_ | refine wt_cmp ?_ | refine wt_chain ?_ | refine wt_val rfl ?_ | refine ww_rng1 ?_ | refine ww_rng2 ?_ | refine ww_itv ?_ | refine lct_nil ?_ | refine lct_one ?_ | refine ro_mul ?_ ?_ | refine ro_mod ?_ (by first | assumption | decide) | refine RO.mk rfl ?_ | refine ⟨_, rfl, ?_⟩ | refine ⟨rfl, ?_⟩)
  refine bi_tuple MH.get_new_same ?_
  repeat (first | refine ws_go ?_ | refine ws_nil ?_ | refine ws_cons ?_ | refine w1_expr ?_ | refine w1_var ?_ | refine w1_tup ?_ | refine w1_ix ?_ | refine w1_par ?_ | refine w1_aug rfl ?_ | refine w1_if ?_ | refine w1_for ?_ | refine w1_ret ?_ | refine w1_retN ?_ | refine w1_pass ?_ | refine w1_doc ?_ | refine w1_brk ?_ | refine w1_cont ?_ | refine we_var rfl ?_ | refine we_int ?_ | refine we_glo rfl ?_ | refine we_bin ?_ | refine we_cmp ?_ | refine we_call ?_ | refine we_ix ?_ | refine we_bi ?_ | refine we_tup ?_ | refine we_lst ?_ | refine we_str ?_ | refine we_bl ?_ | refine we_non ?_ | refine we_neg ?_ | refine we_not ?_ | refine we_and ?_ | refine we_or ?_ | refine we_chain ?_ | refine we_ife ?_ | refine we_sl ?_ | refine we_slr ?_ | refine we_isi ?_ | refine we_me ?_ | refine we_lc ?_ | refine wl_nil ?_ | refine wl_cons ?_ | refine wd_nil ?_ | refine wd_cons ?_ | refine wd_star ?_ | refine wo_none ?_ | refine wo_some ?_ | refine wa_one ?_ | refine wa_cons ?_ | refine wb_one ?_ | refine wb_cons ?_ | refine we_dct ?_ | refine we_dct0 ?_ | refine wp_nil ?_ | refine wp_cons ?_ | refine wt_and ?_ | refine wt_or ?_ | refine wt_not ?_ | refine wt_cmp ?_ | refine wt_chain ?_ | refine wt_val rfl ?_ | refine ww_rng1 ?_ | refine ww_rng2 ?_ | refine ww_itv ?_ | refine lct_nil ?_ | refine lct_one ?_ | refine ro_mul ?_ ?_ | refine ro_mod ?_ (by first | assumption | decide) | refine RO.mk rfl ?_ | refine ⟨_, rfl, ?_⟩ | refine ⟨rfl, ?_⟩)
  refine wlc_tup (wlc_map (g := les) (fun d hd => ?_) (by decide) MH.get_new_same ?_)
  · simp only [List.mem_cons, List.not_mem_nil, or_false] at hd
    rcases hd with rfl | rfl | rfl | rfl | rfl | rfl
    · refine ⟨_, rfl, fun h Q q => ?_⟩
      repeat (first | refine ws_go ?_ | refine ws_nil ?_ | refine ws_cons ?_ | refine w1_expr ?_ | refine w1_var ?_ | refine w1_tup ?_ | refine w1_ix ?_ | refine w1_par ?_ | refine w1_aug rfl ?_ | refine w1_if ?_ | refine w1_for ?_ | refine w1_ret ?_ | refine w1_retN ?_ | refine w1_pass ?_ | refine w1_doc ?_ | refine w1_brk ?_ | refine w1_cont ?_ | refine we_var rfl ?_ | refine we_int ?_ | refine we_glo rfl ?_ | refine we_bin ?_ | refine we_cmp ?_ | refine we_call ?_ | refine we_ix ?_ | refine we_bi ?_ | refine we_tup ?_ | refine we_lst ?_ | refine we_str ?_ | refine we_bl ?_ | refine we_non ?_ | refine we_neg ?_ | refine we_not ?_ | refine we_and ?_ | refine we_or ?_ | refine we_chain ?_ | refine we_ife ?_ | refine we_sl ?_ | refine we_slr ?_ | refine we_isi ?_ | refine we_me ?_ | refine we_lc ?_ | refine wl_nil ?_ | refine wl_cons ?_ | refine wd_nil ?_ | refine wd_cons ?_ | refine wd_star ?_ | refine wo_none ?_ | refine wo_some ?_ | refine wa_one ?_ | refine wa_cons ?_ | refine wb_one ?_ | refine wb_cons ?_ | refine we_dct ?_ | refine we_dct0 ?_ | refine wp_nil ?_ | refine wp_cons ?_ | refine wt_and ?_ | refine wt_or ?_ | refine wt_not ?_ | refine wt_cmp ?_ | refine wt_chain ?_ | refine wt_val rfl ?_ | refine ww_rng1 ?_ | refine ww_rng2 ?_ | refine ww_itv ?_ | refine lct_nil ?_ | refine lct_one ?_ | refine ro_mul ?_ ?_ | refine ro_mod ?_ (by first | assumption | decide) | refine RO.mk rfl ?_ | refine ⟨_, rfl, ?_⟩ | refine ⟨rfl, ?_⟩)
      refine wc_eval (k := 9) rfl rfl er_97 ?_
      repeat (first | refine ws_go ?_ | refine ws_nil ?_ | refine ws_cons ?_ | refine w1_expr ?_ | refine w1_var ?_ | refine w1_tup ?_ | refine w1_ix ?_ | refine w1_par ?_ | refine w1_aug rfl ?_ | refine w1_if ?_ | refine w1_for ?_ | refine w1_ret ?_ | refine w1_retN ?_ | refine w1_pass ?_ | refine w1_doc ?_ | refine w1_brk ?_ | refine w1_cont ?_ | refine we_var rfl ?_ | refine we_int ?_ | refine we_glo rfl ?_ | refine we_bin ?_ | refine we_cmp ?_ | refine we_call ?_ | refine we_ix ?_ | refine we_bi ?_ | refine we_tup ?_ | refine we_lst ?_ | refine we_str ?_ | refine we_bl ?_ | refine we_non ?_ | refine we_neg ?_ | refine we_not ?_ | refine we_and ?_ | refine we_or ?_ | refine we_chain ?_ | refine we_ife ?_ | refine we_sl ?_ | refine we_slr ?_ | refine we_isi ?_ | refine we_me ?_ | refine we_lc ?_ | refine wl_nil ?_ | refine wl_cons ?_ | refine wd_nil ?_ | refine wd_cons ?_ | refine wd_star ?_ | refine wo_none ?_ | refine wo_some ?_ | refine wa_one ?_ | refine wa_cons ?_ | refine wb_one ?_ | refine wb_cons ?_ | refine we_dct ?_ | refine we_dct0 ?_ | refine wp_nil ?_ | refine wp_cons ?_ | refine wt_and ?_ | refine wt_or ?_ | refine wt_not ?_ | refine wt_cmp ?_ | refine wt_chain ?_ | refine wt_val rfl ?_ | refine ww_rng1 ?_ | refine ww_rng2 ?_ | refine ww_itv ?_ | refine lct_nil ?_ | refine lct_one ?_ | refine ro_mul ?_ ?_ | refine ro_mod ?_ (by first | assumption | decide) | refine RO.mk rfl ?_ | refine ⟨_, rfl, ?_⟩ | refine ⟨rfl, ?_⟩)
      exact wc_eval (k := 9) rfl rfl eo_97 q
    · refine ⟨_, rfl, fun h Q q => ?_⟩
      repeat (first | refine ws_go ?_ | refine ws_nil ?_ | refine ws_cons ?_ | refine w1_expr ?_ | refine w1_var ?_ | refine w1_tup ?_ | refine w1_ix ?_ | refine w1_par ?_ | refine w1_aug rfl ?_ | refine w1_if ?_ | refine w1_for ?_ | refine w1_ret ?_ | refine w1_retN ?_ | refine w1_pass ?_ | refine w1_doc ?_ | refine w1_brk ?_ | refine w1_cont ?_ | refine we_var rfl ?_ | refine we_int ?_ | refine we_glo rfl ?_ | refine we_bin ?_ | refine we_cmp ?_ | refine we_call ?_ | refine we_ix ?_ | refine we_bi ?_ | refine we_tup ?_ | refine we_lst ?_ | refine we_str ?_ | refine we_bl ?_ | refine we_non ?_ | refine we_neg ?_ | refine we_not ?_ | refine we_and ?_ | refine we_or ?_ | refine we_chain ?_ | refine we_ife ?_ | refine we_sl ?_ | refine we_slr ?_ | refine we_isi ?_ | refine we_me ?_ | refine we_lc ?_ | refine wl_nil ?_ | refine wl_cons ?_ | refine wd_nil ?_ | refine wd_cons ?_ | refine wd_star ?_ | refine wo_none ?_ | refine wo_some ?_ | refine wa_one ?_ | refine wa_cons ?_ | refine wb_one ?_ | refine wb_cons ?_ | refine we_dct ?_ | refine we_dct0 ?_ | refine wp_nil ?_ | refine wp_cons ?_ | refine wt_and ?_ | refine wt_or ?_ | refine wt_not ?_ | refine wt_cmp ?_ | refine wt_chain ?_ | refine wt_val rfl ?_ | refine ww_rng1 ?_ | refine ww_rng2 ?_ | refine ww_itv ?_ | refine lct_nil ?_ | refine lct_one ?_ | refine ro_mul ?_ ?_ | refine ro_mod ?_ (by first | assumption | decide) | refine RO.mk rfl ?_ | refine ⟨_, rfl, ?_⟩ | refine ⟨rfl, ?_⟩)
      refine wc_eval (k := 9) rfl rfl er_193 ?_
      repeat (first | refine ws_go ?_ | refine ws_nil ?_ | refine ws_cons ?_ | refine w1_expr ?_ | refine w1_var ?_ | refine w1_tup ?_ | refine w1_ix ?_ | refine w1_par ?_ | refine w1_aug rfl ?_ | refine w1_if ?_ | refine w1_for ?_ | refine w1_ret ?_ | refine w1_retN ?_ | refine w1_pass ?_ | refine w1_doc ?_ | refine w1_brk ?_ | refine w1_cont ?_ | refine we_var rfl ?_ | refine we_int ?_ | refine we_glo rfl ?_ | refine we_bin ?_ | refine we_cmp ?_ | refine we_call ?_ | refine we_ix ?_ | refine we_bi ?_ | refine we_tup ?_ | refine we_lst ?_ | refine we_str ?_ | refine we_bl ?_ | refine we_non ?_ | refine we_neg ?_ | refine we_not ?_ | refine we_and ?_ | refine we_or ?_ | refine we_chain ?_ | refine we_ife ?_ | refine we_sl ?_ | refine we_slr ?_ | refine we_isi ?_ | refine we_me ?_ | refine we_lc ?_ | refine wl_nil ?_ | refine wl_cons ?_ | refine wd_nil ?_ | refine wd_cons ?_ | refine wd_star ?_ | refine wo_none ?_ | refine wo_some ?_ | refine wa_one ?_ | refine wa_cons ?_ | refine wb_one ?_ | refine wb_cons ?_ | refine we_dct ?_ | refine we_dct0 ?_ | refine wp_nil ?_ | refine wp_cons ?_ | refine wt_and ?_ | refine wt_or ?_ | refine wt_not ?_ | refine wt_cmp ?_ | refine wt_chain ?_ | refine wt_val rfl ?_ | refine ww_rng1 ?_ | refine ww_rng2 ?_ | refine ww_itv ?_ | refine lct_nil ?_ | refine lct_one ?_ | refine ro_mul ?_ ?_ | refine ro_mod ?_ (by first | assumption | decide) | refine RO.mk rfl ?_ | refine ⟨_, rfl, ?_⟩ | refine ⟨rfl, ?_⟩)
      exact wc_eval (k := 9) rfl rfl eo_193 q
    · refine ⟨_, rfl, fun h Q q => ?_⟩
      repeat (first | refine ws_go ?_ | refine ws_nil ?_ | refine ws_cons ?_ | refine w1_expr ?_ | refine w1_var ?_ | refine w1_tup ?_ | refine w1_ix ?_ | refine w1_par ?_ | refine w1_aug rfl ?_ | refine w1_if ?_ | refine w1_for ?_ | refine w1_ret ?_ | refine w1_retN ?_ | refine w1_pass ?_ | refine w1_doc ?_ | refine w1_brk ?_ | refine w1_cont ?_ | refine we_var rfl ?_ | refine we_int ?_ | refine we_glo rfl ?_ | refine we_bin ?_ | refine we_cmp ?_ | refine we_call ?_ | refine we_ix ?_ | refine we_bi ?_ | refine we_tup ?_ | refine we_lst ?_ | refine we_str ?_ | refine we_bl ?_ | refine we_non ?_ | refine we_neg ?_ | refine we_not ?_ | refine we_and ?_ | refine we_or ?_ | refine we_chain ?_ | refine we_ife ?_ | refine we_sl ?_ | refine we_slr ?_ | refine we_isi ?_ | refine we_me ?_ | refine we_lc ?_ | refine wl_nil ?_ | refine wl_cons ?_ | refine wd_nil ?_ | refine wd_cons ?_ | refine wd_star ?_ | refine wo_none ?_ | refine wo_some ?_ | refine wa_one ?_ | refine wa_cons ?_ | refine wb_one ?_ | refine wb_cons ?_ | refine we_dct ?_ | refine we_dct0 ?_ | refine wp_nil ?_ | refine wp_cons ?_ | refine wt_and ?_ | refine wt_or ?_ | refine wt_not ?_ | refine wt_cmp ?_ | refine wt_chain ?_ | refine wt_val rfl ?_ | refine ww_rng1 ?_ | refine ww_rng2 ?_ | refine ww_itv ?_ | refine lct_nil ?_ | refine lct_one ?_ | refine ro_mul ?_ ?_ | refine ro_mod ?_ (by first | assumption | decide) | refine RO.mk rfl ?_ | refine ⟨_, rfl, ?_⟩ | refine ⟨rfl, ?_⟩)
      refine wc_eval (k := 9) rfl rfl er_257 ?_
      repeat (first | refine ws_go ?_ | refine ws_nil ?_ | refine ws_cons ?_ | refine w1_expr ?_ | refine w1_var ?_ | refine w1_tup ?_ | refine w1_ix ?_ | refine w1_par ?_ | refine w1_aug rfl ?_ | refine w1_if ?_ | refine w1_for ?_ | refine w1_ret ?_ | refine w1_retN ?_ | refine w1_pass ?_ | refine w1_doc ?_ | refine w1_brk ?_ | refine w1_cont ?_ | refine we_var rfl ?_ | refine we_int ?_ | refine we_glo rfl ?_ | refine we_bin ?_ | refine we_cmp ?_ | refine we_call ?_ | refine we_ix ?_ | refine we_bi ?_ | refine we_tup ?_ | refine we_lst ?_ | refine we_str ?_ | refine we_bl ?_ | refine we_non ?_ | refine we_neg ?_ | refine we_not ?_ | refine we_and ?_ | refine we_or ?_ | refine we_chain ?_ | refine we_ife ?_ | refine we_sl ?_ | refine we_slr ?_ | refine we_isi ?_ | refine we_me ?_ | refine we_lc ?_ | refine wl_nil ?_ | refine wl_cons ?_ | refine wd_nil ?_ | refine wd_cons ?_ | refine wd_star ?_ | refine wo_none ?_ | refine wo_some ?_ | refine wa_one ?_ | refine wa_cons ?_ | refine wb_one ?_ | refine wb_cons ?_ | refine we_dct ?_ | refine we_dct0 ?_ | refine wp_nil ?_ | refine wp_cons ?_ | refine wt_and ?_ | refine wt_or ?_ | refine wt_not ?_ | refine wt_cmp ?_ | refine wt_chain ?_ | refine wt_val rfl ?_ | refine ww_rng1 ?_ | refine ww_rng2 ?_ | refine ww_itv ?_ | refine lct_nil ?_ | refine lct_one ?_ | refine ro_mul ?_ ?_ | refine ro_mod ?_ (by first | assumption | decide) | refine RO.mk rfl ?_ | refine ⟨_, rfl, ?_⟩ | refine ⟨rfl, ?_⟩)
      exact wc_eval (k := 9) rfl rfl eo_257 q
    · refine ⟨_, rfl, fun h Q q => ?_⟩
      repeat (first | refine ws_go ?_ | refine ws_nil ?_ | refine ws_cons ?_ | refine w1_expr ?_ | refine w1_var ?_ | refine w1_tup ?_ | refine w1_ix ?_ | refine w1_par ?_ | refine w1_aug rfl ?_ | refine w1_if ?_ | refine w1_for ?_ | refine w1_ret ?_ | refine w1_retN ?_ | refine w1_pass ?_ | refine w1_doc ?_ | refine w1_brk ?_ | refine w1_cont ?_ | refine we_var rfl ?_ | refine we_int ?_ | refine we_glo rfl ?_ | refine we_bin ?_ | refine we_cmp ?_ | refine we_call ?_ | refine we_ix ?_ | refine we_bi ?_ | refine we_tup ?_ | refine we_lst ?_ | refine we_str ?_ | refine we_bl ?_ | refine we_non ?_ | refine we_neg ?_ | refine we_not ?_ | refine we_and ?_ | refine we_or ?_ | refine we_chain ?_ | refine we_ife ?_ | refine we_sl ?_ | refine we_slr ?_ | refine we_isi ?_ | refine we_me ?_ | refine we_lc ?_ | refine wl_nil ?_ | refine wl_cons ?_ | refine wd_nil ?_ | refine wd_cons ?_ | refine wd_star ?_ | refine wo_none ?_ | refine wo_some ?_ | refine wa_one ?_ | refine wa_cons ?_ | refine wb_one ?_ | refine wb_cons ?_ | refine we_dct ?_ | refine we_dct0 ?_ | refine wp_nil ?_ | refine wp_cons ?_ | refine wt_and ?_ | refine wt_or ?_ | refine wt_not ?_ | refine wt_cmp ?_ | refine wt_chain ?_ | refine wt_val rfl ?_ | refine ww_rng1 ?_ | refine ww_rng2 ?_ | refine ww_itv ?_ | refine lct_nil ?_ | refine lct_one ?_ | refine ro_mul ?_ ?_ | refine ro_mod ?_ (by first | assumption | decide) | refine RO.mk rfl ?_ | refine ⟨_, rfl, ?_⟩ | refine ⟨rfl, ?_⟩)
      refine wc_eval (k := 9) rfl rfl er_769 ?_
      repeat (first | refine ws_go ?_ | refine ws_nil ?_ | refine ws_cons ?_ | refine w1_expr ?_ | refine w1_var ?_ | refine w1_tup ?_ | refine w1_ix ?_ | refine w1_par ?_ | refine w1_aug rfl ?_ | refine w1_if ?_ | refine w1_for ?_ | refine w1_ret ?_ | refine w1_retN ?_ | refine w1_pass ?_ | refine w1_doc ?_ | refine w1_brk ?_ | refine w1_cont ?_ | refine we_var rfl ?_ | refine we_int ?_ | refine we_glo rfl ?_ | refine we_bin ?_ | refine we_cmp ?_ | refine we_call ?_ | refine we_ix ?_ | refine we_bi ?_ | refine we_tup ?_ | refine we_lst ?_ | refine we_str ?_ | refine we_bl ?_ | refine we_non ?_ | refine we_neg ?_ | refine we_not ?_ | refine we_and ?_ | refine we_or ?_ | refine we_chain ?_ | refine we_ife ?_ | refine we_sl ?_ | refine we_slr ?_ | refine we_isi ?_ | refine we_me ?_ | refine we_lc ?_ | refine wl_nil ?_ | refine wl_cons ?_ | refine wd_nil ?_ | refine wd_cons ?_ | refine wd_star ?_ | refine wo_none ?_ | refine wo_some ?_ | refine wa_one ?_ | refine wa_cons ?_ | refine wb_one ?_ | refine wb_cons ?_ | refine we_dct ?_ | refine we_dct0 ?_ | refine wp_nil ?_ | refine wp_cons ?_ | refine wt_and ?_ | refine wt_or ?_ | refine wt_not ?_ | refine wt_cmp ?_ | refine wt_chain ?_ | refine wt_val rfl ?_ | refine ww_rng1 ?_ | refine ww_rng2 ?_ | refine ww_itv ?_ | refine lct_nil ?_ | refine lct_one ?_ | refine ro_mul ?_ ?_ | refine ro_mod ?_ (by first | assumption | decide) | refine RO.mk rfl ?_ | refine ⟨_, rfl, ?_⟩ | refine ⟨rfl, ?_⟩)
      exact wc_eval (k := 9) rfl rfl eo_769 q
    · refine ⟨_, rfl, fun h Q q => ?_⟩
      repeat (first | refine ws_go ?_ | refine ws_nil ?_ | refine ws_cons ?_ | refine w1_expr ?_ | refine w1_var ?_ | refine w1_tup ?_ | refine w1_ix ?_ | refine w1_par ?_ | refine w1_aug rfl ?_ | refine w1_if ?_ | refine w1_for ?_ | refine w1_ret ?_ | refine w1_retN ?_ | refine w1_pass ?_ | refine w1_doc ?_ | refine w1_brk ?_ | refine w1_cont ?_ | refine we_var rfl ?_ | refine we_int ?_ | refine we_glo rfl ?_ | refine we_bin ?_ | refine we_cmp ?_ | refine we_call ?_ | refine we_ix ?_ | refine we_bi ?_ | refine we_tup ?_ | refine we_lst ?_ | refine we_str ?_ | refine we_bl ?_ | refine we_non ?_ | refine we_neg ?_ | refine we_not ?_ | refine we_and ?_ | refine we_or ?_ | refine we_chain ?_ | refine we_ife ?_ | refine we_sl ?_ | refine we_slr ?_ | refine we_isi ?_ | refine we_me ?_ | refine we_lc ?_ | refine wl_nil ?_ | refine wl_cons ?_ | refine wd_nil ?_ | refine wd_cons ?_ | refine wd_star ?_ | refine wo_none ?_ | refine wo_some ?_ | refine wa_one ?_ | refine wa_cons ?_ | refine wb_one ?_ | refine wb_cons ?_ | refine we_dct ?_ | refine we_dct0 ?_ | refine wp_nil ?_ | refine wp_cons ?_ | refine wt_and ?_ | refine wt_or ?_ | refine wt_not ?_ | refine wt_cmp ?_ | refine wt_chain ?_ | refine wt_val rfl ?_ | refine ww_rng1 ?_ | refine ww_rng2 ?_ | refine ww_itv ?_ | refine lct_nil ?_ | refine lct_one ?_ | refine ro_mul ?_ ?_ | refine ro_mod ?_ (by first | assumption | decide) | refine RO.mk rfl ?_ | refine ⟨_, rfl, ?_⟩ | refine ⟨rfl, ?_⟩)
      refine wc_eval (k := 9) rfl rfl er_7681 ?_
      repeat (first | refine ws_go ?_ | refine ws_nil ?_ | refine ws_cons ?_ | refine w1_expr ?_ | refine w1_var ?_ | refine w1_tup ?_ | refine w1_ix ?_ | refine w1_par ?_ | refine w1_aug rfl ?_ | refine w1_if ?_ | refine w1_for ?_ | refine w1_ret ?_ | refine w1_retN ?_ | refine w1_pass ?_ | refine w1_doc ?_ | refine w1_brk ?_ | refine w1_cont ?_ | refine we_var rfl ?_ | refine we_int ?_ | refine we_glo rfl ?_ | refine we_bin ?_ | refine we_cmp ?_ | refine we_call ?_ | refine we_ix ?_ | refine we_bi ?_ | refine we_tup ?_ | refine we_lst ?_ | refine we_str ?_ | refine we_bl ?_ | refine we_non ?_ | refine we_neg ?_ | refine we_not ?_ | refine we_and ?_ | refine we_or ?_ | refine we_chain ?_ | refine we_ife ?_ | refine we_sl ?_ | refine we_slr ?_ | refine we_isi ?_ | refine we_me ?_ | refine we_lc ?_ | refine wl_nil ?_ | refine wl_cons ?_ | refine wd_nil ?_ | refine wd_cons ?_ | refine wd_star ?_ | refine wo_none ?_ | refine wo_some ?_ | refine wa_one ?_ | refine wa_cons ?_ | refine wb_one ?_ | refine wb_cons ?_ | refine we_dct ?_ | refine we_dct0 ?_ | refine wp_nil ?_ | refine wp_cons ?_ | refine wt_and ?_ | refine wt_or ?_ | refine wt_not ?_ | refine wt_cmp ?_ | refine wt_chain ?_ | refine wt_val rfl ?_ | refine ww_rng1 ?_ | refine ww_rng2 ?_ | refine ww_itv ?_ | refine lct_nil ?_ | refine lct_one ?_ | refine ro_mul ?_ ?_ | refine ro_mod ?_ (by first | assumption | decide) | refine RO.mk rfl ?_ | refine ⟨_, rfl, ?_⟩ | refine ⟨rfl, ?_⟩)
      exact wc_eval (k := 9) rfl rfl eo_7681 q
    · refine ⟨_, rfl, fun h Q q => ?_⟩
      repeat (first | refine ws_go ?_ | refine ws_nil ?_ | refine ws_cons ?_ | refine w1_expr ?_ | refine w1_var ?_ | refine w1_tup ?_ | refine w1_ix ?_ | refine w1_par ?_ | refine w1_aug rfl ?_ | refine w1_if ?_ | refine w1_for ?_ | refine w1_ret ?_ | refine w1_retN ?_ | refine w1_pass ?_ | refine w1_doc ?_ | refine w1_brk ?_ | refine w1_cont ?_ | refine we_var rfl ?_ | refine we_int ?_ | refine we_glo rfl ?_ | refine we_bin ?_ | refine we_cmp ?_ | refine we_call ?_ | refine we_ix ?_ | refine we_bi ?_ | refine we_tup ?_ | refine we_lst ?_ | refine we_str ?_ | refine we_bl ?_ | refine we_non ?_ | refine we_neg ?_ | refine we_not ?_ | refine we_and ?_ | refine we_or ?_ | refine we_chain ?_ | refine we_ife ?_ | refine we_sl ?_ | refine we_slr ?_ | refine we_isi ?_ | refine we_me ?_ | refine we_lc ?_ | refine wl_nil ?_ | refine wl_cons ?_ | refine wd_nil ?_ | refine wd_cons ?_ | refine wd_star ?_ | refine wo_none ?_ | refine wo_some ?_ | refine wa_one ?_ | refine wa_cons ?_ | refine wb_one ?_ | refine wb_cons ?_ | refine we_dct ?_ | refine we_dct0 ?_ | refine wp_nil ?_ | refine wp_cons ?_ | refine wt_and ?_ | refine wt_or ?_ | refine wt_not ?_ | refine wt_cmp ?_ | refine wt_chain ?_ | refine wt_val rfl ?_ | refine ww_rng1 ?_ | refine ww_rng2 ?_ | refine ww_itv ?_ | refine lct_nil ?_ | refine lct_one ?_ | refine ro_mul ?_ ?_ | refine ro_mod ?_ (by first | assumption | decide) | refine RO.mk rfl ?_ | refine ⟨_, rfl, ?_⟩ | refine ⟨rfl, ?_⟩)
      refine wc_eval (k := 9) rfl rfl er_12289 ?_
      repeat (first | refine ws_go ?_ | refine ws_nil ?_ | refine ws_cons ?_ | refine w1_expr ?_ | refine w1_var ?_ | refine w1_tup ?_ | refine w1_ix ?_ | refine w1_par ?_ | refine w1_aug rfl ?_ | refine w1_if ?_ | refine w1_for ?_ | refine w1_ret ?_ | refine w1_retN ?_ | refine w1_pass ?_ | refine w1_doc ?_ | refine w1_brk ?_ | refine w1_cont ?_ | refine we_var rfl ?_ | refine we_int ?_ | refine we_glo rfl ?_ | refine we_bin ?_ | refine we_cmp ?_ | refine we_call ?_ | refine we_ix ?_ | refine we_bi ?_ | refine we_tup ?_ | refine we_lst ?_ | refine we_str ?_ | refine we_bl ?_ | refine we_non ?_ | refine we_neg ?_ | refine we_not ?_ | refine we_and ?_ | refine we_or ?_ | refine we_chain ?_ | refine we_ife ?_ | refine we_sl ?_ | refine we_slr ?_ | refine we_isi ?_ | refine we_me ?_ | refine we_lc ?_ | refine wl_nil ?_ | refine wl_cons ?_ | refine wd_nil ?_ | refine wd_cons ?_ | refine wd_star ?_ | refine wo_none ?_ | refine wo_some ?_ | refine wa_one ?_ | refine wa_cons ?_ | refine wb_one ?_ | refine wb_cons ?_ | refine we_dct ?_ | refine we_dct0 ?_ | refine wp_nil ?_ | refine wp_cons ?_ | refine wt_and ?_ | refine wt_or ?_ | refine wt_not ?_ | refine wt_cmp ?_ | refine wt_chain ?_ | refine wt_val rfl ?_ | refine ww_rng1 ?_ | refine ww_rng2 ?_ | refine ww_itv ?_ | refine lct_nil ?_ | refine lct_one ?_ | refine ro_mul ?_ ?_ | refine ro_mod ?_ (by first | assumption | decide) | refine RO.mk rfl ?_ | refine ⟨_, rfl, ?_⟩ | refine ⟨rfl, ?_⟩)
      exact wc_eval (k := 9) rfl rfl eo_12289 q
  repeat (first | refine ws_go ?_ | refine ws_nil ?_ | refine ws_cons ?_ | refine w1_expr ?_ | refine w1_var ?_ | refine w1_tup ?_ | refine w1_ix ?_ | refine w1_par ?_ | refine w1_aug rfl ?_ | refine w1_if ?_ | refine w1_for ?_ | refine w1_ret ?_ | refine w1_retN ?_ | refine w1_pass ?_ | refine w1_doc ?_ | refine w1_brk ?_ | refine w1_cont ?_ | refine we_var rfl ?_ | refine we_int ?_ | refine we_glo rfl ?_ | refine we_bin ?_ | refine we_cmp ?_ | refine we_call ?_ | refine we_ix ?_ | refine we_bi ?_ | refine we_tup ?_ | refine we_lst ?_ | refine we_str ?_ | refine we_bl ?_ | refine we_non ?_ | refine we_neg ?_ | refine we_not ?_ | refine we_and ?_ | refine we_or ?_ | refine we_chain ?_ | refine we_ife ?_ | refine we_sl ?_ | refine we_slr ?_ | refine we_isi ?_ | refine we_me ?_ | refine we_lc ?_ | refine wl_nil ?_ | refine wl_cons ?_ | refine wd_nil ?_ | refine wd_cons ?_ | refine wd_star ?_ | refine wo_none ?_ | refine wo_some ?_ | refine wa_one ?_ | refine wa_cons ?_ | refine wb_one ?_ | refine wb_cons ?_ | refine we_dct ?_ | refine we_dct0 ?_ | refine wp_nil ?_ | refine wp_cons ?_ | refine wt_and ?_ | refine wt_or ?_ | refine wt_not ?_ | refine wt_cmp ?_ | refine wt_chain ?_ | refine wt_val rfl ?_ | refine ww_rng1 ?_ | refine ww_rng2 ?_ | refine ww_itv ?_ | refine lct_nil ?_ | refine lct_one ?_ | refine ro_mul ?_ ?_ | refine ro_mod ?_ (by first | assumption | decide) | refine RO.mk rfl ?_ | refine ⟨_, rfl, ?_⟩ | refine ⟨rfl, ?_⟩)
  refine wlc_tup (wlc_map (g := les) (fun d hd => ?_) (by decide) MH.get_new_same ?_)
  · simp only [List.mem_cons, List.not_mem_nil, or_false] at hd
    rcases hd with rfl | rfl | rfl | rfl | rfl | rfl <;>
    · refine ⟨_, rfl, fun h Q q => ?_⟩
      repeat (first | refine ws_go ?_ | refine ws_nil ?_ | refine ws_cons ?_ | refine w1_expr ?_ | refine w1_var ?_ | refine w1_tup ?_ | refine w1_ix ?_ | refine w1_par ?_ | refine w1_aug rfl ?_ | refine w1_if ?_ | refine w1_for ?_ | refine w1_ret ?_ | refine w1_retN ?_ | refine w1_pass ?_ | refine w1_doc ?_ | refine w1_brk ?_ | refine w1_cont ?_ | refine we_var rfl ?_ | refine we_int ?_ | refine we_glo rfl ?_ | refine we_bin ?_ | refine we_cmp ?_ | refine we_call ?_ | refine we_ix ?_ | refine we_bi ?_ | refine we_tup ?_ | refine we_lst ?_ | refine we_str ?_ | refine we_bl ?_ | refine we_non ?_ | refine we_neg ?_ | refine we_not ?_ | refine we_and ?_ | refine we_or ?_ | refine we_chain ?_ | refine we_ife ?_ | refine we_sl ?_ | refine we_slr ?_ | refine we_isi ?_ | refine we_me ?_ | refine we_lc ?_ | refine wl_nil ?_ | refine wl_cons ?_ | refine wd_nil ?_ | refine wd_cons ?_ | refine wd_star ?_ | refine wo_none ?_ | refine wo_some ?_ | refine wa_one ?_ | refine wa_cons ?_ | refine wb_one ?_ | refine wb_cons ?_ | refine we_dct ?_ | refine we_dct0 ?_ | refine wp_nil ?_ | refine wp_cons ?_ | refine wt_and ?_ | refine wt_or ?_ | refine wt_not ?_ | refine wt_cmp ?_ | refine wt_chain ?_ | refine wt_val rfl ?_ | refine ww_rng1 ?_ | refine ww_rng2 ?_ | refine ww_itv ?_ | refine lct_nil ?_ | refine lct_one ?_ | refine ro_mul ?_ ?_ | refine ro_mod ?_ (by first | assumption | decide) | refine RO.mk rfl ?_ | refine ⟨_, rfl, ?_⟩ | refine ⟨rfl, ?_⟩)
      exact q
  refine ⟨false, ne_refs (ns := [96, 192, 256, 768, 7680, 12288]) ?_ (MH.get_put_same MH.get_new_same) (by decide +kernel) (by decide +kernel), ?_⟩
  · simp only [MH.new_put]
    rw [MH.get_new (Nat.lt_succ_self _), MH.get_new_same]
    rfl
  rw [if_neg Bool.false_ne_true]
  repeat (first | refine ws_go ?_ | refine ws_nil ?_ | refine ws_cons ?_ | refine w1_expr ?_ | refine w1_var ?_ | refine w1_tup ?_ | refine w1_ix ?_ | refine w1_par ?_ | refine w1_aug rfl ?_ | refine w1_if ?_ | refine w1_for ?_ | refine w1_ret ?_ | refine w1_retN ?_ | refine w1_pass ?_ | refine w1_doc ?_ | refine w1_brk ?_ | refine w1_cont ?_ | refine we_var rfl ?_ | refine we_int ?_ | refine we_glo rfl ?_ | refine we_bin ?_ | refine we_cmp ?_ | refine we_call ?_ | refine we_ix ?_ | refine we_bi ?_ | refine we_tup ?_ | refine we_lst ?_ | refine we_str ?_ | refine we_bl ?_ | refine we_non ?_ | refine we_neg ?_ | refine we_not ?_ | refine we_and ?_ | refine we_or ?_ | refine we_chain ?_ | refine we_ife ?_ | refine we_sl ?_ | refine we_slr ?_ | refine we_isi ?_ | refine we_me ?_ | refine we_lc ?_ | refine wl_nil ?_ | refine wl_cons ?_ | refine wd_nil ?_ | refine wd_cons ?_ | refine wd_star ?_ | refine wo_none ?_ | refine wo_some ?_ | refine wa_one ?_ | refine wa_cons ?_ | refine wb_one ?_ | refine wb_cons ?_ | refine we_dct ?_ | refine we_dct0 ?_ | refine wp_nil ?_ | refine wp_cons ?_ | refine wt_and ?_ | refine wt_or ?_ | refine wt_not ?_ | refine wt_cmp ?_ | refine wt_chain ?_ | refine wt_val rfl ?_ | refine ww_rng1 ?_ | refine ww_rng2 ?_ | refine ww_itv ?_ | refine lct_nil ?_ | refine lct_one ?_ | refine ro_mul ?_ ?_ | refine ro_mod ?_ (by first | assumption | decide) | refine RO.mk rfl ?_ | refine ⟨_, rfl, ?_⟩ | refine ⟨rfl, ?_⟩)
  refine wc_eval (k := 9) rfl rfl ec_0 ?_
  repeat (first | refine ws_go ?_ | refine ws_nil ?_ | refine ws_cons ?_ | refine w1_expr ?_ | refine w1_var ?_ | refine w1_tup ?_ | refine w1_ix ?_ | refine w1_par ?_ | refine w1_aug rfl ?_ | refine w1_if ?_ | refine w1_for ?_ | refine w1_ret ?_ | refine w1_retN ?_ | refine w1_pass ?_ | refine w1_doc ?_ | refine w1_brk ?_ | refine w1_cont ?_ | refine we_var rfl ?_ | refine we_int ?_ | refine we_glo rfl ?_ | refine we_bin ?_ | refine we_cmp ?_ | refine we_call ?_ | refine we_ix ?_ | refine we_bi ?_ | refine we_tup ?_ | refine we_lst ?_ | refine we_str ?_ | refine we_bl ?_ | refine we_non ?_ | refine we_neg ?_ | refine we_not ?_ | refine we_and ?_ | refine we_or ?_ | refine we_chain ?_ | refine we_ife ?_ | refine we_sl ?_ | refine we_slr ?_ | refine we_isi ?_ | refine we_me ?_ | refine we_lc ?_ | refine wl_nil ?_ | refine wl_cons ?_ | refine wd_nil ?_ | refine wd_cons ?_ | refine wd_star ?_ | refine wo_none ?_ | refine wo_some ?_ | refine wa_one ?_ | refine wa_cons ?_ | refine wb_one ?_ | refine wb_cons ?_ | refine we_dct ?_ | refine we_dct0 ?_ | refine wp_nil ?_ | refine wp_cons ?_ | refine wt_and ?_ | refine wt_or ?_ | refine wt_not ?_ | refine wt_cmp ?_ | refine wt_chain ?_ | refine wt_val rfl ?_ | refine ww_rng1 ?_ | refine ww_rng2 ?_ | refine ww_itv ?_ | refine lct_nil ?_ | refine lct_one ?_ | refine ro_mul ?_ ?_ | refine ro_mod ?_ (by first | assumption | decide) | refine RO.mk rfl ?_ | refine ⟨_, rfl, ?_⟩ | refine ⟨rfl, ?_⟩)
  refine wc_eval (k := 9) rfl rfl ec_1 ?_
  repeat (first | refine ws_go ?_ | refine ws_nil ?_ | refine ws_cons ?_ | refine w1_expr ?_ | refine w1_var ?_ | refine w1_tup ?_ | refine w1_ix ?_ | refine w1_par ?_ | refine w1_aug rfl ?_ | refine w1_if ?_ | refine w1_for ?_ | refine w1_ret ?_ | refine w1_retN ?_ | refine w1_pass ?_ | refine w1_doc ?_ | refine w1_brk ?_ | refine w1_cont ?_ | refine we_var rfl ?_ | refine we_int ?_ | refine we_glo rfl ?_ | refine we_bin ?_ | refine we_cmp ?_ | refine we_call ?_ | refine we_ix ?_ | refine we_bi ?_ | refine we_tup ?_ | refine we_lst ?_ | refine we_str ?_ | refine we_bl ?_ | refine we_non ?_ | refine we_neg ?_ | refine we_not ?_ | refine we_and ?_ | refine we_or ?_ | refine we_chain ?_ | refine we_ife ?_ | refine we_sl ?_ | refine we_slr ?_ | refine we_isi ?_ | refine we_me ?_ | refine we_lc ?_ | refine wl_nil ?_ | refine wl_cons ?_ | refine wd_nil ?_ | refine wd_cons ?_ | refine wd_star ?_ | refine wo_none ?_ | refine wo_some ?_ | refine wa_one ?_ | refine wa_cons ?_ | refine wb_one ?_ | refine wb_cons ?_ | refine we_dct ?_ | refine we_dct0 ?_ | refine wp_nil ?_ | refine wp_cons ?_ | refine wt_and ?_ | refine wt_or ?_ | refine wt_not ?_ | refine wt_cmp ?_ | refine wt_chain ?_ | refine wt_val rfl ?_ | refine ww_rng1 ?_ | refine ww_rng2 ?_ | refine ww_itv ?_ | refine lct_nil ?_ | refine lct_one ?_ | refine ro_mul ?_ ?_ | refine ro_mod ?_ (by first | assumption | decide) | refine RO.mk rfl ?_ | refine ⟨_, rfl, ?_⟩ | refine ⟨rfl, ?_⟩)
  refine wc_eval (k := 9) rfl rfl ec_2 ?_
  repeat (first | refine ws_go ?_ | refine ws_nil ?_ | refine ws_cons ?_ | refine w1_expr ?_ | refine w1_var ?_ | refine w1_tup ?_ | refine w1_ix ?_ | refine w1_par ?_ | refine w1_aug rfl ?_ | refine w1_if ?_ | refine w1_for ?_ | refine w1_ret ?_ | refine w1_retN ?_ | refine w1_pass ?_ | refine w1_doc ?_ | refine w1_brk ?_ | refine w1_cont ?_ | refine we_var rfl ?_ | refine we_int ?_ | refine we_glo rfl ?_ | refine we_bin ?_ | refine we_cmp ?_ | refine we_call ?_ | refine we_ix ?_ | refine we_bi ?_ | refine we_tup ?_ | refine we_lst ?_ | refine we_str ?_ | refine we_bl ?_ | refine we_non ?_ | refine we_neg ?_ | refine we_not ?_ | refine we_and ?_ | refine we_or ?_ | refine we_chain ?_ | refine we_ife ?_ | refine we_sl ?_ | refine we_slr ?_ | refine we_isi ?_ | refine we_me ?_ | refine we_lc ?_ | refine wl_nil ?_ | refine wl_cons ?_ | refine wd_nil ?_ | refine wd_cons ?_ | refine wd_star ?_ | refine wo_none ?_ | refine wo_some ?_ | refine wa_one ?_ | refine wa_cons ?_ | refine wb_one ?_ | refine wb_cons ?_ | refine we_dct ?_ | refine we_dct0 ?_ | refine wp_nil ?_ | refine wp_cons ?_ | refine wt_and ?_ | refine wt_or ?_ | refine wt_not ?_ | refine wt_cmp ?_ | refine wt_chain ?_ | refine wt_val rfl ?_ | refine ww_rng1 ?_ | refine ww_rng2 ?_ | refine ww_itv ?_ | refine lct_nil ?_ | refine lct_one ?_ | refine ro_mul ?_ ?_ | refine ro_mod ?_ (by first | assumption | decide) | refine RO.mk rfl ?_ | refine ⟨_, rfl, ?_⟩ | refine ⟨rfl, ?_⟩)
  refine wc_eval (k := 9) rfl rfl ec_3 ?_
  repeat (first | refine ws_go ?_ | refine ws_nil ?_ | refine ws_cons ?_ | refine w1_expr ?_ | refine w1_var ?_ | refine w1_tup ?_ | refine w1_ix ?_ | refine w1_par ?_ | refine w1_aug rfl ?_ | refine w1_if ?_ | refine w1_for ?_ | refine w1_ret ?_ | refine w1_retN ?_ | refine w1_pass ?_ | refine w1_doc ?_ | refine w1_brk ?_ | refine w1_cont ?_ | refine we_var rfl ?_ | refine we_int ?_ | refine we_glo rfl ?_ | refine we_bin ?_ | refine we_cmp ?_ | refine we_call ?_ | refine we_ix ?_ | refine we_bi ?_ | refine we_tup ?_ | refine we_lst ?_ | refine we_str ?_ | refine we_bl ?_ | refine we_non ?_ | refine we_neg ?_ | refine we_not ?_ | refine we_and ?_ | refine we_or ?_ | refine we_chain ?_ | refine we_ife ?_ | refine we_sl ?_ | refine we_slr ?_ | refine we_isi ?_ | refine we_me ?_ | refine we_lc ?_ | refine wl_nil ?_ | refine wl_cons ?_ | refine wd_nil ?_ | refine wd_cons ?_ | refine wd_star ?_ | refine wo_none ?_ | refine wo_some ?_ | refine wa_one ?_ | refine wa_cons ?_ | refine wb_one ?_ | refine wb_cons ?_ | refine we_dct ?_ | refine we_dct0 ?_ | refine wp_nil ?_ | refine wp_cons ?_ | refine wt_and ?_ | refine wt_or ?_ | refine wt_not ?_ | refine wt_cmp ?_ | refine wt_chain ?_ | refine wt_val rfl ?_ | refine ww_rng1 ?_ | refine ww_rng2 ?_ | refine ww_itv ?_ | refine lct_nil ?_ | refine lct_one ?_ | refine ro_mul ?_ ?_ | refine ro_mod ?_ (by first | assumption | decide) | refine RO.mk rfl ?_ | refine ⟨_, rfl, ?_⟩ | refine ⟨rfl, ?_⟩)
  refine wc_eval (k := 9) rfl rfl ec_4 ?_
  repeat (first | refine ws_go ?_ | refine ws_nil ?_ | refine ws_cons ?_ | refine w1_expr ?_ | refine w1_var ?_ | refine w1_tup ?_ | refine w1_ix ?_ | refine w1_par ?_ | refine w1_aug rfl ?_ | refine w1_if ?_ | refine w1_for ?_ | refine w1_ret ?_ | refine w1_retN ?_ | refine w1_pass ?_ | refine w1_doc ?_ | refine w1_brk ?_ | refine w1_cont ?_ | refine we_var rfl ?_ | refine we_int ?_ | refine we_glo rfl ?_ | refine we_bin ?_ | refine we_cmp ?_ | refine we_call ?_ | refine we_ix ?_ | refine we_bi ?_ | refine we_tup ?_ | refine we_lst ?_ | refine we_str ?_ | refine we_bl ?_ | refine we_non ?_ | refine we_neg ?_ | refine we_not ?_ | refine we_and ?_ | refine we_or ?_ | refine we_chain ?_ | refine we_ife ?_ | refine we_sl ?_ | refine we_slr ?_ | refine we_isi ?_ | refine we_me ?_ | refine we_lc ?_ | refine wl_nil ?_ | refine wl_cons ?_ | refine wd_nil ?_ | refine wd_cons ?_ | refine wd_star ?_ | refine wo_none ?_ | refine wo_some ?_ | refine wa_one ?_ | refine wa_cons ?_ | refine wb_one ?_ | refine wb_cons ?_ | refine we_dct ?_ | refine we_dct0 ?_ | refine wp_nil ?_ | refine wp_cons ?_ | refine wt_and ?_ | refine wt_or ?_ | refine wt_not ?_ | refine wt_cmp ?_ | refine wt_chain ?_ | refine wt_val rfl ?_ | refine ww_rng1 ?_ | refine ww_rng2 ?_ | refine ww_itv ?_ | refine lct_nil ?_ | refine lct_one ?_ | refine ro_mul ?_ ?_ | refine ro_mod ?_ (by first | assumption | decide) | refine RO.mk rfl ?_ | refine ⟨_, rfl, ?_⟩ | refine ⟨rfl, ?_⟩)
  refine wc_eval (k := 9) rfl rfl ec_5 ?_
  repeat (first | refine ws_go ?_ | refine ws_nil ?_ | refine ws_cons ?_ | refine w1_expr ?_ | refine w1_var ?_ | refine w1_tup ?_ | refine w1_ix ?_ | refine w1_par ?_ | refine w1_aug rfl ?_ | refine w1_if ?_ | refine w1_for ?_ | refine w1_ret ?_ | refine w1_retN ?_ | refine w1_pass ?_ | refine w1_doc ?_ | refine w1_brk ?_ | refine w1_cont ?_ | refine we_var rfl ?_ | refine we_int ?_ | refine we_glo rfl ?_ | refine we_bin ?_ | refine we_cmp ?_ | refine we_call ?_ | refine we_ix ?_ | refine we_bi ?_ | refine we_tup ?_ | refine we_lst ?_ | refine we_str ?_ | refine we_bl ?_ | refine we_non ?_ | refine we_neg ?_ | refine we_not ?_ | refine we_and ?_ | refine we_or ?_ | refine we_chain ?_ | refine we_ife ?_ | refine we_sl ?_ | refine we_slr ?_ | refine we_isi ?_ | refine we_me ?_ | refine we_lc ?_ | refine wl_nil ?_ | refine wl_cons ?_ | refine wd_nil ?_ | refine wd_cons ?_ | refine wd_star ?_ | refine wo_none ?_ | refine wo_some ?_ | refine wa_one ?_ | refine wa_cons ?_ | refine wb_one ?_ | refine wb_cons ?_ | refine we_dct ?_ | refine we_dct0 ?_ | refine wp_nil ?_ | refine wp_cons ?_ | refine wt_and ?_ | refine wt_or ?_ | refine wt_not ?_ | refine wt_cmp ?_ | refine wt_chain ?_ | refine wt_val rfl ?_ | refine ww_rng1 ?_ | refine ww_rng2 ?_ | refine ww_itv ?_ | refine lct_nil ?_ | refine lct_one ?_ | refine ro_mul ?_ ?_ | refine ro_mod ?_ (by first | assumption | decide) | refine RO.mk rfl ?_ | refine ⟨_, rfl, ?_⟩ | refine ⟨rfl, ?_⟩)
  refine wc_eval (k := 9) rfl rfl ec_6 ?_
  repeat (first | refine ws_go ?_ | refine ws_nil ?_ | refine ws_cons ?_ | refine w1_expr ?_ | refine w1_var ?_ | refine w1_tup ?_ | refine w1_ix ?_ | refine w1_par ?_ | refine w1_aug rfl ?_ | refine w1_if ?_ | refine w1_for ?_ | refine w1_ret ?_ | refine w1_retN ?_ | refine w1_pass ?_ | refine w1_doc ?_ | refine w1_brk ?_ | refine w1_cont ?_ | refine we_var rfl ?_ | refine we_int ?_ | refine we_glo rfl ?_ | refine we_bin ?_ | refine we_cmp ?_ | refine we_call ?_ | refine we_ix ?_ | refine we_bi ?_ | refine we_tup ?_ | refine we_lst ?_ | refine we_str ?_ | refine we_bl ?_ | refine we_non ?_ | refine we_neg ?_ | refine we_not ?_ | refine we_and ?_ | refine we_or ?_ | refine we_chain ?_ | refine we_ife ?_ | refine we_sl ?_ | refine we_slr ?_ | refine we_isi ?_ | refine we_me ?_ | refine we_lc ?_ | refine wl_nil ?_ | refine wl_cons ?_ | refine wd_nil ?_ | refine wd_cons ?_ | refine wd_star ?_ | refine wo_none ?_ | refine wo_some ?_ | refine wa_one ?_ | refine wa_cons ?_ | refine wb_one ?_ | refine wb_cons ?_ | refine we_dct ?_ | refine we_dct0 ?_ | refine wp_nil ?_ | refine wp_cons ?_ | refine wt_and ?_ | refine wt_or ?_ | refine wt_not ?_ | refine wt_cmp ?_ | refine wt_chain ?_ | refine wt_val rfl ?_ | refine ww_rng1 ?_ | refine ww_rng2 ?_ | refine ww_itv ?_ | refine lct_nil ?_ | refine lct_one ?_ | refine ro_mul ?_ ?_ | refine ro_mod ?_ (by first | assumption | decide) | refine RO.mk rfl ?_ | refine ⟨_, rfl, ?_⟩ | refine ⟨rfl, ?_⟩)
  refine wc_eval (k := 9) rfl rfl ec_7 ?_
  repeat (first | refine ws_go ?_ | refine ws_nil ?_ | refine ws_cons ?_ | refine w1_expr ?_ | refine w1_var ?_ | refine w1_tup ?_ | refine w1_ix ?_ | refine w1_par ?_ | refine w1_aug rfl ?_ | refine w1_if ?_ | refine w1_for ?_ | refine w1_ret ?_ | refine w1_retN ?_ | refine w1_pass ?_ | refine w1_doc ?_ | refine w1_brk ?_ | refine w1_cont ?_ | refine we_var rfl ?_ | refine we_int ?_ | refine we_glo rfl ?_ | refine we_bin ?_ | refine we_cmp ?_ | refine we_call ?_ | refine we_ix ?_ | refine we_bi ?_ | refine we_tup ?_ | refine we_lst ?_ | refine we_str ?_ | refine we_bl ?_ | refine we_non ?_ | refine we_neg ?_ | refine we_not ?_ | refine we_and ?_ | refine we_or ?_ | refine we_chain ?_ | refine we_ife ?_ | refine we_sl ?_ | refine we_slr ?_ | refine we_isi ?_ | refine we_me ?_ | refine we_lc ?_ | refine wl_nil ?_ | refine wl_cons ?_ | refine wd_nil ?_ | refine wd_cons ?_ | refine wd_star ?_ | refine wo_none ?_ | refine wo_some ?_ | refine wa_one ?_ | refine wa_cons ?_ | refine wb_one ?_ | refine wb_cons ?_ | refine we_dct ?_ | refine we_dct0 ?_ | refine wp_nil ?_ | refine wp_cons ?_ | refine wt_and ?_ | refine wt_or ?_ | refine wt_not ?_ | refine wt_cmp ?_ | refine wt_chain ?_ | refine wt_val rfl ?_ | refine ww_rng1 ?_ | refine ww_rng2 ?_ | refine ww_itv ?_ | refine lct_nil ?_ | refine lct_one ?_ | refine ro_mul ?_ ?_ | refine ro_mod ?_ (by first | assumption | decide) | refine RO.mk rfl ?_ | refine ⟨_, rfl, ?_⟩ | refine ⟨rfl, ?_⟩)
  refine wc_eval (k := 9) rfl rfl ec_8 ?_
  repeat (first | refine ws_go ?_ | refine ws_nil ?_ | refine ws_cons ?_ | refine w1_expr ?_ | refine w1_var ?_ | refine w1_tup ?_ | refine w1_ix ?_ | refine w1_par ?_ | refine w1_aug rfl ?_ | refine w1_if ?_ | refine w1_for ?_ | refine w1_ret ?_ | refine w1_retN ?_ | refine w1_pass ?_ | refine w1_doc ?_ | refine w1_brk ?_ | refine w1_cont ?_ | refine we_var rfl ?_ | refine we_int ?_ | refine we_glo rfl ?_ | refine we_bin ?_ | refine we_cmp ?_ | refine we_call ?_ | refine we_ix ?_ | refine we_bi ?_ | refine we_tup ?_ | refine we_lst ?_ | refine we_str ?_ | refine we_bl ?_ | refine we_non ?_ | refine we_neg ?_ | refine we_not ?_ | refine we_and ?_ | refine we_or ?_ | refine we_chain ?_ | refine we_ife ?_ | refine we_sl ?_ | refine we_slr ?_ | refine we_isi ?_ | refine we_me ?_ | refine we_lc ?_ | refine wl_nil ?_ | refine wl_cons ?_ | refine wd_nil ?_ | refine wd_cons ?_ | refine wd_star ?_ | refine wo_none ?_ | refine wo_some ?_ | refine wa_one ?_ | refine wa_cons ?_ | refine wb_one ?_ | refine wb_cons ?_ | refine we_dct ?_ | refine we_dct0 ?_ | refine wp_nil ?_ | refine wp_cons ?_ | refine wt_and ?_ | refine wt_or ?_ | refine wt_not ?_ | refine wt_cmp ?_ | refine wt_chain ?_ | refine wt_val rfl ?_ | refine ww_rng1 ?_ | refine ww_rng2 ?_ | refine ww_itv ?_ | refine lct_nil ?_ | refine lct_one ?_ | refine ro_mul ?_ ?_ | refine ro_mod ?_ (by first | assumption | decide) | refine RO.mk rfl ?_ | refine ⟨_, rfl, ?_⟩ | refine ⟨rfl, ?_⟩)
  refine w_ord_7681 ?_
  repeat (first | refine ws_go ?_ | refine ws_nil ?_ | refine ws_cons ?_ | refine w1_expr ?_ | refine w1_var ?_ | refine w1_tup ?_ | refine w1_ix ?_ | refine w1_par ?_ | refine w1_aug rfl ?_ | refine w1_if ?_ | refine w1_for ?_ | refine w1_ret ?_ | refine w1_retN ?_ | refine w1_pass ?_ | refine w1_doc ?_ | refine w1_brk ?_ | refine w1_cont ?_ | refine we_var rfl ?_ | refine we_int ?_ | refine we_glo rfl ?_ | refine we_bin ?_ | refine we_cmp ?_ | refine we_call ?_ | refine we_ix ?_ | refine we_bi ?_ | refine we_tup ?_ | refine we_lst ?_ | refine we_str ?_ | refine we_bl ?_ | refine we_non ?_ | refine we_neg ?_ | refine we_not ?_ | refine we_and ?_ | refine we_or ?_ | refine we_chain ?_ | refine we_ife ?_ | refine we_sl ?_ | refine we_slr ?_ | refine we_isi ?_ | refine we_me ?_ | refine we_lc ?_ | refine wl_nil ?_ | refine wl_cons ?_ | refine wd_nil ?_ | refine wd_cons ?_ | refine wd_star ?_ | refine wo_none ?_ | refine wo_some ?_ | refine wa_one ?_ | refine wa_cons ?_ | refine wb_one ?_ | refine wb_cons ?_ | refine we_dct ?_ | refine we_dct0 ?_ | refine wp_nil ?_ | refine wp_cons ?_ | refine wt_and ?_ | refine wt_or ?_ | refine wt_not ?_ | refine wt_cmp ?_ | refine wt_chain ?_ | refine wt_val rfl ?_ | refine ww_rng1 ?_ | refine ww_rng2 ?_ | refine ww_itv ?_ | refine lct_nil ?_ | refine lct_one ?_ | refine ro_mul ?_ ?_ | refine ro_mod ?_ (by first | assumption | decide) | refine RO.mk rfl ?_ | refine ⟨_, rfl, ?_⟩ | refine ⟨rfl, ?_⟩)
  refine ro_cat (xs := [DI 49, DI 25, DI 86, DI 4, DI 1, DI 2]) (ys := [DI 1, DI 12288, DI 0, DI 2]) ?_ MH.get_new_same (by have := sizeLine_big; show 10 ≤ sizeLine; omega) ?_
  · rw [MH.get_new (Nat.lt_succ_self _), MH.get_new_same]
  repeat (first | refine ws_go ?_ | refine ws_nil ?_ | refine ws_cons ?_ | refine w1_expr ?_ | refine w1_var ?_ | refine w1_tup ?_ | refine w1_ix ?_ | refine w1_par ?_ | refine w1_aug rfl ?_ | refine w1_if ?_ | refine w1_for ?_ | refine w1_ret ?_ | refine w1_retN ?_ | refine w1_pass ?_ | refine w1_doc ?_ | refine w1_brk ?_ | refine w1_cont ?_ | refine we_var rfl ?_ | refine we_int ?_ | refine we_glo rfl ?_ | refine we_bin ?_ | refine we_cmp ?_ | refine we_call ?_ | refine we_ix ?_ | refine we_bi ?_ | refine we_tup ?_ | refine we_lst ?_ | refine we_str ?_ | refine we_bl ?_ | refine we_non ?_ | refine we_neg ?_ | refine we_not ?_ | refine we_and ?_ | refine we_or ?_ | refine we_chain ?_ | refine we_ife ?_ | refine we_sl ?_ | refine we_slr ?_ | refine we_isi ?_ | refine we_me ?_ | refine we_lc ?_ | refine wl_nil ?_ | refine wl_cons ?_ | refine wd_nil ?_ | refine wd_cons ?_ | refine wd_star ?_ | refine wo_none ?_ | refine wo_some ?_ | refine wa_one ?_ | refine wa_cons ?_ | refine wb_one ?_ | refine wb_cons ?_ | refine we_dct ?_ | refine we_dct0 ?_ | refine wp_nil ?_ | refine wp_cons ?_ | refine wt_and ?_ | refine wt_or ?_ | refine wt_not ?_ | refine wt_cmp ?_ | refine wt_chain ?_ | refine wt_val rfl ?_ | refine ww_rng1 ?_ | refine ww_rng2 ?_ | refine ww_itv ?_ | refine lct_nil ?_ | refine lct_one ?_ | refine ro_mul ?_ ?_ | refine ro_mod ?_ (by first | assumption | decide) | refine RO.mk rfl ?_ | refine ⟨_, rfl, ?_⟩ | refine ⟨rfl, ?_⟩)
  refine ⟨true, eq_refs (ns := [49, 25, 86, 4, 1, 2, 1, 12288, 0, 2]) ?_ MH.get_new_same (by decide +kernel) (by decide +kernel), ?_⟩
  · rw [MH.get_new (Nat.lt_succ_self _), MH.get_new_same]
    rfl
  exact q _
theorem w_law {ns : List Int} (q : ∀ h', Q (.bl true) h') : WC P 11 32 [.rol (ns.map .int)] h Q := by
  refine wc_pur rfl rfl rfl nr_ints ?_
  repeat (first | refine ws_go ?_ | refine ws_nil ?_ | refine ws_cons ?_ | refine w1_expr ?_ | refine w1_var ?_ | refine w1_tup ?_ | refine w1_ix ?_ | refine w1_par ?_ | refine w1_aug rfl ?_ | refine w1_if ?_ | refine w1_for ?_ | refine w1_ret ?_ | refine w1_retN ?_ | refine w1_pass ?_ | refine w1_doc ?_ | refine w1_brk ?_ | refine w1_cont ?_ | refine we_var rfl ?_ | refine we_int ?_ | refine we_glo rfl ?_ | refine we_bin ?_ | refine we_cmp ?_ | refine we_call ?_ | refine we_ix ?_ | refine we_bi ?_ | refine we_tup ?_ | refine we_lst ?_ | refine we_str ?_ | refine we_bl ?_ | refine we_non ?_ | refine we_neg ?_ | refine we_not ?_ | refine we_and ?_ | refine we_or ?_ | refine we_chain ?_ | refine we_ife ?_ | refine we_sl ?_ | refine we_slr ?_ | refine we_isi ?_ | refine we_me ?_ | refine we_lc ?_ | refine wl_nil ?_ | refine wl_cons ?_ | refine wd_nil ?_ | refine wd_cons ?_ | refine wd_star ?_ | refine wo_none ?_ | refine wo_some ?_ | refine wa_one ?_ | refine wa_cons ?_ | refine wb_one ?_ | refine wb_cons ?_ | refine we_dct ?_ | refine we_dct0 ?_ | refine wp_nil ?_ | refine wp_cons ?_ | refine wt_and ?_ | refine wt_or ?_ | refine wt_not ?_ | refine wt_cmp ?_ | refine wt_chain ?_ | refine wt_val rfl ?_ | refine ww_rng1 ?_ | refine ww_rng2 ?_ | refine ww_itv ?_ | refine lct_nil ?_ | refine lct_one ?_ | refine ro_mul ?_ ?_ | refine ro_mod ?_ (by first | assumption | decide) | refine RO.mk rfl ?_ | refine ⟨_, rfl, ?_⟩ | refine ⟨rfl, ?_⟩)
  refine ⟨?_, wf_rng ?_⟩
  · constructor
    · split <;> (try split) <;> omega
    · split <;> (try split) <;> omega
  refine spots _ _ none none none _ (fun i hi => ?_) fun h2 x1 x2 x3 => ?_
  · have := List.mem_range.mp hi
    split at this <;> (try split at this) <;> omega
  exact (w_end (Q := fun d h' => noref 70 d = true ∧ Q d h) fun _ => ⟨rfl, q _⟩).imp fun x q => by
    cases x <;> first | exact q | exact q.2 | exact q.elim
end
theorem law_true (ns : List Int) : ∃ N h', evk P N 11 32 [.rol (ns.map .int)] MH.nil = .ok (.bl true) h' := by
  obtain ⟨N, d, h', e, rfl⟩ := w_law (ns := ns) (h := MH.nil) (Q := fun d _ => d = .bl true) fun _ => rfl
  exact ⟨N, h', e⟩
end Hd
open PySem PySem.W PySem.Calls PyProof.Rows
theorem PySem.Challenge.cw_runslips_k01_whole_numbers_orders_and_lo_holds : PySem.Challenge.rw_runslips_k01_whole_numbers_orders_and_lo.Holds := by
  w_on; o_law
  refine HandSHeadRun.head_any (r := Hd.R) (q := view (Hd.R).prog [43]) (H := Hd.hk) (ob := Hd.ob) (M := 6000) (loose := Hd.loose) (d := HandSHeadRun.topDef (Hd.R).prog 43) (kwd := []) Hd.ob_eq
    (by kernel_rfl) (fun s => by kernel_rfl) Hd.run (by kernel_rfl) (by kernel_rfl) (by kernel_rfl) (by rfl) (by first | assumption | decide +kernel) (by decide +kernel) ⟨rfl, rfl, rfl, rfl, rfl, by decide +kernel⟩ ?hw ?hc
  case hw => w_witness2
  case hc =>
    refine MP.walk_M (lw := PySem.Challenge.rw_runslips_k01_whole_numbers_orders_and_lo) (mx := 63) (k := 11) (P := Hd.P) (i := Hd.lawIx) rfl (by decide) (by kernel_rfl) ⟨rfl, by decide, by decide⟩ ?F fun ns h1 h2 => Hd.law_true ns
    intro wd mg fa hp Y G e0
    obtain ⟨K, KX, c⟩ := Y
    have e1 : mg ("law" : PySem.Str) = some (.ref fa) := by
      have e : (HandSHeadRun.topDef (Hd.R).prog 43).name = ("law" : PySem.Str) := by kernel_rfl
      rw [← e]
      exact e0
    obtain ⟨fd, hb, hF⟩ := Hd.facts (prog := (PySem.Challenge.rw_runslips_k01_whole_numbers_orders_and_lo).prog) (w := wd) (k := 10) KX G e1 c
    exact ⟨K, fd, KX, hb, hF⟩
