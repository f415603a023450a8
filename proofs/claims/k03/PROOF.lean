import PyProof.Rows.All
import Wide.All
import OpenK.AllK
import Wide.FinOn
import HandS.ForMost
import HandS.TupAny
import HandS.TupLe
import HandS.Wide
import HandS.Style
import HandS.IsInst
import HandS.Deep
import HandS.Walk
import HandS.Zip
import HandS.Flow
import HandS.Defaults
import HandS.CallLocal
import HandS.More
import PyProof.ReprRoads
import HandS.SetTxt0
import HandS.SetFor
import HandS.HeadEnd
import KE.GoesMore
import HandS.HeadHook3
import HandS.Head0
import HandS.Head1
import HandS.Head2
import PyProof.ReprLen
import PyProof.Rows.StrIntSpec
import PySem.Challenge.RW_kinsignals_k03_rows_and_books_of_anythin
set_option Elab.async false
set_option linter.all false
set_option maxRecDepth 100000
/-! MP0: a plain machine for the part of Python that these programs use: data (tuples, lists that nobody changes) as values, what is changed as objects in a store; its meaning as plain functions. -/
namespace MP
open PySem L2

/-- data: what is never changed stands as a value; an object that is changed by its place in the store -/
inductive D where
  | non | bl (b : Bool) | int (i : Int) | str (x : Str)
  | tup (xs : List D) | lst (xs : List D) | scr (ns : List Int)
  | ref (l : Nat) | fn (i : Nat) | ty (n : String)
  /-- a dict that is never changed; a dict of the store as it is read -/
  | dct (ks : List Key) (vs : List D)
  /-- an empty dict that is never changed -/
  | emp
  deriving Inhabited
/-- an object of the store -/
inductive Ob where
  | lst (xs : List D)
  | dK (kvs : List (Key × D))
  | dT (kvs : List (List Key × D))
  | ins (c : Nat) (fs : List (Nat × D))
  deriving Inhabited
abbrev Store := List Ob
abbrev Env := List (Option D)
inductive Res (α : Type) where
  | ok (a : α) (S : Store)
  | bad
def Res.bind {α β : Type} (r : Res α) (f : α → Store → Res β) : Res β := match r with
  | .ok a S => f a S
  | .bad => .bad
theorem Res.bind_ok {α β : Type} (a : α) (S : Store) (f : α → Store → Res β) : (Res.ok a S).bind f = f a S := rfl
theorem Res.bind_bad {α β : Type} (f : α → Store → Res β) : (Res.bad : Res α).bind f = .bad := rfl
theorem Res.bind_eq {α β : Type} {r : Res α} {f : α → Store → Res β} {b : β} {S' : Store} (h : r.bind f = .ok b S') : ∃ a S, r = .ok a S ∧ f a S = .ok b S' := by
  cases r with
  | ok a S => exact ⟨a, S, rfl, h⟩
  | bad => cases h
def opt {α : Type} (o : Option α) (S : Store) : Res α := match o with
  | some a => .ok a S
  | none => .bad
theorem opt_eq {α : Type} {o : Option α} {S S' : Store} {a : α} (h : opt o S = .ok a S') : o = some a ∧ S' = S := by
  cases o with
  | none => cases h
  | some b => cases h; exact ⟨rfl, rfl⟩

/-! ### syntax -/
inductive BOp | add | sub | mul | fdiv | mod | pow deriving DecidableEq
inductive COp | eq | ne | lt | le | gt | ge | inn | notin | is | isnot deriving DecidableEq
inductive Blt | len | isinst | all | any | tuple | list | abs | min | max | sorted | str | int | repr | sset deriving DecidableEq
inductive Mth | append | pop0 | pop1 | extend | index | join | upper | remove | insert | update deriving DecidableEq
inductive IK | seq | live | range | zip | enum deriving DecidableEq
/-- a target of names -/
inductive P where
  | name (i : Nat)
  | tup (ps : List P)
  | star (i : Nat) (ps : List P)
inductive E where
  | var (i : Nat)
  | con (d : D)
  | tup (es : List E) | lst (es : List E) | nlst (es : List E) | ndict (es : List E)
  | nadd (a b : E)
  | bin (o : BOp) (a b : E) | neg (a : E)
  | cmp (o : COp) (a b : E) | chain (o o' : COp) (a b c : E)
  | and (a b : E) | or (a b : E) | not (a : E)
  | ite (c a b : E)
  | ix (a b : E) | sl (a : E) (lo hi : List E) | rev (a : E)
  | call (f : Nat) (es : List E) | callk (f : Nat) (es ks : List E) | callv (i : Nat) (fs : List Nat) (es : List E)
  | blt (b : Blt) (es : List E) | mth (m : Mth) (o : E) (es : List E)
  | comp (mu : Bool) (p : P) (k : IK) (its : List E) (cond : List E) (e : E)
  | cin (neg : Bool) (kvs : List (Str × D)) (a : E) | cget (kvs : List (Str × D)) (a : E) | edict | fdict (es : List E)
inductive SA where
  | asg (p : P) (e : E)
  | par (i j : Nat) (a b : E)
  | setIx (e o i : E)
  | expr (e : E) | ret (e : E) | retN
  | ifs (c : E) (t f : List SA)
  | for_ (p : P) (k : IK) (its : List E) (body : List SA)
  | while_ (c : E) (body : List SA)
  | brk | cont | pass

/-! ### values -/
/-- flat things: compared at once -/
def flat : D → Bool
  | .non => true | .bl _ => true | .int _ => true | .str _ => true
  | _ => false
def eqF : D → D → Bool
  | .non, .non => true
  | .bl a, .bl b => a == b
  | .bl a, .int b => (if a then 1 else 0) == b
  | .int a, .bl b => a == (if b then 1 else 0)
  | .int a, .int b => a == b
  | .str a, .str b => a == b
  | _, _ => false
def inF (x : D) (xs : List D) : Bool := xs.any fun y => eqF y x
mutual
def toPy : D → Option PyData
  | .non => some .none
  | .bl b => some (.bool b)
  | .int i => some (.int i)
  | .str x => some (.str x)
  | .tup xs => (toPys xs).map .tuple
  | .lst xs => (toPys xs).map .list
  | _ => none
def toPys : List D → Option (List PyData)
  | [] => some []
  | x :: xs => (toPy x).bind fun a => (toPys xs).map fun r => a :: r
end
/-! with dicts: what is shown -/
def keyPy : Key → PyData
  | .inl i => .int i
  | .inr x => .str x
mutual
def toPyE : D → Option PyData
  | .non => some .none
  | .bl b => some (.bool b)
  | .int i => some (.int i)
  | .str x => some (.str x)
  | .emp => some (.dict [])
  | .dct ks vs => (toPysE vs).bind fun ps => if ks.length = ps.length then some (.dict ((ks.map keyPy).zip ps)) else none
  | .tup xs => (toPysE xs).map .tuple
  | .lst xs => (toPysE xs).map .list
  | _ => none
def toPysE : List D → Option (List PyData)
  | [] => some []
  | x :: xs => (toPyE x).bind fun a => (toPysE xs).map fun r => a :: r
end
/-- what repr tells -/
def shownD (d : D) : Option Str := (toPyE d).bind fun p => if p.showable && decide (p.depth ≤ 64) && decide (p.shown.length ≤ 16000000) then some p.shown else none
/-- a list in the store read as a value -/
def deref (S : Store) : D → D
  | .ref l => match S[l]? with
    | some (.lst xs) => .lst xs
    | some (.dK kvs) => .dct (kvs.map (·.1)) (kvs.map (·.2))
    | _ => .ref l
  | d => d
def keyD : D → Option Key
  | .int i => some (.inl i)
  | .str x => some (.inr x)
  | _ => none
/-- the value at a key -/
def lookK (k : Key) : List Key → List D → Option D
  | q :: ks, d :: ds => if q = k then some d else lookK k ks ds
  | _, _ => none
def putD (kvs : List (Key × D)) (k : Key) (v : D) : List (Key × D) := if (kvs.any fun kv => decide (kv.1 = k)) = true then kvs.map (fun kv => if kv.1 = k then (kv.1, v) else kv) else kvs ++ [(k, v)]
def mergeD (kvs more : List (Key × D)) : List (Key × D) := more.foldl (fun acc kv => putD acc kv.1 kv.2) kvs
def pairsD : List D → Option (List (Key × D))
  | [] => some []
  | k :: v :: r => (keyD k).bind fun q => (pairsD r).map fun l => (q, v) :: l
  | _ => none
def eqG (a b : D) : Option Bool := (toPy a).bind fun x => (toPy b).bind fun y =>
  if SeqAt.shaped x && SeqAt.shaped y then some (PyData.eqv x y) else none
def eqD : D → D → Option Bool
  | .str x, .str y => some (x == y)
  | .tup xs, .tup [] => some xs.isEmpty
  | a, b => eqG a b
abbrev LIM : Nat := 100000
def mulOk (i j : Int) : Bool := decide (i.natAbs < 2 ^ 4096) && decide (j.natAbs < 2 ^ 4096)
def binD : BOp → D → D → Option D
  | .add, .int i, .int j => some (.int (i + j))
  | .add, .bl i, .int j => some (.int ((if i = true then 1 else 0) + j))
  | .add, .bl i, .bl j => some (.int ((if i = true then 1 else 0) + (if j = true then 1 else 0)))
  | .add, .str x, .str y => if x.length + y.length ≤ LIM then some (.str (x ++ y)) else none
  | .add, .tup xs, .tup ys => if xs.length + ys.length ≤ LIM then some (.tup (xs ++ ys)) else none
  | .add, .lst xs, .lst ys => if xs.length + ys.length ≤ LIM then some (.lst (xs ++ ys)) else none
  | .sub, .int i, .int j => some (.int (i - j))
  | .sub, .bl i, .int j => some (.int ((if i = true then 1 else 0) - j))
  | .sub, .int i, .bl j => some (.int (i - (if j = true then 1 else 0)))
  | .mul, .int i, .int j => if mulOk i j then some (.int (i * j)) else none
  | .fdiv, .int i, .int j => if 0 < j ∧ j.natAbs < 2 ^ 4096 then some (.int (i / j)) else none
  | .mod, .int i, .int j => if 0 < j then some (.int (i % j)) else none
  | .pow, .int i, .int j => if 0 ≤ j ∧ j ≤ 1000 ∧ i.natAbs < 2 ^ 64 then some (.int (i ^ j.toNat)) else none
  | _, _, _ => none
def inD (x : D) : D → Option Bool
  | .tup xs => if flat x && xs.all flat then some (inF x xs) else none
  | .lst xs => if flat x && xs.all flat then some (inF x xs) else
      (toPy x).bind fun d => (toPys xs).bind fun ds => if SeqAt.shaped d && SeqAt.shaped (.list ds) then some (ds.any fun z => PyData.eqv z d) else none
  | .str z => match x with
    | .str ⟨⟨[c]⟩⟩ => some (decide (c ∈ z.cps.toList))
    | _ => none
  | .dct ks vs => (keyD x).map fun k => (lookK k ks vs).isSome
  | _ => none
def cmpD : COp → D → D → Option Bool
  | .eq, a, b => eqD a b
  | .ne, a, b => (eqD a b).map (!·)
  | .lt, .int i, .int j => some (decide (i < j))
  | .lt, .str x, .str y => some (decide (x.cps.toList < y.cps.toList))
  | .le, .int i, .int j => some (decide (i ≤ j))
  | .le, .str x, .str y => some (!decide (y.cps.toList < x.cps.toList))
  | .gt, .int i, .int j => some (decide (j < i))
  | .ge, .int i, .int j => some (decide (j ≤ i))
  | .inn, a, b => inD a b
  | .notin, a, b => (inD a b).map (!·)
  | .is, .bl a, .bl b => some (decide (a = b))
  | .is, .non, .non => some true
  | .is, .bl _, .non => some false | .is, .int _, .non => some false | .is, .str _, .non => some false
  | .is, .tup _, .non => some false | .is, .lst _, .non => some false | .is, .ref _, .non => some false | .is, .emp, .non => some false | .is, .dct _ _, .non => some false
  | .isnot, .bl a, .bl b => some (!decide (a = b))
  | .isnot, .non, .non => some false
  | .isnot, .bl _, .non => some true | .isnot, .int _, .non => some true | .isnot, .str _, .non => some true
  | .isnot, .tup _, .non => some true | .isnot, .lst _, .non => some true | .isnot, .ref _, .non => some true | .isnot, .emp, .non => some true | .isnot, .dct _ _, .non => some true
  | _, _, _ => none
def ixD : D → D → Option D
  | .tup xs, .int i => atI xs i
  | .lst xs, .int i => atI xs i
  | .scr ns, .int i => (atI ns i).map .int
  | .str z, .int i => if z.length ≤ LIM then (atI z.cps.toList i).map fun c => .str ⟨#[c]⟩ else none
  | .dct ks vs, y => (keyD y).bind fun k => lookK k ks vs
  | _, _ => none
def cutD {α : Type} (xs : List α) (lo hi : Option Int) : List α := (xs.drop (HT.sIx xs.length 0 lo)).take (HT.sIx xs.length xs.length hi - HT.sIx xs.length 0 lo)
def slD (lo hi : Option Int) : D → Option D
  | .tup xs => some (.tup (cutD xs lo hi))
  | .lst xs => some (.lst (cutD xs lo hi))
  | .scr ns => some (.lst ((cutD ns lo hi).map .int))
  | .str z => if z.length ≤ LIM then some (.str (cutS z lo hi)) else none
  | _ => none
def partD : List D → Option (Option Int)
  | [] => some none
  | [.int i] => some (some i)
  | _ => none
def strOf : D → Option Str
  | .str x => some x
  | _ => none
def blOf : D → Option Bool
  | .bl b => some b
  | _ => none
def intOf : D → Option Int
  | .int b => some b
  | _ => none
def tyOf : D → Option String
  | .non => some "NoneType" | .bl _ => some "bool" | .int _ => some "int" | .str _ => some "str"
  | .tup _ => some "tuple" | .lst _ => some "list" | .emp => some "dict" | .dct _ _ => some "dict"
  | _ => none
def isinst : D → D → Option Bool
  | d, .ty n => (tyOf d).bind fun t => kitB t n
  | _, _ => none
/-- texts sorted by their signs -/
def insS (x : Str) : List Str → List Str
  | [] => [x]
  | y :: r => if y.cps.toList < x.cps.toList then y :: insS x r else x :: y :: r
def sortS : List Str → List Str
  | [] => []
  | x :: r => insS x (sortS r)
/-- each once -/
def uniqS : List Str → List Str
  | [] => []
  | x :: r => if x ∈ r then uniqS r else x :: uniqS r
def bltD : Blt → List D → Option D
  | .len, [.tup xs] => some (.int xs.length)
  | .len, [.lst xs] => some (.int xs.length)
  | .len, [.scr xs] => some (.int xs.length)
  | .len, [.str z] => if z.length ≤ 10000000 then some (.int z.length) else none
  | .isinst, [d, t] => (isinst d t).map .bl
  | .all, [.lst xs] => (xs.mapM blOf).map fun bs => .bl (bs.all id)
  | .any, [.lst xs] => (xs.mapM blOf).map fun bs => .bl (bs.any id)
  | .tuple, [.lst xs] => some (.tup xs)
  | .tuple, [.tup xs] => some (.tup xs)
  | .list, [.lst xs] => some (.lst xs)
  | .list, [.tup xs] => some (.lst xs)
  | .abs, [.int i] => some (.int (if i < 0 then -i else i))
  | .min, [.int i, .int j] => some (.int (if j < i then j else i))
  | .max, [.int i, .int j] => some (.int (if j > i then j else i))
  | .int, [.bl b] => some (.int (if b then 1 else 0))
  | .int, [.int i] => some (.int i)
  | .sorted, [.lst xs] => (xs.mapM strOf).bind fun ys => if ys.length < 64 then some (.lst ((sortS ys).map .str)) else none
  | .sset, [.lst xs] => (xs.mapM strOf).bind fun ys => if ys.length < 64 then some (.lst ((sortS (uniqS ys)).map .str)) else none
  | .str, [.int i] => if i.natAbs.log2 < 1920 then some (.str (toString i)) else none
  | .str, [.str x] => some (.str x)
  | .str, [.non] => some (.str "None")
  | .str, [.bl b] => some (.str (if b then "True" else "False"))
  | .str, [.lst xs] => (shownD (.lst xs)).map .str
  | .str, [.tup xs] => (shownD (.tup xs)).map .str
  | .str, [.emp] => (shownD .emp).map .str
  | .str, [.dct ks vs] => (shownD (.dct ks vs)).map .str
  | .repr, [d] => (shownD d).map .str
  | _, _ => none
def idxF (x : D) : List D → Nat → Option Nat
  | [], _ => none
  | y :: ys, n => if eqF y x then some n else idxF x ys (n + 1)
/-- methods that change nothing -/
def mthP : Mth → D → List D → Option D
  | .index, .lst xs, [x] => if flat x && xs.all flat then (idxF x xs 0).map fun (n : Nat) => D.int (n : Int) else none
  | .join, .str a, [.lst xs] => (xs.mapM strOf).bind fun ys => if (ys.map (·.length)).sum + ys.length * a.length ≤ LIM then some (.str (Txt.join a ys)) else none
  | .upper, .str a, [] => if a.length ≤ LIM then some (.str (Txt.upper a)) else none
  | _, _, _ => none
/-- methods that change a list of the store -/
def isMut : Mth → Bool
  | .append => true | .pop0 => true | .pop1 => true | .extend => true | .remove => true | .insert => true
  | _ => false
def mthM (S : Store) : Mth → List D → List D → Option (D × List D)
  | .append, xs, [x] => if xs.length < LIM then some (.non, xs ++ [x]) else none
  | .pop0, xs, [] => (xs[xs.length - 1]?).map fun y => (y, xs.dropLast)
  | .pop1, xs, [.int i] => if xs.length ≤ LIM then (ixN xs.length i).bind fun k => (xs[k]?).map fun y => (y, xs.eraseIdx k) else none
  | .extend, xs, [y] => match deref S y with
    | .lst ys => if xs.length + ys.length ≤ LIM then some (.non, xs ++ ys) else none
    | _ => none
  | _, _, _ => none
/-- what a method is of -/
def mty : Mth → D → Bool
  | .join, .str _ => true | .upper, .str _ => true
  | .join, _ => false | .upper, _ => false
  | .update, .dct _ _ => true
  | .update, _ => false
  | _, .lst _ => true
  | _, _ => false
def updD (o : D) (as : List D) (S : Store) : Res D := match o, as with
  | .ref l, [.ref j] => match S[l]?, S[j]? with
    | some (.dK kvs), some (.dK more) => if l ≠ j ∧ kvs.length + more.length ≤ LIM then .ok .non (S.set l (.dK (mergeD kvs more))) else .bad
    | _, _ => .bad
  | _, _ => .bad
def mthD (m : Mth) (o : D) (as : List D) (S : Store) : Res D := if m = .update then updD o as S else match isMut m with
  | true => match o with
    | .ref l => match S[l]? with
      | some (.lst xs) => match mthM S m xs as with
        | some (r, ys) => .ok r (S.set l (.lst ys))
        | none => .bad
      | _ => .bad
    | _ => .bad
  | false => opt (mthP m (deref S o) (as.map (deref S))) S
/-- what a loop walks, as it stands ahead of it -/
def signs (z : Str) : List D := z.cps.toList.map fun c => .str ⟨#[c]⟩
def rangeD (lo hi : Int) : List D := (List.range (hi - lo).toNat).map fun (i : Nat) => .int (lo + i)
def itD : IK → List D → Option (List D)
  | .seq, [.tup xs] => some xs
  | .seq, [.lst xs] => some xs
  | .seq, [.scr ns] => some (ns.map .int)
  | .seq, [.str z] => some (signs z)
  | .range, [.int n] => if -1000000 ≤ n ∧ n ≤ 1000000 then some (rangeD 0 n) else none
  | .range, [.int m, .int n] => if (-1000000 ≤ m ∧ m ≤ 1000000) ∧ (-1000000 ≤ n ∧ n ≤ 1000000) then some (rangeD m n) else none
  | .zip, [.lst xs, .lst ys] => some ((xs.zip ys).map fun p => .tup [p.1, p.2])
  | .zip, [.tup xs, .tup ys] => some ((xs.zip ys).map fun p => .tup [p.1, p.2])
  | .enum, [.lst xs] => some (((List.range xs.length).zip xs).map fun p => .tup [.int (p.1 : Nat), p.2])
  | .enum, [.tup xs] => some (((List.range xs.length).zip xs).map fun p => .tup [.int (p.1 : Nat), p.2])
  | _, _ => none
/-- a, *rest, b = ds: n targets, the i-th with the star -/
def starD (i n : Nat) (ds : List D) : List D := ds.take i ++ [.lst ((ds.drop i).take (ds.length - i - (n - 1 - i)))] ++ (ds.drop i).drop (ds.length - i - (n - 1 - i))
mutual
def bindP : P → D → Env → Option Env
  | .name i, d, env => if i < env.length then some (env.set i (some d)) else none
  | .tup ps, .tup ds, env => bindPs ps ds env
  | .tup _, _, _ => none
  | .star i ps, .tup ds, env => if i < ps.length ∧ ps.length ≤ ds.length + 1 then bindPs ps (starD i ps.length ds) env else none
  | .star _ _, _, _ => none
def bindPs : List P → List D → Env → Option Env
  | [], [], env => some env
  | p :: ps, d :: ds, env => (bindP p d env).bind fun env' => bindPs ps ds env'
  | _, _, _ => none
end
mutual
def slotsP : P → List Nat
  | .name i => [i]
  | .tup ps => slotsPs ps
  | .star _ ps => slotsPs ps
def slotsPs : List P → List Nat
  | [] => []
  | p :: ps => slotsP p ++ slotsPs ps
end
def wipeE (env : Env) : List Nat → Env
  | [] => env
  | i :: is => (wipeE env is).set i none
def lookS (x : Str) : List (Str × D) → Option D
  | [] => none
  | (y, d) :: r => if x = y then some d else lookS x r

/-! ### expressions -/
/-- the turns of a comprehension -/
def loopC (g : D → Store → Res (Option D)) : List D → Store → Res (List D)
  | [], S => .ok [] S
  | x :: xs, S => (g x S).bind fun o S1 => (loopC g xs S1).bind fun r S2 => .ok (match o with | some y => y :: r | none => r) S2
/-- a sum of lists, to be changed later -/
def naddD (x y : D) (S : Store) : Res D := match deref S x, deref S y with
  | .lst xs, .lst ys => if xs.length + ys.length ≤ LIM then .ok (.ref S.length) (S ++ [.lst (xs ++ ys)]) else .bad
  | _, _ => .bad
abbrev Fn := Nat → List D → Store → Res D
mutual
def ev (F : Fn) : E → Env → Store → Res D
  | .var i, env, S => match env[i]? with
    | some (some d) => .ok d S
    | _ => .bad
  | .con d, _, S => .ok d S
  | .tup es, env, S => (evs F es env S).bind fun ds S1 => if ds.length ≤ LIM then .ok (.tup ds) S1 else .bad
  | .lst es, env, S => (evs F es env S).bind fun ds S1 => if ds.length ≤ LIM then .ok (.lst ds) S1 else .bad
  | .nlst es, env, S => (evs F es env S).bind fun ds S1 => if ds.length ≤ LIM then .ok (.ref S1.length) (S1 ++ [.lst ds]) else .bad
  | .ndict es, env, S => (evs F es env S).bind fun ds S1 => (opt (pairsD ds) S1).bind fun kvs S2 => if kvs.length ≤ 15 then .ok (.ref S2.length) (S2 ++ [.dK (mergeD [] kvs)]) else .bad
  | .nadd a b, env, S => (ev F a env S).bind fun x S1 => (ev F b env S1).bind fun y S2 => naddD x y S2
  | .bin o a b, env, S => (ev F a env S).bind fun x S1 => (ev F b env S1).bind fun y S2 => opt (binD o (deref S2 x) (deref S2 y)) S2
  | .neg a, env, S => (ev F a env S).bind fun x S1 => match x with
    | .int i => .ok (.int (-i)) S1
    | _ => .bad
  | .cmp o a b, env, S => (ev F a env S).bind fun x S1 => (ev F b env S1).bind fun y S2 => opt ((cmpD o (deref S2 x) (deref S2 y)).map .bl) S2
  | .chain o o' a b c, env, S => (ev F a env S).bind fun x S1 => (ev F b env S1).bind fun y S2 => (opt (cmpD o (deref S2 x) (deref S2 y)) S2).bind fun k S3 =>
      match k with
      | true => (ev F c env S3).bind fun z S4 => opt ((cmpD o' (deref S4 y) (deref S4 z)).map .bl) S4
      | false => .ok (.bl false) S3
  | .and a b, env, S => (ev F a env S).bind fun x S1 => match x with
    | .bl true => ev F b env S1
    | .bl false => .ok (.bl false) S1
    | _ => .bad
  | .or a b, env, S => (ev F a env S).bind fun x S1 => match x with
    | .bl false => ev F b env S1
    | .bl true => .ok (.bl true) S1
    | _ => .bad
  | .not a, env, S => (ev F a env S).bind fun x S1 => match x with
    | .bl b => .ok (.bl (!b)) S1
    | _ => .bad
  | .ite c a b, env, S => (ev F c env S).bind fun x S1 => match x with
    | .bl true => ev F a env S1
    | .bl false => ev F b env S1
    | _ => .bad
  | .ix a b, env, S => (ev F a env S).bind fun x S1 => (ev F b env S1).bind fun y S2 => opt (ixD (deref S2 x) y) S2
  | .sl a lo hi, env, S => (ev F a env S).bind fun x S1 => (evs F lo env S1).bind fun l S2 => (opt (partD l) S2).bind fun l' S2 => (evs F hi env S2).bind fun h S3 =>
      (opt (partD h) S3).bind fun h' S3 => opt (slD l' h' (deref S3 x)) S3
  | .rev a, env, S => (ev F a env S).bind fun x S1 => match x with
    | .lst xs => .ok (.lst xs.reverse) S1
    | .tup xs => .ok (.tup xs.reverse) S1
    | _ => .bad
  | .call f es, env, S => (evs F es env S).bind fun ds S1 => F f ds S1
  | .callk f es ks, env, S => (evs F es env S).bind fun ds S1 => (evs F ks env S1).bind fun zs S2 => F f (ds ++ zs) S2
  | .callv i fs es, env, S => (match env[i]? with
    | some (some (.fn f)) => if f ∈ fs then (evs F es env S).bind fun ds S1 => F f ds S1 else .bad
    | _ => .bad)
  | .blt b es, env, S => (evs F es env S).bind fun ds S1 => opt (bltD b (ds.map (deref S1))) S1
  | .mth m o es, env, S => (ev F o env S).bind fun x S1 => match mty m (deref S1 x) with
    | true => (evs F es env S1).bind fun ds S2 => mthD m x ds S2
    | false => .bad
  | .comp mu p k its cond e, env, S => (evs F its env S).bind fun ds S1 => (opt (itD k ds) S1).bind fun xs S1 =>
      (loopC (fun x S => match bindP p x (wipeE env (slotsP p)) with
        | none => .bad
        | some env' => (evs F cond env' S).bind fun cs S2 => match cs with
          | [] => (ev F e env' S2).bind fun y S3 => .ok (some y) S3
          | [.bl true] => (ev F e env' S2).bind fun y S3 => .ok (some y) S3
          | [.bl false] => .ok none S2
          | _ => .bad) xs S1).bind fun ys S2 => if ys.length ≤ LIM then (match mu with
          | true => .ok (.ref S2.length) (S2 ++ [.lst ys])
          | false => .ok (.lst ys) S2) else .bad
  | .cin neg kvs a, env, S => (ev F a env S).bind fun x S1 => match x with
    | .str y => .ok (.bl (if neg then (lookS y kvs).isNone else (lookS y kvs).isSome)) S1
    | _ => .bad
  | .cget kvs a, env, S => (ev F a env S).bind fun x S1 => match x with
    | .str y => opt (lookS y kvs) S1
    | _ => .bad
  | .edict, _, S => .ok .emp S
  | .fdict es, env, S => (evs F es env S).bind fun ds S1 => (opt (pairsD ds) S1).bind fun kvs S2 => if kvs.length ≤ 15 then .ok (.dct ((mergeD [] kvs).map (·.1)) ((mergeD [] kvs).map (·.2))) S2 else .bad
def evs (F : Fn) : List E → Env → Store → Res (List D)
  | [], _, S => .ok [] S
  | e :: es, env, S => (ev F e env S).bind fun d S1 => (evs F es env S1).bind fun ds S2 => .ok (d :: ds) S2
end

/-! ### statements -/
inductive Out where
  | nx (env : Env) (S : Store) | rt (d : D) (S : Store) | bk (env : Env) (S : Store) | ct (env : Env) (S : Store) | bad
def Out.of {α : Type} (r : Res α) (f : α → Store → Out) : Out := match r with
  | .ok a S => f a S
  | .bad => .bad
def Out.then (o : Out) (f : Env → Store → Out) : Out := match o with
  | .nx env S => f env S
  | o => o
/-- the turns of a for -/
def loopF (g : D → Env → Store → Out) : List D → Env → Store → Out
  | [], env, S => .nx env S
  | x :: xs, env, S => match g x env S with
    | .nx env' S' => loopF g xs env' S'
    | .ct env' S' => loopF g xs env' S'
    | .bk env' S' => .nx env' S'
    | o => o
def loopW (c : Env → Store → Res D) (g : Env → Store → Out) : Nat → Env → Store → Out
  | 0, _, _ => .bad
  | n + 1, env, S => match c env S with
    | .ok (.bl true) S1 => match g env S1 with
      | .nx env' S' => loopW c g n env' S'
      | .ct env' S' => loopW c g n env' S'
      | .bk env' S' => .nx env' S'
      | o => o
    | .ok (.bl false) S1 => .nx env S1
    | _ => .bad
def setIxD (v o i : D) (S : Store) : Option Store := match o, i with
  | .ref l, .int k => match S[l]? with
    | some (.lst xs) => (ixN xs.length k).map fun j => S.set l (.lst (xs.set j v))
    | _ => none
  | _, _ => none
/-- turns of a while at most -/
def WN : Nat := 100000
mutual
def ex (F : Fn) : SA → Env → Store → Out
  | .asg p e, env, S => .of (ev F e env S) fun d S1 => match bindP p d env with
    | some env' => .nx env' S1
    | none => .bad
  | .par i j a b, env, S => .of (ev F a env S) fun x S1 => .of (ev F b env S1) fun y S2 => if i < env.length ∧ j < env.length then .nx ((env.set i (some x)).set j (some y)) S2 else .bad
  | .setIx e o i, env, S => .of (ev F e env S) fun v S1 => .of (ev F o env S1) fun x S2 => .of (ev F i env S2) fun k S3 => match setIxD v x k S3 with
    | some S4 => .nx env S4
    | none => .bad
  | .expr e, env, S => .of (ev F e env S) fun _ S1 => .nx env S1
  | .ret e, env, S => .of (ev F e env S) fun d S1 => .rt d S1
  | .retN, _, S => .rt .non S
  | .ifs c t f, env, S => .of (ev F c env S) fun x S1 => match x with
    | .bl true => exs F t env S1
    | .bl false => exs F f env S1
    | _ => .bad
  | .for_ p k its body, env, S => .of (evs F its env S) fun ds S1 => match itD k ds with
    | none => .bad
    | some xs => loopF (fun x env S => match bindP p x env with
      | none => .bad
      | some env' => exs F body env' S) xs env S1
  | .while_ c body, env, S => loopW (ev F c) (exs F body) WN env S
  | .brk, env, S => .bk env S
  | .cont, env, S => .ct env S
  | .pass, env, S => .nx env S
def exs (F : Fn) : List SA → Env → Store → Out
  | [], env, S => .nx env S
  | s :: r, env, S => (ex F s env S).then fun env' S' => exs F r env' S'
end
structure FD where
  ps : Nat
  ns : Nat
  body : List SA
def startE (ds : List D) (n : Nat) : Env := ds.map some ++ List.replicate (n - ds.length) none
def callAt (T : List FD) : Nat → Fn
  | 0, _, _, _ => .bad
  | n + 1, f, ds, S => match T[f]? with
    | none => .bad
    | some d => if ds.length = d.ps then match exs (callAt T n) d.body (startE ds d.ns) S with
        | .nx _ S' => .ok .non S'
        | .rt r S' => .ok r S'
        | _ => .bad
      else .bad
end MP

/-! MP1: how the plain machine's data stand in the heap. -/
namespace MP
open PySem L2

structure Cfg where
  K : PySem.W.Frag
  fad : Nat → Addr
/-- where the store's objects stand; the part of the heap that is never changed -/
structure Wd where
  ρ : List Addr
  B : Hp
structure Wd.le (w w' : Wd) : Prop where
  l : ∀ (l : Nat) (a : Addr), w.ρ[l]? = some a → w'.ρ[l]? = some a
  b : ∀ (a : Addr) (o : HO), w.B a = some o → w'.B a = some o
theorem Wd.le_refl (w : Wd) : w.le w := ⟨fun _ _ h => h, fun _ _ h => h⟩
theorem Wd.le.le_trans {a b c : Wd} (h : a.le b) (k : b.le c) : a.le c := ⟨fun l x e => k.l l x (h.l l x e), fun x o e => k.b x o (h.b x o e)⟩

mutual
def RelD (c : Cfg) (w : Wd) : D → V → Prop
  | .non, v => v = .non
  | .bl b, v => v = .bl b
  | .int i, v => v = .int i
  | .str x, v => v = .str x
  | .tup xs, v => ∃ a ys, v = .ref a ∧ SqT c.K w.B a ys ∧ RelDs c w xs ys
  | .lst xs, v => ∃ a ys, v = .ref a ∧ w.B a = some (.lst ys) ∧ RelDs c w xs ys
  | .scr ns, v => ∃ a, v = .ref a ∧ SqL c.K w.B a (ns.map V.int)
  | .ref l, v => ∃ a, w.ρ[l]? = some a ∧ v = .ref a
  | .fn i, v => v = .ref (c.fad i)
  | .ty n, v => v = .ty n
  | .dct ks vs, v => ∃ a ys, v = .ref a ∧ w.B a = some (.dK ys) ∧ ys.map (·.1) = ks ∧ RelDs c w vs (ys.map (·.2))
  | .emp, v => ∃ a, v = .ref a ∧ w.B a = some (.dK [])
def RelDs (c : Cfg) (w : Wd) : List D → List V → Prop
  | [], vs => vs = []
  | d :: ds, vs => ∃ v r, vs = v :: r ∧ RelD c w d v ∧ RelDs c w ds r
end
theorem sqT_mono {K : PySem.W.Frag} {H H' : Hp} {a : Addr} {xs : List V} (e : ∀ a o, H a = some o → H' a = some o) (h : SqT K H a xs) : SqT K H' a xs := by
  rcases h with (h | ⟨o, h⟩) | h
  · exact .inl (.inl (e _ _ h))
  · exact .inl (.inr ⟨o, e _ _ h⟩)
  · exact .inr h
theorem sqL_mono {K : PySem.W.Frag} {H H' : Hp} {a : Addr} {xs : List V} (e : ∀ a o, H a = some o → H' a = some o) (h : SqL K H a xs) : SqL K H' a xs := by
  rcases h with (h | ⟨o, h⟩) | h
  · exact .inl (.inl (e _ _ h))
  · exact .inl (.inr ⟨o, e _ _ h⟩)
  · exact .inr h
mutual
theorem RelD.mono {c : Cfg} {w w' : Wd} (h : w.le w') : ∀ (d : D) (v : V), RelD c w d v → RelD c w' d v
  | .non, _, e => e
  | .bl _, _, e => e
  | .int _, _, e => e
  | .str _, _, e => e
  | .tup xs, v, e => by
    simp only [RelD] at e ⊢
    obtain ⟨a, ys, e1, e2, e3⟩ := e
    exact ⟨a, ys, e1, sqT_mono h.b e2, RelDs.mono h xs ys e3⟩
  | .lst xs, v, e => by
    simp only [RelD] at e ⊢
    obtain ⟨a, ys, e1, e2, e3⟩ := e
    exact ⟨a, ys, e1, h.b _ _ e2, RelDs.mono h xs ys e3⟩
  | .scr ns, v, e => by
    simp only [RelD] at e ⊢
    obtain ⟨a, e1, e2⟩ := e
    exact ⟨a, e1, sqL_mono h.b e2⟩
  | .ref l, v, e => by
    simp only [RelD] at e ⊢
    obtain ⟨a, e1, e2⟩ := e
    exact ⟨a, h.l _ _ e1, e2⟩
  | .fn _, _, e => e
  | .ty _, _, e => e
  | .dct ks vs, v, e => by
    simp only [RelD] at e ⊢
    obtain ⟨a, ys, e1, e2, e3, e4⟩ := e
    exact ⟨a, ys, e1, h.b _ _ e2, e3, RelDs.mono h vs _ e4⟩
  | .emp, v, e => by
    simp only [RelD] at e ⊢
    obtain ⟨a, e1, e2⟩ := e
    exact ⟨a, e1, h.b _ _ e2⟩
theorem RelDs.mono {c : Cfg} {w w' : Wd} (h : w.le w') : ∀ (ds : List D) (vs : List V), RelDs c w ds vs → RelDs c w' ds vs
  | [], _, e => e
  | d :: ds, vs, e => by
    simp only [RelDs] at e ⊢
    obtain ⟨v, r, e1, e2, e3⟩ := e
    exact ⟨v, r, e1, RelD.mono h d v e2, RelDs.mono h ds r e3⟩
end
theorem RelDs.nil {c : Cfg} {w : Wd} : RelDs c w [] [] := by simp only [RelDs]
theorem RelDs.cons {c : Cfg} {w : Wd} {d : D} {ds : List D} {v : V} {vs : List V} (h : RelD c w d v) (k : RelDs c w ds vs) : RelDs c w (d :: ds) (v :: vs) := by
  simp only [RelDs]; exact ⟨v, vs, rfl, h, k⟩
theorem RelDs.nil_inv {c : Cfg} {w : Wd} {vs : List V} (h : RelDs c w [] vs) : vs = [] := by simpa only [RelDs] using h
theorem RelDs.cons_inv {c : Cfg} {w : Wd} {d : D} {ds : List D} {vs : List V} (h : RelDs c w (d :: ds) vs) : ∃ v r, vs = v :: r ∧ RelD c w d v ∧ RelDs c w ds r := by
  simpa only [RelDs] using h
theorem RelDs.length {c : Cfg} {w : Wd} : ∀ {ds : List D} {vs : List V}, RelDs c w ds vs → ds.length = vs.length
  | [], vs, h => by rw [RelDs.nil_inv h]; rfl
  | d :: ds, vs, h => by
    obtain ⟨v, r, rfl, _, h2⟩ := h.cons_inv
    simp only [List.length_cons, RelDs.length h2]
theorem RelDs.get {c : Cfg} {w : Wd} : ∀ {ds : List D} {vs : List V} {i : Nat} {d : D}, RelDs c w ds vs → ds[i]? = some d → ∃ v, vs[i]? = some v ∧ RelD c w d v
  | [], vs, i, d, _, e => by simp at e
  | d :: ds, vs, i, d', h, e => by
    obtain ⟨v, r, rfl, h1, h2⟩ := h.cons_inv
    cases i with
    | zero => simp at e; subst e; exact ⟨v, rfl, h1⟩
    | succ i =>
      have e' : ds[i]? = some d' := by simpa using e
      obtain ⟨v', q1, q2⟩ := h2.get e'
      exact ⟨v', by simpa using q1, q2⟩
theorem RelDs.getV {c : Cfg} {w : Wd} : ∀ {ds : List D} {vs : List V} {i : Nat} {v : V}, RelDs c w ds vs → vs[i]? = some v → ∃ d, ds[i]? = some d ∧ RelD c w d v
  | [], vs, i, v, h, e => by rw [h.nil_inv] at e; simp at e
  | d :: ds, vs, i, v', h, e => by
    obtain ⟨v, r, rfl, h1, h2⟩ := h.cons_inv
    cases i with
    | zero => simp at e; subst e; exact ⟨d, rfl, h1⟩
    | succ i =>
      have e' : r[i]? = some v' := by simpa using e
      obtain ⟨d', q1, q2⟩ := h2.getV e'
      exact ⟨d', by simpa using q1, q2⟩
theorem RelDs.append {c : Cfg} {w : Wd} : ∀ {ds es : List D} {vs us : List V}, RelDs c w ds vs → RelDs c w es us → RelDs c w (ds ++ es) (vs ++ us)
  | [], es, vs, us, h, k => by rw [h.nil_inv]; exact k
  | d :: ds, es, vs, us, h, k => by
    obtain ⟨v, r, rfl, h1, h2⟩ := h.cons_inv
    exact .cons h1 (h2.append k)
theorem RelDs.drop {c : Cfg} {w : Wd} : ∀ (n : Nat) {ds : List D} {vs : List V}, RelDs c w ds vs → RelDs c w (ds.drop n) (vs.drop n)
  | 0, ds, vs, h => h
  | n + 1, [], vs, h => by rw [h.nil_inv]; exact .nil
  | n + 1, d :: ds, vs, h => by
    obtain ⟨v, r, rfl, h1, h2⟩ := h.cons_inv
    exact h2.drop n
theorem RelDs.take {c : Cfg} {w : Wd} : ∀ (n : Nat) {ds : List D} {vs : List V}, RelDs c w ds vs → RelDs c w (ds.take n) (vs.take n)
  | 0, ds, vs, h => .nil
  | n + 1, [], vs, h => by rw [h.nil_inv]; exact .nil
  | n + 1, d :: ds, vs, h => by
    obtain ⟨v, r, rfl, h1, h2⟩ := h.cons_inv
    exact .cons h1 (h2.take n)
theorem RelDs.reverse {c : Cfg} {w : Wd} : ∀ {ds : List D} {vs : List V}, RelDs c w ds vs → RelDs c w ds.reverse vs.reverse
  | [], vs, h => by rw [h.nil_inv]; exact .nil
  | d :: ds, vs, h => by
    obtain ⟨v, r, rfl, h1, h2⟩ := h.cons_inv
    rw [List.reverse_cons, List.reverse_cons]
    exact h2.reverse.append (.cons h1 .nil)
theorem RelDs.set {c : Cfg} {w : Wd} {d : D} {v : V} (k : RelD c w d v) : ∀ (i : Nat) {ds : List D} {vs : List V}, RelDs c w ds vs → RelDs c w (ds.set i d) (vs.set i v)
  | i, [], vs, h => by rw [h.nil_inv]; exact .nil
  | 0, _ :: ds, vs, h => by
    obtain ⟨v, r, rfl, h1, h2⟩ := h.cons_inv
    exact .cons k h2
  | i + 1, _ :: ds, vs, h => by
    obtain ⟨v, r, rfl, h1, h2⟩ := h.cons_inv
    exact .cons h1 (h2.set k i)
theorem RelDs.eraseIdx {c : Cfg} {w : Wd} : ∀ (i : Nat) {ds : List D} {vs : List V}, RelDs c w ds vs → RelDs c w (ds.eraseIdx i) (vs.eraseIdx i)
  | i, [], vs, h => by rw [h.nil_inv]; exact .nil
  | 0, _ :: ds, vs, h => by
    obtain ⟨v, r, rfl, h1, h2⟩ := h.cons_inv
    exact h2
  | i + 1, _ :: ds, vs, h => by
    obtain ⟨v, r, rfl, h1, h2⟩ := h.cons_inv
    exact .cons h1 (h2.eraseIdx i)
theorem RelDs.dropLast {c : Cfg} {w : Wd} {ds : List D} {vs : List V} (h : RelDs c w ds vs) : RelDs c w ds.dropLast vs.dropLast := by
  rw [List.dropLast_eq_take, List.dropLast_eq_take, h.length]
  exact h.take _
theorem RelDs.ints {c : Cfg} {w : Wd} : ∀ ns : List Int, RelDs c w (ns.map D.int) (ns.map V.int)
  | [] => .nil
  | n :: ns => .cons (by simp only [RelD]) (RelDs.ints ns)
theorem RelDs.one {c : Cfg} {w : Wd} {d : D} {vs : List V} (h : RelDs c w [d] vs) : ∃ v, vs = [v] ∧ RelD c w d v := by
  obtain ⟨v, r, rfl, h1, h2⟩ := h.cons_inv
  rw [h2.nil_inv]
  exact ⟨v, rfl, h1⟩
theorem RelDs.two {c : Cfg} {w : Wd} {d e : D} {vs : List V} (h : RelDs c w [d, e] vs) : ∃ v u, vs = [v, u] ∧ RelD c w d v ∧ RelD c w e u := by
  obtain ⟨v, r, rfl, h1, h2⟩ := h.cons_inv
  obtain ⟨u, rfl, h3⟩ := h2.one
  exact ⟨v, u, rfl, h1, h3⟩

def RelO (c : Cfg) (w : Wd) : Ob → HO → Prop
  | .lst xs, h => ∃ ys, h = .lst ys ∧ RelDs c w xs ys
  | .dK kvs, h => ∃ ys, h = .dK ys ∧ Paired (fun (p : Key × D) (q : Key × V) => p.1 = q.1 ∧ RelD c w p.2 q.2) kvs ys
  | .dT kvs, h => ∃ ys, h = .dT ys ∧ Paired (fun (p : List Key × D) (q : List Key × V) => p.1 = q.1 ∧ RelD c w p.2 q.2) kvs ys
  | .ins _ _, _ => False
theorem RelO.mono {c : Cfg} {w w' : Wd} (h : w.le w') {o : Ob} {ho : HO} (r : RelO c w o ho) : RelO c w' o ho := by
  cases o with
  | lst xs => obtain ⟨ys, e, q⟩ := r; exact ⟨ys, e, q.mono h⟩
  | dK kvs => obtain ⟨ys, e, q⟩ := r; exact ⟨ys, e, Paired.mapP q fun a b z => ⟨z.1, RelD.mono h _ _ z.2⟩⟩
  | dT kvs => obtain ⟨ys, e, q⟩ := r; exact ⟨ys, e, Paired.mapP q fun a b z => ⟨z.1, RelD.mono h _ _ z.2⟩⟩
  | ins _ _ => exact r
structure Rel (c : Cfg) (w : Wd) (S : Store) (H : Hp) : Prop where
  ex : ∀ a o, w.B a = some o → H a = some o
  len : w.ρ.length = S.length
  obj : ∀ (l : Nat) (a : Addr) (o : Ob), w.ρ[l]? = some a → S[l]? = some o → w.B a = none ∧ ∃ h, H a = some h ∧ RelO c w o h
  nd : ∀ (i j : Nat) (a : Addr), w.ρ[i]? = some a → w.ρ[j]? = some a → i = j
def RelEnv (c : Cfg) (w : Wd) (env : Env) (σ : St) : Prop := env.length = σ.length ∧ ∀ (i : Nat) (d : D), env[i]? = some (some d) → ∃ v, σ[i]? = some (some v) ∧ RelD c w d v
theorem RelEnv.mono {c : Cfg} {w w' : Wd} (h : w.le w') {env : Env} {σ : St} (r : RelEnv c w env σ) : RelEnv c w' env σ :=
  ⟨r.1, fun i d e => let ⟨v, q, k⟩ := r.2 i d e; ⟨v, q, k.mono h⟩⟩
theorem RelEnv.set {c : Cfg} {w : Wd} {env : Env} {σ : St} {i : Nat} {d : D} {v : V} (r : RelEnv c w env σ) (k : RelD c w d v) (hi : i < env.length) : RelEnv c w (env.set i (some d)) (σ.set i (some v)) := by
  refine ⟨by rw [List.length_set, List.length_set]; exact r.1, fun j e q => ?_⟩
  by_cases hj : j = i
  · subst hj
    rw [List.getElem?_set_self hi] at q
    cases q
    exact ⟨v, List.getElem?_set_self (by rw [← r.1]; exact hi), k⟩
  · rw [List.getElem?_set_ne (Ne.symm hj)] at q
    obtain ⟨v', q1, q2⟩ := r.2 j e q
    exact ⟨v', by rw [List.getElem?_set_ne (Ne.symm hj)]; exact q1, q2⟩
section
variable {c : Cfg} {w : Wd} {S : Store} {H : Hp}
theorem Rel.there (R : Rel c w S H) {l : Nat} {o : Ob} (h : S[l]? = some o) : ∃ a ho, w.ρ[l]? = some a ∧ w.B a = none ∧ H a = some ho ∧ RelO c w o ho := by
  obtain ⟨hl, _⟩ := List.getElem?_eq_some_iff.mp h
  have hl' : l < w.ρ.length := by rw [R.len]; exact hl
  obtain ⟨n, ho, e1, e2⟩ := R.obj l w.ρ[l] o (List.getElem?_eq_getElem hl') h
  exact ⟨_, ho, List.getElem?_eq_getElem hl', n, e1, e2⟩
theorem Rel.lst (R : Rel c w S H) {l : Nat} {a : Addr} {xs : List D} (hl : w.ρ[l]? = some a) (h : S[l]? = some (.lst xs)) : ∃ ys, H a = some (.lst ys) ∧ RelDs c w xs ys := by
  obtain ⟨_, ho, e1, ys, rfl, e2⟩ := R.obj l a _ hl h
  exact ⟨ys, e1, e2⟩
theorem Rel.freeB (R : Rel c w S H) {p : Addr} (h : H p = none) : w.B p = none := by
  cases e : w.B p with
  | none => rfl
  | some o => rw [R.ex p o e] at h; cases h
theorem Rel.freeR (R : Rel c w S H) {p : Addr} (h : H p = none) {l : Nat} {a : Addr} (hl : w.ρ[l]? = some a) : a ≠ p := by
  rintro rfl
  obtain ⟨h1, _⟩ := List.getElem?_eq_some_iff.mp hl
  have h2 : l < S.length := by rw [← R.len]; exact h1
  obtain ⟨_, ho, e1, _⟩ := R.obj l a S[l] hl (List.getElem?_eq_getElem h2)
  rw [h] at e1; cases e1
/-- the world with more that never changes -/
abbrev Wd.add (w : Wd) (p : Addr) (o : HO) : Wd := ⟨w.ρ, upd w.B p o⟩
theorem Wd.le_add {w : Wd} {p : Addr} {o : HO} (h : w.B p = none) : w.le (w.add p o) :=
  ⟨fun _ _ e => e, fun a u e => by
    show upd w.B p o a = some u
    rw [upd_ne (ne_of_none e h)]; exact e⟩
theorem Rel.add (R : Rel c w S H) {p : Addr} (h : H p = none) (o : HO) : Rel c (w.add p o) S (upd H p o) := by
  have hB := R.freeB h
  refine ⟨fun a u e => ?_, R.len, fun l a ob hl hs => ?_, R.nd⟩
  · by_cases ha : a = p
    · subst ha
      rw [show (w.add a o).B a = some o from upd_same] at e
      rw [upd_same]; exact e
    · rw [show (w.add p o).B a = w.B a from upd_ne ha] at e
      rw [upd_ne ha]; exact R.ex a u e
  · have ha := R.freeR h hl
    obtain ⟨n, ho, e1, e2⟩ := R.obj l a ob hl hs
    refine ⟨by show upd w.B p o a = none; rw [upd_ne ha]; exact n, ho, by rw [upd_ne ha]; exact e1, e2.mono (Wd.le_add hB)⟩
/-- the world with one more object of the store -/
abbrev Wd.more (w : Wd) (p : Addr) : Wd := ⟨w.ρ ++ [p], w.B⟩
theorem Wd.le_more {w : Wd} {p : Addr} : w.le (w.more p) :=
  ⟨fun l a e => by
    obtain ⟨h1, _⟩ := List.getElem?_eq_some_iff.mp e
    show (w.ρ ++ [p])[l]? = some a
    rw [List.getElem?_append_left h1]; exact e, fun _ _ e => e⟩
theorem Rel.more (R : Rel c w S H) {p : Addr} (h : H p = none) {o : Ob} {ho : HO} (ro : RelO c (w.more p) o ho) : Rel c (w.more p) (S ++ [o]) (upd H p ho) := by
  have hB := R.freeB h
  have split : ∀ (l : Nat) (a : Addr), (w.ρ ++ [p])[l]? = some a → w.ρ[l]? = some a ∨ (l = w.ρ.length ∧ a = p) := fun l a e => by
    by_cases hl : l < w.ρ.length
    · rw [List.getElem?_append_left hl] at e; exact .inl e
    · rw [List.getElem?_append_right (by omega)] at e
      obtain ⟨h1, h2⟩ := List.getElem?_eq_some_iff.mp e
      have h3 : l = w.ρ.length := by simp at h1; omega
      subst h3
      simp at h2
      exact .inr ⟨rfl, h2.symm⟩
  refine ⟨fun a u e => ?_, by simp [R.len], fun l a ob hl hs => ?_, fun i j a hi hj => ?_⟩
  · rw [upd_ne (ne_of_none (R.ex a u e) h)]; exact R.ex a u e
  · rcases split l a hl with e | ⟨e1, e2⟩
    · have hl' : l < S.length := by rw [← R.len]; exact (List.getElem?_eq_some_iff.mp e).1
      rw [List.getElem?_append_left hl'] at hs
      obtain ⟨n, hb, q1, q2⟩ := R.obj l a ob e hs
      have ha := R.freeR h e
      exact ⟨n, hb, by rw [upd_ne ha]; exact q1, q2.mono Wd.le_more⟩
    · subst e2
      rw [e1, R.len, List.getElem?_append_right (Nat.le_refl _)] at hs
      simp at hs
      subst hs
      exact ⟨hB, ho, upd_same, ro⟩
  · rcases split i a hi with e | ⟨e1, e2⟩
    · rcases split j a hj with k | ⟨k1, k2⟩
      · exact R.nd i j a e k
      · exact absurd k2 (R.freeR h e)
    · rcases split j a hj with k | ⟨k1, k2⟩
      · exact absurd e2 (R.freeR h k)
      · rw [e1, k1]
theorem Rel.put (R : Rel c w S H) {l : Nat} {a : Addr} (hl : w.ρ[l]? = some a) {o : Ob} {ho : HO} (ro : RelO c w o ho) : Rel c w (S.set l o) (upd H a ho) := by
  have hlt := (List.getElem?_eq_some_iff.mp hl).1
  have hBa : w.B a = none := (R.obj l a (S[l]'(by rw [← R.len]; exact hlt)) hl (List.getElem?_eq_getElem _)).1
  refine ⟨fun b u e => ?_, by rw [List.length_set]; exact R.len, fun j b ob hj hs => ?_, R.nd⟩
  · rw [upd_ne (fun z => by subst z; rw [hBa] at e; cases e)]; exact R.ex b u e
  · by_cases hjl : j = l
    · subst hjl
      rw [hl] at hj; cases hj
      rw [List.getElem?_set_self (by rw [← R.len]; exact hlt)] at hs
      cases hs
      exact ⟨hBa, ho, upd_same, ro⟩
    · rw [List.getElem?_set_ne (Ne.symm hjl)] at hs
      obtain ⟨n, hb, q1, q2⟩ := R.obj j b ob hj hs
      refine ⟨n, hb, ?_, q2⟩
      rw [upd_ne (fun z => hjl (R.nd j l b hj (by rw [z]; exact hl)))]
      exact q1
end

/-- from one state to a later one: nothing but the store's objects is changed, new ones stand at free places -/
structure Go (w : Wd) (H : Hp) (w' : Wd) (H' : Hp) : Prop where
  le : w.le w'
  fr : ∀ (a : Addr) (o : HO), H a = some o → (∀ l : Nat, w.ρ[l]? ≠ some a) → H' a = some o
  nw : ∀ (l : Nat) (a : Addr), w'.ρ[l]? = some a → (∃ j : Nat, w.ρ[j]? = some a) ∨ H a = none
  nb : ∀ (a : Addr) (o : HO), w'.B a = some o → w.B a = some o ∨ (H a = none ∧ ∀ l : Nat, w.ρ[l]? ≠ some a)
theorem Go.refl {w : Wd} {H : Hp} : Go w H w H := ⟨w.le_refl, fun _ _ e _ => e, fun l a e => .inl ⟨l, e⟩, fun _ _ e => .inl e⟩
theorem Go.trans {w w1 w2 : Wd} {H H1 H2 : Hp} (g : Go w H w1 H1) (k : Go w1 H1 w2 H2) : Go w H w2 H2 := by
  refine ⟨g.le.le_trans k.le, fun a o e n => k.fr a o (g.fr a o e n) fun l q => ?_, fun l a e => ?_, fun a o e => ?_⟩
  · rcases g.nw l a q with ⟨j, hj⟩ | h
    · exact n j hj
    · rw [e] at h; cases h
  · rcases k.nw l a e with ⟨j, hj⟩ | h
    · exact g.nw j a hj
    · by_cases hx : ∃ j : Nat, w.ρ[j]? = some a
      · exact .inl hx
      · cases q : H a with
        | none => exact .inr rfl
        | some o =>
          have := g.fr a o q fun l z => hx ⟨l, z⟩
          rw [h] at this; cases this
  · rcases k.nb a o e with e1 | h
    · exact g.nb a o e1
    · by_cases hx : ∃ j : Nat, w.ρ[j]? = some a
      · obtain ⟨j, hj⟩ := hx
        exact absurd (g.le.l j a hj) (h.2 j)
      · cases q : H a with
        | none => exact .inr ⟨rfl, fun l z => hx ⟨l, z⟩⟩
        | some o' =>
          have := g.fr a o' q fun l z => hx ⟨l, z⟩
          rw [h.1] at this; cases this
theorem Go.add {w : Wd} {H : Hp} {p : Addr} {o : HO} (hB : w.B p = none) (h : H p = none) (hr : ∀ l : Nat, w.ρ[l]? ≠ some p) : Go w H (w.add p o) (upd H p o) := by
  refine ⟨Wd.le_add hB, fun a u e _ => by rw [upd_ne (ne_of_none e h)]; exact e, fun l a e => .inl ⟨l, e⟩, fun a u e => ?_⟩
  by_cases ha : a = p
  · subst ha; exact .inr ⟨h, hr⟩
  · rw [show (w.add p o).B a = w.B a from upd_ne ha] at e; exact .inl e
theorem Go.more {w : Wd} {H : Hp} {p : Addr} {o : HO} (h : H p = none) : Go w H (w.more p) (upd H p o) := by
  refine ⟨Wd.le_more, fun a u e _ => by rw [upd_ne (ne_of_none e h)]; exact e, fun l a e => ?_, fun a u e => .inl e⟩
  by_cases hl : l < w.ρ.length
  · rw [show (w.more p).ρ = w.ρ ++ [p] from rfl, List.getElem?_append_left hl] at e; exact .inl ⟨l, e⟩
  · rw [show (w.more p).ρ = w.ρ ++ [p] from rfl, List.getElem?_append_right (by omega)] at e
    have := List.mem_of_getElem? e
    simp at this
    rw [this]; exact .inr h
theorem Go.put {w : Wd} {H : Hp} {l : Nat} {a : Addr} {o : HO} (hl : w.ρ[l]? = some a) : Go w H w (upd H a o) :=
  ⟨w.le_refl, fun b u e n => by rw [upd_ne (fun z => n l (by rw [z]; exact hl))]; exact e, fun l a e => .inl ⟨l, e⟩, fun _ _ e => .inl e⟩
section
variable {c : Cfg} {w w1 : Wd} {S S1 : Store} {H H1 : Hp} {p : Addr}
theorem Rel.notR (R : Rel c w S H) (h : H p = none) (l : Nat) : w.ρ[l]? ≠ some p := fun e => R.freeR h e rfl
/-- something else is laid, or changed -/
theorem Rel.other (R : Rel c w S H) {o : HO} (hB : w.B p = none) (hr : ∀ l : Nat, w.ρ[l]? ≠ some p) : Rel c w S (upd H p o) := by
  refine ⟨fun a u e => ?_, R.len, fun l a ob hl hs => ?_, R.nd⟩
  · rw [upd_ne (fun z => by subst z; rw [hB] at e; cases e)]; exact R.ex a u e
  · obtain ⟨n, ho, e1, e2⟩ := R.obj l a ob hl hs
    exact ⟨n, ho, by rw [upd_ne (fun z => hr l (by rw [← z]; exact hl))]; exact e1, e2⟩
theorem Go.other (g : Go w H w1 H1) {o : HO} (h : H p = none) : Go w H w1 (upd H1 p o) :=
  ⟨g.le, fun a u e n => by rw [upd_ne (ne_of_none e h)]; exact g.fr a u e n, g.nw, g.nb⟩
theorem Go.free (g : Go w H w1 H1) (R1 : Rel c w1 S1 H1) (h : H1 p = none) : H p = none := by
  by_cases hx : ∃ j : Nat, w.ρ[j]? = some p
  · obtain ⟨j, hj⟩ := hx
    exact absurd (g.le.l j p hj) (R1.notR h j)
  · cases q : H p with
    | none => rfl
    | some o => have := g.fr p o q fun l z => hx ⟨l, z⟩; rw [h] at this; cases this
/-- what stands at p is from now on never changed -/
theorem Rel.adopt (R : Rel c w S H) {o : HO} (h : H p = some o) (hB : w.B p = none) (hr : ∀ l : Nat, w.ρ[l]? ≠ some p) : Rel c (w.add p o) S H := by
  refine ⟨fun a u e => ?_, R.len, fun l a ob hl hs => ?_, R.nd⟩
  · by_cases ha : a = p
    · subst ha
      rw [show (w.add a o).B a = some o from upd_same] at e
      cases e; exact h
    · rw [show (w.add p o).B a = w.B a from upd_ne ha] at e
      exact R.ex a u e
  · obtain ⟨n, ho, e1, e2⟩ := R.obj l a ob hl hs
    exact ⟨by show upd w.B p o a = none; rw [upd_ne (fun z => hr l (by rw [← z]; exact hl))]; exact n, ho, e1, e2.mono (Wd.le_add hB)⟩
/-- what stands at p is an object of the store -/
theorem Rel.adoptO (R : Rel c w S H) {ho : HO} {o : Ob} (h : H p = some ho) (hB : w.B p = none) (hr : ∀ l : Nat, w.ρ[l]? ≠ some p) (ro : RelO c (w.more p) o ho) : Rel c (w.more p) (S ++ [o]) H := by
  have split : ∀ (l : Nat) (a : Addr), (w.ρ ++ [p])[l]? = some a → w.ρ[l]? = some a ∨ (l = w.ρ.length ∧ a = p) := fun l a e => by
    by_cases hl : l < w.ρ.length
    · rw [List.getElem?_append_left hl] at e; exact .inl e
    · rw [List.getElem?_append_right (by omega)] at e
      obtain ⟨h1, h2⟩ := List.getElem?_eq_some_iff.mp e
      have h3 : l = w.ρ.length := by simp at h1; omega
      subst h3
      simp at h2
      exact .inr ⟨rfl, h2.symm⟩
  refine ⟨R.ex, by simp [R.len], fun l a ob hl hs => ?_, fun i j a hi hj => ?_⟩
  · rcases split l a hl with e | ⟨e1, e2⟩
    · have hl' : l < S.length := by rw [← R.len]; exact (List.getElem?_eq_some_iff.mp e).1
      rw [List.getElem?_append_left hl'] at hs
      obtain ⟨n, hb, q1, q2⟩ := R.obj l a ob e hs
      exact ⟨n, hb, q1, q2.mono Wd.le_more⟩
    · subst e2
      rw [e1, R.len, List.getElem?_append_right (Nat.le_refl _)] at hs
      simp at hs
      subst hs
      exact ⟨hB, ho, h, ro⟩
  · rcases split i a hi with e | ⟨e1, e2⟩
    · rcases split j a hj with k | ⟨k1, k2⟩
      · exact R.nd i j a e k
      · exact absurd (by rw [← k2]; exact e) (hr i)
    · rcases split j a hj with k | ⟨k1, k2⟩
      · exact absurd (by rw [← e2]; exact k) (hr j)
      · rw [e1, k1]
end

/-! ### readings by the plain machine -/
section
variable (c : Cfg) (F : Fn)
def SemE (e : E) : TE := fun σ H Q => ∃ w S env d S', Rel c w S H ∧ RelEnv c w env σ ∧ ev F e env S = .ok d S' ∧ ∀ w' H' v, Go w H w' H' → Rel c w' S' H' → RelD c w' d v → Q v H'
def SemT (e : E) : TT := fun σ H Q => ∃ w S env b S', Rel c w S H ∧ RelEnv c w env σ ∧ ev F e env S = .ok (.bl b) S' ∧ ∀ w' H', Go w H w' H' → Rel c w' S' H' → Q b H'
def SemA (es : List E) : TA := fun σ H Q => ∃ w S env ds S', Rel c w S H ∧ RelEnv c w env σ ∧ evs F es env S = .ok ds S' ∧ ∀ w' H' vs, Go w H w' H' → Rel c w' S' H' → RelDs c w' ds vs → Q vs H'
/-- an operation on values -/
def Sem2 (f : Store → D → D → Option D) : R2 := fun x y H Q => ∃ w S d1 d2 d, Rel c w S H ∧ RelD c w d1 x ∧ RelD c w d2 y ∧ f S d1 d2 = some d ∧ ∀ w' H' v, Go w H w' H' → Rel c w' S H' → RelD c w' d v → Q v H'
def SemC (f : Store → List D → Option D) : List V → Hp → VK → Prop := fun vs H Q => ∃ w S ds d, Rel c w S H ∧ RelDs c w ds vs ∧ f S ds = some d ∧ ∀ w' H' v, Go w H w' H' → Rel c w' S H' → RelD c w' d v → Q v H'
def SemM (f : Store → D → List D → Res D) : V → List V → Hp → VK → Prop := fun x vs H Q => ∃ w S d0 ds d S', Rel c w S H ∧ RelD c w d0 x ∧ RelDs c w ds vs ∧ f S d0 ds = .ok d S' ∧ ∀ w' H' v, Go w H w' H' → Rel c w' S' H' → RelD c w' d v → Q v H'
def SemB (body : Env → Store → Out) : TS := fun Dn σ H => ∃ w S env, Rel c w S H ∧ RelEnv c w env σ ∧ match body env S with
  | .nx env' S' => ∀ w' σ' H', Go w H w' H' → Rel c w' S' H' → RelEnv c w' env' σ' → Dn.nx σ' H'
  | .rt d S' => ∀ w' H' v, Go w H w' H' → Rel c w' S' H' → RelD c w' d v → Dn.rt v H'
  | .bk env' S' => ∀ w' σ' H', Go w H w' H' → Rel c w' S' H' → RelEnv c w' env' σ' → Dn.bk σ' H'
  | .ct env' S' => ∀ w' σ' H', Go w H w' H' → Rel c w' S' H' → RelEnv c w' env' σ' → Dn.ct σ' H'
  | .bad => False
end
section
variable {X : Cx}
theorem PE.imp {e : Expr} {t t' : TE} (h : PE X e t) (i : ∀ σ H Q, t' σ H Q → t σ H Q) : PE X e t' := ⟨fun pins s σ H Q I q => h.run pins s σ H Q I (i σ H Q q)⟩
theorem PT.imp {e : Expr} {t t' : TT} (h : PT X e t) (i : ∀ σ H Q, t' σ H Q → t σ H Q) : PT X e t' := ⟨fun pins s σ H Q I q => h.run pins s σ H Q I (i σ H Q q)⟩
theorem PW.imp {e : Expr} {t t' : TT} (h : PW X e t) (i : ∀ σ H Q, t' σ H Q → t σ H Q) : PW X e t' := ⟨fun wh pins s σ H Q I q => h.run wh pins s σ H Q I (i σ H Q q)⟩
theorem PA.imp {e : List Expr} {t t' : TA} (h : PA X e t) (i : ∀ σ H Q, t' σ H Q → t σ H Q) : PA X e t' := ⟨fun pos pins s σ H Q I q => h.run pos pins s σ H Q I (i σ H Q q)⟩
theorem PK.imp {e : List Keyword} {t t' : TA} (h : PK X e t) (i : ∀ σ H Q, t' σ H Q → t σ H Q) : PK X e t' := ⟨fun pos pins s σ H Q I q => h.run pos pins s σ H Q I (i σ H Q q)⟩
theorem PS.imp {e : Stmt} {t t' : TS} (h : PS X e t) (i : ∀ D σ H, t' D σ H → t D σ H) : PS X e t' := ⟨fun pins s σ H D I q => h.run pins s σ H D I (i D σ H q)⟩
theorem PSs.imp {e : List Stmt} {t t' : TS} (h : PSs X e t) (i : ∀ D σ H, t' D σ H → t D σ H) : PSs X e t' := ⟨fun pins s σ H D I q => h.run pins s σ H D I (i D σ H q)⟩
theorem OpR.imp {f : Value → Value → Sem Value} {r r' : R2} (h : OpR X f r) (i : ∀ x y H Q, r' x y H Q → r x y H Q) : OpR X f r' := fun pins s σ H x y v u Q I rx ry q => h pins s σ H x y v u Q I rx ry (i x y H Q q)
theorem CallR.imp {f : Value} {r r' : List V → Hp → VK → Prop} (h : CallR X f r) (i : ∀ x H Q, r' x H Q → r x H Q) : CallR X f r' := fun pins s σ H xs us Q I rx q => h pins s σ H xs us Q I rx (i xs H Q q)
theorem MtR.imp {id : String} {r r' : V → List V → Hp → VK → Prop} (h : MtR X id r) (i : ∀ x xs H Q, r' x xs H Q → r x xs H Q) : MtR X id r' := fun pins s σ H x xs v us Q I rx rv q => h pins s σ H x xs v us Q I rx rv (i x xs H Q q)
theorem IxR.imp {r r' : R2} (h : IxR X r) (i : ∀ x y H Q, r' x y H Q → r x y H Q) : IxR X r' := fun v sl pins s σ H x y a b Q I rx ry q => h v sl pins s σ H x y a b Q I rx ry (i x y H Q q)
theorem SlR.imp {r r' : V → Option Int → Option Int → Hp → VK → Prop} (h : SlR X r) (i : ∀ x l u H Q, r' x l u H Q → r x l u H Q) : SlR X r' := fun pins s σ H x v vl vu lo hi sl Q I r hs pl pu q => h pins s σ H x v vl vu lo hi sl Q I r hs pl pu (i x lo hi H Q q)
end
end MP

/-! MP2: operators, built-ins, methods: the heap's rules give what the plain machine says. -/
namespace MP
open PySem L2

theorem lim_le {n : Nat} (h : n ≤ LIM) : n ≤ sizeLine := Nat.le_trans h (by decide)
theorem lim_lt {n : Nat} (h : n < LIM) : n < sizeLine := Nat.lt_of_lt_of_le h (by decide)
/-- a value read in the heap as it stands -/
def Vw (c : Cfg) (w : Wd) (H : Hp) : D → V → Prop
  | .tup xs, v => ∃ a ys, v = .ref a ∧ SqT c.K H a ys ∧ RelDs c w xs ys
  | .lst xs, v => ∃ a ys, v = .ref a ∧ H a = some (.lst ys) ∧ RelDs c w xs ys
  | .scr ns, v => ∃ a, v = .ref a ∧ SqL c.K H a (ns.map V.int)
  | .dct ks vs, v => ∃ a ys, v = .ref a ∧ H a = some (.dK ys) ∧ ys.map (·.1) = ks ∧ RelDs c w vs (ys.map (·.2))
  | .emp, v => ∃ a, v = .ref a ∧ H a = some (.dK [])
  | d, v => RelD c w d v
section
variable {c : Cfg} {w : Wd} {S : Store} {H : Hp}
theorem Rel.view0 (R : Rel c w S H) {d : D} {v : V} (r : RelD c w d v) : Vw c w H d v := by
  cases d <;> simp only [RelD, Vw] at r ⊢ <;> try exact r
  · obtain ⟨a, ys, e1, e2, e3⟩ := r; exact ⟨a, ys, e1, sqT_mono R.ex e2, e3⟩
  · obtain ⟨a, ys, e1, e2, e3⟩ := r; exact ⟨a, ys, e1, R.ex _ _ e2, e3⟩
  · obtain ⟨a, e1, e2⟩ := r; exact ⟨a, e1, sqL_mono R.ex e2⟩
  · obtain ⟨a, ys, e1, e2, e3, e4⟩ := r; exact ⟨a, ys, e1, R.ex _ _ e2, e3, e4⟩
  · obtain ⟨a, e1, e2⟩ := r; exact ⟨a, e1, R.ex _ _ e2⟩
theorem paired_dk {kvs : List (Key × D)} {ys : List (Key × V)} (h : Paired (fun (p : Key × D) (q : Key × V) => p.1 = q.1 ∧ RelD c w p.2 q.2) kvs ys) : ys.map (·.1) = kvs.map (·.1) ∧ RelDs c w (kvs.map (·.2)) (ys.map (·.2)) := by
  induction h with
  | nil => exact ⟨rfl, .nil⟩
  | cons h t ih => exact ⟨by rw [List.map_cons, List.map_cons, ih.1, h.1], .cons h.2 ih.2⟩
theorem Rel.view (R : Rel c w S H) {d : D} {v : V} (r : RelD c w d v) : Vw c w H (deref S d) v := by
  by_cases h0 : ∃ l kvs, d = .ref l ∧ S[l]? = some (.dK kvs)
  · obtain ⟨l, kvs, rfl, e⟩ := h0
    simp only [RelD] at r
    obtain ⟨a, h1, rfl⟩ := r
    obtain ⟨_, ho, e1, ys, rfl, q⟩ := R.obj l a _ h1 e
    simp only [deref, e, Vw]
    exact ⟨a, ys, rfl, e1, (paired_dk q).1, (paired_dk q).2⟩
  by_cases h : ∃ l xs, d = .ref l ∧ S[l]? = some (.lst xs)
  · obtain ⟨l, xs, rfl, e⟩ := h
    simp only [RelD] at r
    obtain ⟨a, h1, rfl⟩ := r
    obtain ⟨ys, q1, q2⟩ := R.lst h1 e
    simp only [deref, e, Vw]
    exact ⟨a, ys, rfl, q1, q2⟩
  · have e : deref S d = d := by
      cases d <;> try rfl
      rename_i l
      simp only [deref]
      split
      · rename_i xs e; exact absurd ⟨l, xs, rfl, e⟩ h
      · rename_i xs e; exact absurd ⟨l, xs, rfl, e⟩ h0
      · rfl
    rw [e]
    exact R.view0 r
theorem deref_inv {S : Store} {d e : D} (h : deref S d = e) (n : ∀ xs, e ≠ .lst xs) (n2 : ∀ ks vs, e ≠ .dct ks vs := by intro _ _ h; cases h) : d = e := by
  cases d <;> try exact h
  rename_i l
  simp only [deref] at h
  split at h
  · exact absurd h.symm (n _)
  · exact absurd h.symm (n2 _ _)
  · exact h
theorem lookK_rel {k : Key} : ∀ {ys : List (Key × V)} {vs : List D}, RelDs c w vs (ys.map (·.2)) → match lookK k (ys.map (·.1)) vs with
    | none => valV ys k = none
    | some d => ∃ v, valV ys k = some v ∧ RelD c w d v
  | [], vs, h => by
    cases vs with
    | nil => exact rfl
    | cons d ds => obtain ⟨v, r, e, _⟩ := h.cons_inv; cases e
  | (q, y) :: ys, vs, h => by
    cases vs with
    | nil => have := h.nil_inv; cases this
    | cons d ds =>
      obtain ⟨v, r, e, h1, h2⟩ := h.cons_inv
      cases e
      show match (if q = k then some d else lookK k (ys.map (·.1)) ds) with
        | none => valV ((q, y) :: ys) k = none
        | some d => ∃ v, valV ((q, y) :: ys) k = some v ∧ RelD c w d v
      by_cases e : q = k
      · rw [if_pos e]
        exact ⟨y, valV_pos e, h1⟩
      · rw [if_neg e, valV_neg e]
        exact lookK_rel h2
theorem dget_of {e : D} {ks : List Key} {vs : List D} {x y : V} {k : Key} (vx : Vw c w H e x) (vy : Vw c w H (.dct ks vs) y) (hk : keyD e = some k) : ∃ a o, y = .ref a ∧ DGet H a x o ∧ match lookK k ks vs with
    | none => o = none
    | some d => ∃ v, o = some v ∧ RelD c w d v := by
  simp only [Vw] at vy
  obtain ⟨a, ys, rfl, h1, rfl, h2⟩ := vy
  have hx : x = kV k := by
    cases e <;> simp only [keyD] at hk <;> cases hk <;> (simp only [Vw, RelD] at vx; exact vx)
  subst hx
  exact ⟨a, valV ys k, rfl, DGet.k h1, lookK_rel h2⟩
theorem op_in_dict {X : Cx} (hu : X.A.units + 1 < cLine) : OpR X (compareOp .In) (fun x y H Q => ∃ a o, y = .ref a ∧ DGet H a x o ∧ Q (.bl o.isSome) H) := by
  intro pins s σ H x y v u Q I rx ry ⟨a, o, e, g, q⟩
  subst e
  obtain rfl : u = Value.ref a := ry
  exact d_in hu I g rx fun s3 I3 => ⟨.bl o.isSome, H, I3, rfl, q⟩
theorem op_notin_dict {X : Cx} (hu : X.A.units + 1 < cLine) : OpR X (compareOp .NotIn) (fun x y H Q => ∃ a o, y = .ref a ∧ DGet H a x o ∧ Q (.bl (!o.isSome)) H) := by
  intro pins s σ H x y v u Q I rx ry ⟨a, o, e, g, q⟩
  subst e
  obtain rfl : u = Value.ref a := ry
  exact d_notIn hu I g rx fun s3 I3 => ⟨.bl (!o.isSome), H, I3, rfl, q⟩
theorem Rel.newTup (R : Rel c w S H) {xs : List D} {ys : List V} {p : Addr} (rs : RelDs c w xs ys) (hp : H p = none) :
    Go w H (w.add p (.tup ys)) (upd H p (.tup ys)) ∧ Rel c (w.add p (.tup ys)) S (upd H p (.tup ys)) ∧ RelD c (w.add p (.tup ys)) (.tup xs) (.ref p) := by
  have le := Wd.le_add (o := .tup ys) (R.freeB hp)
  refine ⟨Go.add (R.freeB hp) hp (R.notR hp), R.add hp _, ?_⟩
  simp only [RelD]
  exact ⟨p, ys, rfl, .inl (.inl (show upd w.B p (.tup ys) p = some (.tup ys) from upd_same)), rs.mono le⟩
theorem Rel.newLst (R : Rel c w S H) {xs : List D} {ys : List V} {p : Addr} (rs : RelDs c w xs ys) (hp : H p = none) :
    Go w H (w.add p (.lst ys)) (upd H p (.lst ys)) ∧ Rel c (w.add p (.lst ys)) S (upd H p (.lst ys)) ∧ RelD c (w.add p (.lst ys)) (.lst xs) (.ref p) := by
  have le := Wd.le_add (o := .lst ys) (R.freeB hp)
  refine ⟨Go.add (R.freeB hp) hp (R.notR hp), R.add hp _, ?_⟩
  simp only [RelD]
  exact ⟨p, ys, rfl, (show upd w.B p (.lst ys) p = some (.lst ys) from upd_same), rs.mono le⟩
mutual
theorem dp_of {H : Hp} (ex : ∀ a o, w.B a = some o → H a = some o) : ∀ (d : D) (v : V) (p : PyData), RelD c w d v → toPy d = some p → Dp c.K H v p
  | .non, v, p, r, e => by simp only [RelD, toPy] at r e; cases e; subst r; exact .non
  | .bl b, v, p, r, e => by simp only [RelD, toPy] at r e; cases e; subst r; exact .bl b
  | .int b, v, p, r, e => by simp only [RelD, toPy] at r e; cases e; subst r; exact .int b
  | .str b, v, p, r, e => by simp only [RelD, toPy] at r e; cases e; subst r; exact .str b
  | .tup xs, v, p, r, e => by
    simp only [RelD, toPy] at r e
    obtain ⟨a, ys, rfl, h1, h2⟩ := r
    cases q : toPys xs with
    | none => rw [q] at e; cases e
    | some ps => rw [q] at e; cases e; exact .tup (sqT_mono ex h1) (dps_of ex xs ys ps h2 q)
  | .lst xs, v, p, r, e => by
    simp only [RelD, toPy] at r e
    obtain ⟨a, ys, rfl, h1, h2⟩ := r
    cases q : toPys xs with
    | none => rw [q] at e; cases e
    | some ps => rw [q] at e; cases e; exact .lst (SqL.of (ex _ _ h1)) (dps_of ex xs ys ps h2 q)
  | .scr _, _, _, _, e => by simp only [toPy] at e; cases e
  | .ref _, _, _, _, e => by simp only [toPy] at e; cases e
  | .fn _, _, _, _, e => by simp only [toPy] at e; cases e
  | .ty _, _, _, _, e => by simp only [toPy] at e; cases e
  | .emp, _, _, _, e => by simp only [toPy] at e; cases e
  | .dct _ _, _, _, _, e => by simp only [toPy] at e; cases e
theorem dps_of {H : Hp} (ex : ∀ a o, w.B a = some o → H a = some o) : ∀ (ds : List D) (vs : List V) (ps : List PyData), RelDs c w ds vs → toPys ds = some ps → DpAll c.K H vs ps
  | [], vs, ps, r, e => by simp only [toPys] at e; cases e; rw [r.nil_inv]; exact .nil
  | d :: ds, vs, ps, r, e => by
    obtain ⟨v, r', rfl, h1, h2⟩ := r.cons_inv
    simp only [toPys] at e
    cases q : toPy d with
    | none => rw [q] at e; cases e
    | some p =>
      cases q2 : toPys ds with
      | none => rw [q, q2] at e; cases e
      | some ps' =>
        rw [q, q2] at e; cases e
        exact .cons (dp_of ex d v p h1 q) (dps_of ex ds r' ps' h2 q2)
end
theorem Rel.dp (R : Rel c w S H) {d : D} {v : V} {p : PyData} (r : Vw c w H d v) (e : toPy d = some p) : Dp c.K H v p := by
  cases d <;> simp only [Vw, RelD, toPy] at r e <;> try cases e
  · subst r; exact .non
  · subst r; exact .bl _
  · subst r; exact .int _
  · subst r; exact .str _
  · obtain ⟨a, ys, rfl, h1, h2⟩ := r
    rename_i xs
    cases q : toPys xs with
    | none => rw [q] at e; cases e
    | some ps => rw [q] at e; cases e; exact .tup h1 (dps_of R.ex xs ys ps h2 q)
  · obtain ⟨a, ys, rfl, h1, h2⟩ := r
    rename_i xs
    cases q : toPys xs with
    | none => rw [q] at e; cases e
    | some ps => rw [q] at e; cases e; exact .lst (SqL.of h1) (dps_of R.ex xs ys ps h2 q)
theorem flat_of {d : D} {v : V} (r : RelD c w d v) (f : flat d = true) : flatV v = true := by
  cases d <;> simp only [flat, RelD] at r f <;> first | (subst r; rfl) | (cases f; done)
theorem flats_of : ∀ {ds : List D} {vs : List V}, RelDs c w ds vs → ds.all flat = true → vs.all flatV = true
  | [], vs, r, _ => by rw [r.nil_inv]; rfl
  | d :: ds, vs, r, f => by
    obtain ⟨v, r', rfl, h1, h2⟩ := r.cons_inv
    rw [List.all_cons, Bool.and_eq_true] at f
    rw [List.all_cons, flat_of h1 f.1, flats_of h2 f.2]
    rfl
theorem eqF_of {d e : D} {v u : V} (r : RelD c w d v) (q : RelD c w e u) (f : flat d = true) (g : flat e = true) : eqV v u = eqF d e := by
  cases d <;> simp only [flat, RelD] at r f <;> first | (cases f; done) | skip
  all_goals cases e <;> simp only [flat, RelD] at q g <;> first | (cases g; done) | skip
  all_goals (subst r; subst q; rfl)
theorem inF_of {d : D} {v : V} (r : RelD c w d v) (f : flat d = true) : ∀ {ds : List D} {vs : List V}, RelDs c w ds vs → ds.all flat = true → inV v vs = inF d ds
  | [], vs, q, _ => by rw [q.nil_inv]; rfl
  | e :: ds, vs, q, g => by
    obtain ⟨u, r', rfl, h1, h2⟩ := q.cons_inv
    rw [List.all_cons, Bool.and_eq_true] at g
    have ih := inF_of r f h2 g.2
    unfold inV inF at ih ⊢
    rw [List.any_cons, List.any_cons, ih, eqF_of h1 r g.1 f]
end

/-! ### operators -/
def fBin (o : BOp) : Store → D → D → Option D := fun S x y => binD o (deref S x) (deref S y)
def fCmp (o : COp) : Store → D → D → Option D := fun S x y => (cmpD o (deref S x) (deref S y)).map .bl
section
variable {X : Cx} {c : Cfg}
theorem op_add_bi : OpR X (binaryOp .Add) (fun x y H Q => ∃ i k, x = .bl i ∧ y = .int k ∧ Q (.int ((if i = true then 1 else 0) + k)) H) := by
  rintro pins s σ H x y v u Q I rx ry ⟨i, k, rfl, rfl, q⟩
  cases rx
  obtain ⟨t, rfl⟩ := ry
  exact PySem.IntBool.add_bool_int ⟨.int _, H, I.tok _, ⟨_, rfl⟩, q⟩
theorem op_add_bb : OpR X (binaryOp .Add) (fun x y H Q => ∃ i k, x = .bl i ∧ y = .bl k ∧ Q (.int ((if i = true then 1 else 0) + (if k = true then 1 else 0))) H) := by
  rintro pins s σ H x y v u Q I rx ry ⟨i, k, rfl, rfl, q⟩
  cases rx
  cases ry
  exact PyProof.Rows.add_bool ⟨.int _, H, I.tok _, ⟨_, rfl⟩, q⟩
theorem op_sub_bi : OpR X (binaryOp .Sub) (fun x y H Q => ∃ i k, x = .bl i ∧ y = .int k ∧ Q (.int ((if i = true then 1 else 0) - k)) H) := by
  rintro pins s σ H x y v u Q I rx ry ⟨i, k, rfl, rfl, q⟩
  cases rx
  obtain ⟨t, rfl⟩ := ry
  exact PySem.IntBool.sub_bool_int ⟨.int _, H, I.tok _, ⟨_, rfl⟩, q⟩
theorem op_sub_ib : OpR X (binaryOp .Sub) (fun x y H Q => ∃ i k, x = .int i ∧ y = .bl k ∧ Q (.int (i - (if k = true then 1 else 0))) H) := by
  rintro pins s σ H x y v u Q I rx ry ⟨i, k, rfl, rfl, q⟩
  obtain ⟨t, rfl⟩ := rx
  cases ry
  exact PySem.IntBool.sub_int_bool ⟨.int _, H, I.tok _, ⟨_, rfl⟩, q⟩
theorem op_addS (hK : X.K = c.K) : OpR X (binaryOp .Add) (Sem2 c (fBin .add)) :=
  OpR.imp ((op_add_bb.or op_add_bi).or (op_add.or (op_add_str.or (op_catA.or op_cat)))) fun x y H Q ⟨w, S, d1, d2, d, R, r1, r2, e, k⟩ => by
    have v1 := R.view r1
    have v2 := R.view r2
    unfold fBin at e
    generalize h1 : deref S d1 = e1 at *
    generalize h2 : deref S d2 = e2 at *
    cases e1 <;> cases e2 <;> simp only [binD] at e <;> first | (cases e; done) | skip
    · simp only [Vw, RelD] at v1 v2
      cases e; subst v1 v2
      exact .inl (.inl ⟨_, _, rfl, rfl, k w H _ Go.refl R (by simp only [RelD])⟩)
    · simp only [Vw, RelD] at v1 v2
      cases e; subst v1 v2
      exact .inl (.inr ⟨_, _, rfl, rfl, k w H _ Go.refl R (by simp only [RelD])⟩)
    · simp only [Vw, RelD] at v1 v2
      cases e; subst v1 v2
      exact .inr (.inl ⟨_, _, rfl, rfl, k w H _ Go.refl R (by simp only [RelD])⟩)
    · simp only [Vw, RelD] at v1 v2
      split at e
      · rename_i h
        cases e; subst v1 v2
        exact .inr (.inr (.inl ⟨_, _, rfl, rfl, lim_le h, k w H _ Go.refl R (by simp only [RelD])⟩))
      · cases e
    · simp only [Vw] at v1 v2
      split at e
      · cases e
        rename_i xs ys h
        have g1 := deref_inv h1 (fun _ z => nomatch z)
        have g2 := deref_inv h2 (fun _ z => nomatch z)
        subst g1 g2
        obtain ⟨a, vs, rfl, h1, q1⟩ := v1
        obtain ⟨b, us, rfl, h2, q2⟩ := v2
        have l1 := q1.length
        have l2 := q2.length
        refine .inr (.inr (.inr (.inl ⟨a, b, vs, us, rfl, rfl, by rw [hK]; exact h1, by rw [hK]; exact h2, by rw [← l1, ← l2]; exact lim_le h, fun hx => ?_, fun hx hy => ?_, fun hx hy p hp => ?_⟩)))
        · have : xs = [] := by rw [← List.length_eq_zero_iff, l1, hx]; rfl
          subst this
          exact k w H _ Go.refl R r2
        · have : ys = [] := by rw [← List.length_eq_zero_iff, l2, hy]; rfl
          subst this
          rw [List.append_nil] at k
          exact k w H _ Go.refl R r1
        · obtain ⟨z1, z2, z3⟩ := R.newTup (q1.append q2) hp
          exact k _ _ _ z1 z2 z3
      · cases e
    · simp only [Vw] at v1 v2
      split at e
      · cases e
        rename_i xs ys h
        obtain ⟨a, vs, rfl, h1, q1⟩ := v1
        obtain ⟨b, us, rfl, h2, q2⟩ := v2
        refine .inr (.inr (.inr (.inr ⟨a, b, vs, us, rfl, rfl, h1, h2, by rw [← q1.length, ← q2.length]; exact lim_le h, fun p hp => ?_⟩)))
        obtain ⟨z1, z2, z3⟩ := R.newLst (q1.append q2) hp
        exact k _ _ _ z1 z2 z3
      · cases e
/-- an operation on two ints -/
theorem op_ints {f : Value → Value → Sem Value} {o : BOp} {C : Int → Int → Prop} {g : Int → Int → Int} (h : OpR X f (rI C fun i j => .int (g i j)))
    (hb : ∀ a b d, binD o a b = some d → ∃ i j, a = .int i ∧ b = .int j ∧ C i j ∧ d = .int (g i j)) : OpR X f (Sem2 c (fBin o)) :=
  OpR.imp h fun x y H Q ⟨w, S, d1, d2, d, R, r1, r2, e, k⟩ => by
    have v1 := R.view r1
    have v2 := R.view r2
    obtain ⟨i, j, e1, e2, hc, rfl⟩ := hb _ _ _ e
    rw [e1] at v1
    rw [e2] at v2
    simp only [Vw, RelD] at v1 v2
    exact ⟨i, j, v1, v2, hc, k w H _ Go.refl R (by simp only [RelD])⟩
theorem op_subS : OpR X (binaryOp .Sub) (Sem2 c (fBin .sub)) :=
  OpR.imp (op_sub.or (op_sub_bi.or op_sub_ib)) fun x y H Q ⟨w, S, d1, d2, d, R, r1, r2, e, k⟩ => by
    have v1 := R.view r1
    have v2 := R.view r2
    unfold fBin at e
    generalize h1 : deref S d1 = e1 at *
    generalize h2 : deref S d2 = e2 at *
    cases e1 <;> cases e2 <;> simp only [binD] at e <;> first | (cases e; done) | skip
    · simp only [Vw, RelD] at v1 v2
      cases e; subst v1 v2
      exact .inr (.inl ⟨_, _, rfl, rfl, k w H _ Go.refl R (by simp only [RelD])⟩)
    · simp only [Vw, RelD] at v1 v2
      cases e; subst v1 v2
      exact .inr (.inr ⟨_, _, rfl, rfl, k w H _ Go.refl R (by simp only [RelD])⟩)
    · simp only [Vw, RelD] at v1 v2
      cases e; subst v1 v2
      exact .inl ⟨_, _, rfl, rfl, k w H _ Go.refl R (by simp only [RelD])⟩
theorem mulOk_of {i j : Int} (h : mulOk i j = true) : CMulW i j := by
  unfold mulOk at h
  rw [Bool.and_eq_true, decide_eq_true_iff, decide_eq_true_iff] at h
  exact wide_mul (a := 4096) (b := 4096) h.1 h.2 (by decide) (by decide) (by decide)
theorem op_mulS : OpR X (binaryOp .Mult) (Sem2 c (fBin .mul)) := op_ints op_mulW fun a b d e => by
  cases a <;> cases b <;> simp only [binD] at e <;> try cases e
  split at e
  · cases e
    rename_i h
    exact ⟨_, _, rfl, rfl, mulOk_of h, rfl⟩
  · cases e
theorem op_fdivS : OpR X (binaryOp .FloorDiv) (Sem2 c (fBin .fdiv)) := op_ints op_fdivW fun a b d e => by
  cases a <;> cases b <;> simp only [binD] at e <;> try cases e
  split at e
  · cases e
    rename_i h
    exact ⟨_, _, rfl, rfl, wide_div (b := 4096) h.1 h.2 (by decide) (by decide), rfl⟩
  · cases e
theorem op_modS : OpR X (binaryOp .Mod) (Sem2 c (fBin .mod)) := op_ints op_mod fun a b d e => by
  cases a <;> cases b <;> simp only [binD] at e <;> try cases e
  split at e
  · cases e
    rename_i h
    exact ⟨_, _, rfl, rfl, h, rfl⟩
  · cases e
theorem op_powS : OpR X (binaryOp .Pow) (Sem2 c (fBin .pow)) := op_ints op_pow fun a b d e => by
  cases a <;> cases b <;> simp only [binD] at e <;> try cases e
  split at e
  · cases e
    rename_i h
    exact ⟨_, _, rfl, rfl, ⟨h.1, by omega, h.2.2⟩, rfl⟩
  · cases e
def opOf : BOp → Operator
  | .add => .Add | .sub => .Sub | .mul => .Mult | .fdiv => .FloorDiv | .mod => .Mod | .pow => .Pow
theorem op_S (hK : X.K = c.K) : ∀ o : BOp, OpR X (binaryOp (opOf o)) (Sem2 c (fBin o))
  | .add => op_addS hK | .sub => op_subS | .mul => op_mulS | .fdiv => op_fdivS | .mod => op_modS | .pow => op_powS

/-! ### comparisons -/
theorem eqG_inv {a b : D} {k : Bool} (h : eqG a b = some k) : ∃ p q, toPy a = some p ∧ toPy b = some q ∧ SeqAt.shaped p = true ∧ SeqAt.shaped q = true ∧ k = PyData.eqv p q := by
  unfold eqG at h
  cases e : toPy a with
  | none => rw [e] at h; cases h
  | some p =>
    cases e2 : toPy b with
    | none => rw [e, e2] at h; cases h
    | some q =>
      rw [e, e2] at h
      simp only [Option.bind_some] at h
      split at h
      · rename_i hh
        rw [Bool.and_eq_true] at hh
        cases h
        exact ⟨p, q, rfl, rfl, hh.1, hh.2, rfl⟩
      · cases h
theorem fCmp_inv {o : COp} {S : Store} {a b d : D} (h : fCmp o S a b = some d) : ∃ k, cmpD o (deref S a) (deref S b) = some k ∧ d = .bl k := by
  unfold fCmp at h
  cases e : cmpD o (deref S a) (deref S b) with
  | none => rw [e] at h; cases h
  | some k => rw [e] at h; cases h; exact ⟨k, rfl, rfl⟩
/-- a tuple beside the empty one -/
def rEqT0 (K : PySem.W.Frag) (b : Bool) : R2 := fun x y H Q => ∃ p q xs, x = .ref p ∧ y = .ref q ∧ SqT K H p xs ∧ SqT K H q [] ∧ Q (.bl (xs.isEmpty == b)) H
theorem min_0 (n : Nat) : min n (#[] : Array Value).size = 0 := Nat.min_zero n
theorem tup0_eq {xs : List V} {its : List Value} (h : xs.length = its.length) : (its.toArray.size == (#[] : Array Value).size) = xs.isEmpty := by
  rw [List.size_toArray, ← h]
  cases xs <;> rfl
theorem op_eqT0 (hu : X.A.units < cLine) : OpR X (compareOp .Eq) (rEqT0 X.K true) := by
  rintro pins s σ H x y v u Q I rx ry ⟨p, q, xs, rfl, rfl, h1, h2, hq⟩
  cases rx
  cases ry
  obtain ⟨its, rv, t1, _⟩ := I.tuple h1
  obtain ⟨its2, rv2, t2, _⟩ := I.tuple h2
  cases rv2
  refine SeqAt.eq_tupleAt (e := fun _ => true) t1 t2 hu (fun j _ z => by simp at z) ⟨.bl _, H, I, rfl, ?_⟩
  have e1 : ((List.range (min its.toArray.size (#[] : Array Value).size)).all fun _ => true) = true := by rw [min_0]; rfl
  rw [e1, Bool.true_and]
  have e2 := tup0_eq rv.length
  rw [show (its.toArray.size == ([] : List Value).toArray.size) = xs.isEmpty from e2]
  rw [show (xs.isEmpty == true) = xs.isEmpty by cases xs.isEmpty <;> rfl] at hq
  exact hq
theorem op_neT0 (hu : X.A.units < cLine) : OpR X (compareOp .NotEq) (rEqT0 X.K false) := by
  rintro pins s σ H x y v u Q I rx ry ⟨p, q, xs, rfl, rfl, h1, h2, hq⟩
  cases rx
  cases ry
  obtain ⟨its, rv, t1, _⟩ := I.tuple h1
  obtain ⟨its2, rv2, t2, _⟩ := I.tuple h2
  cases rv2
  refine SeqAt.RcNeAt.tuples (e := fun _ => true) t1 t2 hu (fun j _ z => by simp at z) X.prog X.w X.xe _ ⟨.bl _, H, I, rfl, ?_⟩
  have e1 : ((List.range (min its.toArray.size (#[] : Array Value).size)).all fun _ => true) = true := by rw [min_0]; rfl
  have e2 := tup0_eq rv.length
  rw [e1, Bool.true_and, show (its.toArray.size == ([] : List Value).toArray.size) = xs.isEmpty from e2]
  rw [show (xs.isEmpty == false) = !xs.isEmpty by cases xs.isEmpty <;> rfl] at hq
  exact hq
/-- what eqD says, by ways -/
theorem eqD_inv {w : Wd} {S : Store} {H : Hp} {d1 d2 : D} {x y : V} {k : Bool} (R : Rel c w S H) (r1 : RelD c w d1 x) (r2 : RelD c w d2 y) (e : eqD (deref S d1) (deref S d2) = some k) :
    (∃ p q, Dp c.K H x p ∧ Dp c.K H y q ∧ SeqAt.shaped p = true ∧ SeqAt.shaped q = true ∧ k = PyData.eqv p q) ∨ (∃ a b, x = .str a ∧ y = .str b ∧ k = (a == b)) ∨
      ∃ p q xs, x = .ref p ∧ y = .ref q ∧ SqT c.K H p xs ∧ SqT c.K H q [] ∧ k = xs.isEmpty := by
  have v1 := R.view r1
  have v2 := R.view r2
  generalize deref S d1 = e1 at *
  generalize deref S d2 = e2 at *
  have gen : eqG e1 e2 = some k → (∃ p q, Dp c.K H x p ∧ Dp c.K H y q ∧ SeqAt.shaped p = true ∧ SeqAt.shaped q = true ∧ k = PyData.eqv p q) := fun e => by
    obtain ⟨p, q, h1, h2, h3, h4, rfl⟩ := eqG_inv e
    exact ⟨p, q, R.dp v1 h1, R.dp v2 h2, h3, h4, rfl⟩
  unfold eqD at e
  split at e
  · simp only [Vw, RelD] at v1 v2
    cases e
    exact .inr (.inl ⟨_, _, v1, v2, rfl⟩)
  · obtain ⟨a, ys, rfl, h1, q1⟩ := v1
    obtain ⟨b, zs, rfl, h2, q2⟩ := v2
    rw [q2.nil_inv] at h2
    cases e
    refine .inr (.inr ⟨a, b, ys, rfl, rfl, h1, h2, ?_⟩)
    have l := q1.length
    rename_i xs
    cases xs <;> cases ys <;> first | rfl | (simp at l; done)
  · exact .inl (gen e)
theorem beq_dec {a b : Str} : decide (V.str a = V.str b) = (a == b) := by
  by_cases h : a = b
  · subst h; simp
  · rw [decide_eq_false (fun z => h (V.str.inj z)), beq_eq_false_iff_ne.mpr h]
theorem op_eqS (hK : X.K = c.K) (hu : X.A.units + 64 < cLine) : OpR X (compareOp .Eq) (Sem2 c (fCmp .eq)) :=
  OpR.imp ((op_eqD hu).or (op_eq.or (op_eqT0 (by omega)))) fun x y H Q ⟨w, S, d1, d2, d, R, r1, r2, e, k⟩ => by
    obtain ⟨b, f, rfl⟩ := fCmp_inv e
    clear e
    have e := f
    clear f
    have k' := k w H (.bl b) Go.refl R (by simp only [RelD])
    rcases eqD_inv R r1 r2 e with ⟨p, q, h1, h2, h3, h4, rfl⟩ | ⟨p, q, rfl, rfl, rfl⟩ | ⟨p, q, xs, rfl, rfl, h1, h2, rfl⟩
    · exact .inl ⟨p, q, by rw [hK]; exact h1, by rw [hK]; exact h2, h3, h4, k'⟩
    · exact .inr (.inl ⟨rfl, by rw [beq_dec]; exact k'⟩)
    · exact .inr (.inr ⟨p, q, xs, rfl, rfl, by rw [hK]; exact h1, by rw [hK]; exact h2, by rw [show (xs.isEmpty == true) = xs.isEmpty by cases xs.isEmpty <;> rfl]; exact k'⟩)
theorem op_neS (hK : X.K = c.K) (hu : X.A.units + 64 < cLine) : OpR X (compareOp .NotEq) (Sem2 c (fCmp .ne)) :=
  OpR.imp ((op_neD hu).or (op_ne.or (op_neT0 (by omega)))) fun x y H Q ⟨w, S, d1, d2, d, R, r1, r2, e, k⟩ => by
    obtain ⟨b, f, rfl⟩ := fCmp_inv e
    clear e
    have e := f
    clear f
    simp only [cmpD, Option.map_eq_some_iff] at e
    obtain ⟨b', e, rfl⟩ := e
    have k' := k w H (.bl (!b')) Go.refl R (by simp only [RelD])
    rcases eqD_inv R r1 r2 e with ⟨p, q, h1, h2, h3, h4, rfl⟩ | ⟨p, q, rfl, rfl, rfl⟩ | ⟨p, q, xs, rfl, rfl, h1, h2, rfl⟩
    · exact .inl ⟨p, q, by rw [hK]; exact h1, by rw [hK]; exact h2, h3, h4, k'⟩
    · exact .inr (.inl ⟨rfl, by rw [beq_dec]; exact k'⟩)
    · exact .inr (.inr ⟨p, q, xs, rfl, rfl, by rw [hK]; exact h1, by rw [hK]; exact h2, by rw [show (xs.isEmpty == false) = !xs.isEmpty by cases xs.isEmpty <;> rfl]; exact k'⟩)
theorem op_ltS : OpR X (compareOp .Lt) (Sem2 c (fCmp .lt)) :=
  OpR.imp (op_lt.or op_lt_str) fun x y H Q ⟨w, S, d1, d2, d, R, r1, r2, e, k⟩ => by
    obtain ⟨b, f, rfl⟩ := fCmp_inv e
    clear e
    have e := f
    clear f
    have v1 := R.view r1
    have v2 := R.view r2
    generalize deref S d1 = e1 at *
    generalize deref S d2 = e2 at *
    cases e1 <;> cases e2 <;> simp only [cmpD] at e <;> try cases e
    all_goals simp only [Vw, RelD] at v1 v2
    · exact .inl ⟨_, _, v1, v2, k w H _ Go.refl R (by simp only [RelD])⟩
    · exact .inr ⟨_, _, v1, v2, k w H _ Go.refl R (by simp only [RelD])⟩
theorem op_leS : OpR X (compareOp .LtE) (Sem2 c (fCmp .le)) :=
  OpR.imp (op_le.or op_le_str) fun x y H Q ⟨w, S, d1, d2, d, R, r1, r2, e, k⟩ => by
    obtain ⟨b, f, rfl⟩ := fCmp_inv e
    clear e
    have e := f
    clear f
    have v1 := R.view r1
    have v2 := R.view r2
    generalize deref S d1 = e1 at *
    generalize deref S d2 = e2 at *
    cases e1 <;> cases e2 <;> simp only [cmpD] at e <;> try cases e
    all_goals simp only [Vw, RelD] at v1 v2
    · exact .inl ⟨_, _, v1, v2, k w H _ Go.refl R (by simp only [RelD])⟩
    · exact .inr ⟨_, _, v1, v2, k w H _ Go.refl R (by simp only [RelD])⟩
theorem op_gtS : OpR X (compareOp .Gt) (Sem2 c (fCmp .gt)) :=
  OpR.imp op_gt fun x y H Q ⟨w, S, d1, d2, d, R, r1, r2, e, k⟩ => by
    obtain ⟨b, f, rfl⟩ := fCmp_inv e
    clear e
    have e := f
    clear f
    have v1 := R.view r1
    have v2 := R.view r2
    generalize deref S d1 = e1 at *
    generalize deref S d2 = e2 at *
    cases e1 <;> cases e2 <;> simp only [cmpD] at e <;> try cases e
    all_goals simp only [Vw, RelD] at v1 v2
    exact ⟨_, _, v1, v2, k w H _ Go.refl R (by simp only [RelD])⟩
theorem op_geS : OpR X (compareOp .GtE) (Sem2 c (fCmp .ge)) :=
  OpR.imp op_ge fun x y H Q ⟨w, S, d1, d2, d, R, r1, r2, e, k⟩ => by
    obtain ⟨b, f, rfl⟩ := fCmp_inv e
    clear e
    have e := f
    clear f
    have v1 := R.view r1
    have v2 := R.view r2
    generalize deref S d1 = e1 at *
    generalize deref S d2 = e2 at *
    cases e1 <;> cases e2 <;> simp only [cmpD] at e <;> try cases e
    all_goals simp only [Vw, RelD] at v1 v2
    exact ⟨_, _, v1, v2, k w H _ Go.refl R (by simp only [RelD])⟩
/-- what inD says, by ways -/
theorem inD_inv {w : Wd} {S : Store} {H : Hp} {d1 d2 : D} {x y : V} {k : Bool} (R : Rel c w S H) (r1 : RelD c w d1 x) (r2 : RelD c w d2 y) (e : inD (deref S d1) (deref S d2) = some k) :
    (∃ p xs, y = .ref p ∧ (SqL c.K H p xs ∨ SqT c.K H p xs) ∧ flatV x = true ∧ xs.all flatV = true ∧ k = inV x xs) ∨
    (∃ d ds, Dp c.K H x d ∧ Dp c.K H y (.list ds) ∧ SeqAt.shaped d = true ∧ SeqAt.shaped (.list ds) = true ∧ k = ds.any fun z => PyData.eqv z d) ∨
    (∃ (cc : Nat) (z : Str), x = .str ⟨#[cc]⟩ ∧ y = .str z ∧ k = decide (cc ∈ z.cps.toList)) ∨ ∃ a o, y = .ref a ∧ DGet H a x o ∧ k = o.isSome := by
  have v1 := R.view r1
  have v2 := R.view r2
  generalize g1 : deref S d1 = e1 at *
  generalize g2 : deref S d2 = e2 at *
  have key : ∀ (a : Addr) (xs : List D) (ys : List V), RelDs c w xs ys → (SqL c.K H a ys ∨ SqT c.K H a ys) → y = .ref a → (flat e1 && xs.all flat) = true → k = inF e1 xs →
      (∃ p xs, y = .ref p ∧ (SqL c.K H p xs ∨ SqT c.K H p xs) ∧ flatV x = true ∧ xs.all flatV = true ∧ k = inV x xs) := fun a xs ys q s hy f hk => by
    rw [Bool.and_eq_true] at f
    have rx : RelD c w e1 x := by
      cases e1 <;> simp only [flat] at f <;> first | (exact absurd f.1 (by decide)) | exact v1
    exact ⟨a, ys, hy, s, flat_of rx f.1, flats_of q f.2, by rw [hk, inF_of rx f.1 q f.2]⟩
  cases e2 <;> simp only [inD] at e <;> try (cases e; done)
  · simp only [Vw, RelD] at v2
    split at e
    · rename_i cc
      cases e
      simp only [Vw, RelD] at v1
      exact .inr (.inr (.inl ⟨cc, _, v1, v2, rfl⟩))
    · cases e
  · simp only [Vw] at v2
    obtain ⟨a, ys, rfl, h1, q⟩ := v2
    split at e
    · cases e
      rename_i f
      exact .inl (key a _ ys q (.inr h1) rfl f rfl)
    · cases e
  · simp only [Vw] at v2
    have v2' := v2
    obtain ⟨a, ys, rfl, h1, q⟩ := v2
    split at e
    · cases e
      rename_i f
      exact .inl (key a _ ys q (.inl (SqL.of h1)) rfl f rfl)
    · rename_i xs _
      refine .inr (.inl ?_)
      cases p1 : toPy e1 with
      | none => rw [p1] at e; cases e
      | some d =>
        cases p2 : toPys xs with
        | none => rw [p1, p2] at e; cases e
        | some ds =>
          rw [p1, p2] at e
          simp only [Option.bind_some] at e
          split at e
          · rename_i f
            rw [Bool.and_eq_true] at f
            cases e
            exact ⟨d, ds, R.dp v1 p1, .lst (SqL.of h1) (dps_of R.ex _ _ _ q p2), f.1, f.2, rfl⟩
          · cases e
  · rw [Option.map_eq_some_iff] at e
    obtain ⟨q, e1, rfl⟩ := e
    obtain ⟨a, o, h1, h2, h3⟩ := dget_of v1 v2 e1
    refine .inr (.inr (.inr ⟨a, o, h1, h2, ?_⟩))
    split at h3
    · rename_i z; rw [h3, z]; rfl
    · rename_i z; obtain ⟨v, h3, _⟩ := h3; rw [h3, z]; rfl
theorem op_inS (hK : X.K = c.K) (hu : X.A.units + 65 < cLine) : OpR X (compareOp .In) (Sem2 c (fCmp .inn)) :=
  OpR.imp (op_in_seq.or ((op_inD hu).or (op_in_sign.or (op_in_dict (by omega))))) fun x y H Q ⟨w, S, d1, d2, d, R, r1, r2, e, k⟩ => by
    obtain ⟨b, f, rfl⟩ := fCmp_inv e
    clear e
    have e := f
    clear f
    have k' := k w H (.bl b) Go.refl R (by simp only [RelD])
    rcases inD_inv R r1 r2 e with ⟨p, xs, hy, s, f1, f2, hb⟩ | ⟨d, ds, h1, h2, h3, h4, hb⟩ | ⟨cc, z, h1, h2, hb⟩ | ⟨a, o, h1, h2, hb⟩
    · exact .inl ⟨p, xs, hy, by rw [hK]; exact s, f1, f2, by rw [if_neg (by decide), ← hb]; exact k'⟩
    · exact .inr (.inl ⟨d, ds, by rw [hK]; exact h1, by rw [hK]; exact h2, h3, h4, by rw [← hb]; exact k'⟩)
    · exact .inr (.inr (.inl ⟨cc, z, h1, h2, by rw [← hb]; exact k'⟩))
    · exact .inr (.inr (.inr ⟨a, o, h1, h2, by rw [← hb]; exact k'⟩))
theorem op_notinS (hK : X.K = c.K) (hu : X.A.units + 65 < cLine) : OpR X (compareOp .NotIn) (Sem2 c (fCmp .notin)) :=
  OpR.imp (op_notIn_seq.or ((op_notInD hu).or (op_notIn_sign.or (op_notin_dict (by omega))))) fun x y H Q ⟨w, S, d1, d2, d, R, r1, r2, e, k⟩ => by
    obtain ⟨b, f, rfl⟩ := fCmp_inv e
    clear e
    have e := f
    clear f
    have k' := k w H (.bl b) Go.refl R (by simp only [RelD])
    simp only [cmpD, Option.map_eq_some_iff] at e
    obtain ⟨b', e, rfl⟩ := e
    rcases inD_inv R r1 r2 e with ⟨p, xs, hy, s, f1, f2, hb⟩ | ⟨d, ds, h1, h2, h3, h4, hb⟩ | ⟨cc, z, h1, h2, hb⟩ | ⟨a, o, h1, h2, hb⟩
    · exact .inl ⟨p, xs, hy, by rw [hK]; exact s, f1, f2, by rw [if_pos rfl, ← hb]; exact k'⟩
    · exact .inr (.inl ⟨d, ds, by rw [hK]; exact h1, by rw [hK]; exact h2, h3, h4, by rw [← hb]; exact k'⟩)
    · exact .inr (.inr (.inl ⟨cc, z, h1, h2, by rw [← hb]; exact k'⟩))
    · exact .inr (.inr (.inr ⟨a, o, h1, h2, by rw [← hb]; exact k'⟩))
theorem isN_of {w : Wd} {H : Hp} {d : D} {v : V} (r : Vw c w H d v) : v = .non ↔ d = .non := by
  cases d <;> simp only [Vw, RelD] at r
  all_goals first
    | (subst r; simp; done)
    | (obtain ⟨a, ys, rfl, _⟩ := r; simp; done)
    | (obtain ⟨a, rfl, _⟩ := r; simp; done)
    | (obtain ⟨a, _, rfl⟩ := r; simp; done)
    | (obtain ⟨a, rfl, _⟩ := r; simp; done)
theorem op_isS : OpR X (compareOp .Is) (Sem2 c (fCmp .is)) :=
  OpR.imp (op_isN.or op_isBl) fun x y H Q ⟨w, S, d1, d2, d, R, r1, r2, e, k⟩ => by
    obtain ⟨b, f, rfl⟩ := fCmp_inv e
    clear e
    have e := f
    clear f
    have k' := k w H (.bl b) Go.refl R (by simp only [RelD])
    have v1 := R.view r1
    have v2 := R.view r2
    generalize deref S d1 = e1 at *
    generalize deref S d2 = e2 at *
    have n1 := isN_of v1
    have n2 := isN_of v2
    cases e2 <;> try (cases e1 <;> simp only [cmpD] at e <;> cases e; done)
    · refine .inl ⟨n2.mpr rfl, ?_⟩
      cases e1 <;> simp only [cmpD] at e <;> cases e
      all_goals first
        | (rw [show decide (x = V.non) = true from decide_eq_true (n1.mpr rfl)]; exact k')
        | (rw [show decide (x = V.non) = false from decide_eq_false (fun z => nomatch n1.mp z)]; exact k')
    · cases e1 <;> simp only [cmpD] at e <;> try (cases e; done)
      cases e
      simp only [Vw, RelD] at v1 v2
      exact .inr ⟨_, _, v1, v2, k'⟩
theorem op_isnotS : OpR X (compareOp .IsNot) (Sem2 c (fCmp .isnot)) :=
  OpR.imp (op_notN.or op_notBl) fun x y H Q ⟨w, S, d1, d2, d, R, r1, r2, e, k⟩ => by
    obtain ⟨b, f, rfl⟩ := fCmp_inv e
    clear e
    have e := f
    clear f
    have k' := k w H (.bl b) Go.refl R (by simp only [RelD])
    have v1 := R.view r1
    have v2 := R.view r2
    generalize deref S d1 = e1 at *
    generalize deref S d2 = e2 at *
    have n1 := isN_of v1
    have n2 := isN_of v2
    cases e2 <;> try (cases e1 <;> simp only [cmpD] at e <;> cases e; done)
    · refine .inl ⟨n2.mpr rfl, ?_⟩
      cases e1 <;> simp only [cmpD] at e <;> cases e
      all_goals first
        | (rw [show decide (x = V.non) = true from decide_eq_true (n1.mpr rfl)]; exact k')
        | (rw [show decide (x = V.non) = false from decide_eq_false (fun z => nomatch n1.mp z)]; exact k')
    · cases e1 <;> simp only [cmpD] at e <;> try (cases e; done)
      cases e
      simp only [Vw, RelD] at v1 v2
      exact .inr ⟨_, _, v1, v2, k'⟩
def copOf : COp → CmpOp
  | .eq => .Eq | .ne => .NotEq | .lt => .Lt | .le => .LtE | .gt => .Gt | .ge => .GtE | .inn => .In | .notin => .NotIn | .is => .Is | .isnot => .IsNot
theorem cop_S (hK : X.K = c.K) (hu : X.A.units + 65 < cLine) : ∀ o : COp, OpR X (compareOp (copOf o)) (Sem2 c (fCmp o))
  | .eq => op_eqS hK (by omega) | .ne => op_neS hK (by omega) | .lt => op_ltS | .le => op_leS | .gt => op_gtS | .ge => op_geS
  | .inn => op_inS hK hu | .notin => op_notinS hK hu | .is => op_isS | .isnot => op_isnotS
end
end MP

/-! MP3: subscripts, slices, built-in functions, methods of built-in types. -/
namespace MP
open PySem L2

section
variable {c : Cfg} {w : Wd} {S : Store} {H : Hp}
theorem RelDs.atI {xs : List D} {ys : List V} {i : Int} {d : D} (r : RelDs c w xs ys) (h : L2.atI xs i = some d) : ∃ v, L2.atI ys i = some v ∧ RelD c w d v := by
  unfold L2.atI at h ⊢
  rw [← r.length]
  cases e : ixN xs.length i with
  | none => rw [e] at h; cases h
  | some j =>
    rw [e] at h
    simp only [Option.bind_some] at h ⊢
    exact r.get h
theorem RelDs.cut {xs : List D} {ys : List V} {lo hi : Option Int} (r : RelDs c w xs ys) : RelDs c w (cutD xs lo hi) (cutV ys lo hi) := by
  unfold cutD cutV
  rw [← r.length]
  exact (r.drop _).take _
theorem cut_whole {α : Type} {xs : List α} {lo hi : Option Int} (h : HT.sIx xs.length 0 lo = 0 ∧ HT.sIx xs.length xs.length hi = xs.length) : cutD xs lo hi = xs := by
  unfold cutD
  rw [h.1, h.2]
  simp
theorem cut_map {α β : Type} (f : α → β) (xs : List α) (lo hi : Option Int) : cutD (xs.map f) lo hi = (cutD xs lo hi).map f := by
  unfold cutD
  rw [List.length_map, List.map_take, List.map_drop]
theorem atI_map {α β : Type} (f : α → β) (xs : List α) (i : Int) : L2.atI (xs.map f) i = (L2.atI xs i).map f := by
  unfold L2.atI
  rw [List.length_map]
  cases ixN xs.length i with
  | none => rfl
  | some j => simp only [Option.bind_some, List.getElem?_map]
theorem cutV_D (xs : List V) (lo hi : Option Int) : cutV xs lo hi = cutD xs lo hi := rfl
end
section
variable {X : Cx} {c : Cfg}
def fIx : Store → D → D → Option D := fun S x y => ixD (deref S x) y
theorem ix_dict (hu : X.A.units + 1 < cLine) : IxR X (fun x y H Q => ∃ a v, x = .ref a ∧ DGet H a y (some v) ∧ Q v H) := by
  intro value slice pins s σ H x y v u Q I rx ry ⟨a, v', e, g, q⟩ hs
  subst e
  obtain rfl : v = Value.ref a := rx
  exact PyProof.Rows.tail_any (ops := [.ref a, u]) (dict_typeIs I g) PySem.F.slot_dict_getitem.lookup (d_getItem hu I g ry fun w' s3 I3 rw' => ⟨v', H, I3, rw', q⟩) (by rw [hs])
theorem ix_S (hK : X.K = c.K) (hu : X.A.units + 65 < cLine) : IxR X (Sem2 c fIx) :=
  IxR.imp (ix_seq.or (ix_dict (by omega))) fun x y H Q ⟨w, S, d1, d2, d, R, r1, r2, e, k⟩ => by
    have v1 := R.view r1
    unfold fIx at e
    generalize deref S d1 = e1 at *
    by_cases hd : ∃ ks vs, e1 = .dct ks vs
    · obtain ⟨ks, vs, rfl⟩ := hd
      simp only [ixD] at e
      rw [Option.bind_eq_some_iff] at e
      obtain ⟨q, e1, e2⟩ := e
      obtain ⟨a, o, rfl, h2, h3⟩ := dget_of (R.view0 r2) v1 e1
      rw [e2] at h3
      obtain ⟨v, rfl, h4⟩ := h3
      exact .inr ⟨a, v, rfl, h2, k w H _ Go.refl R h4⟩
    cases e1 <;> cases d2 <;> simp only [ixD] at e <;> try (cases e; done)
    · simp only [Vw, RelD] at v1 r2
      split at e
      · rename_i hz
        rw [Option.map_eq_some_iff] at e
        obtain ⟨cc, e, rfl⟩ := e
        exact .inl (.inr (.inr ⟨_, _, cc, v1, r2, lim_le hz, e, k w H _ Go.refl R (by simp only [RelD])⟩))
      · cases e
    · simp only [Vw, RelD] at v1 r2
      obtain ⟨a, ys, rfl, h1, q⟩ := v1
      obtain ⟨v, h2, h3⟩ := q.atI e
      exact .inl (.inr (.inl ⟨a, ys, _, v, rfl, r2, by rw [hK]; exact h1, h2, k w H _ Go.refl R h3⟩))
    · simp only [Vw, RelD] at v1 r2
      obtain ⟨a, ys, rfl, h1, q⟩ := v1
      obtain ⟨v, h2, h3⟩ := q.atI e
      exact .inl (.inl ⟨a, ys, _, v, rfl, r2, SqL.of h1, h2, k w H _ Go.refl R h3⟩)
    · simp only [Vw, RelD] at v1 r2
      obtain ⟨a, rfl, h1⟩ := v1
      rw [Option.map_eq_some_iff] at e
      obtain ⟨n, e, rfl⟩ := e
      refine .inl (.inl ⟨a, _, _, .int n, rfl, r2, by rw [hK]; exact h1, ?_, k w H _ Go.refl R (by simp only [RelD])⟩)
      rw [atI_map, e]; rfl
    all_goals exact absurd ⟨_, _, rfl⟩ hd
def SemSl (c : Cfg) : V → Option Int → Option Int → Hp → VK → Prop := fun x lo hi H Q => ∃ w S d1 d, Rel c w S H ∧ RelD c w d1 x ∧ slD lo hi (deref S d1) = some d ∧ ∀ w' H' v, Go w H w' H' → Rel c w' S H' → RelD c w' d v → Q v H'
theorem sl_S (hK : X.K = c.K) : SlR X (SemSl c) :=
  SlR.imp (sl_tupA.or (sl_list.or sl_str)) fun x lo hi H Q ⟨w, S, d1, d, R, r1, e, k⟩ => by
    have v1 := R.view r1
    generalize g1 : deref S d1 = e1 at *
    cases e1 <;> simp only [slD] at e <;> try (cases e; done)
    · simp only [Vw, RelD] at v1
      split at e
      · rename_i hz
        cases e
        exact .inr (.inr ⟨_, v1, lim_le hz, k w H _ Go.refl R (by simp only [RelD])⟩)
      · cases e
    · simp only [Vw] at v1
      cases e
      have g2 := deref_inv g1 (fun _ z => nomatch z)
      subst g2
      obtain ⟨a, ys, rfl, h1, q⟩ := v1
      refine .inl ⟨a, ys, rfl, by rw [hK]; exact h1, fun hw => ?_, fun hw p hp => ?_⟩
      · rw [← q.length] at hw
        rw [cut_whole hw] at k
        exact k w H _ Go.refl R r1
      · obtain ⟨z1, z2, z3⟩ := R.newTup q.cut hp
        exact k _ _ _ z1 z2 z3
    · simp only [Vw] at v1
      cases e
      obtain ⟨a, ys, rfl, h1, q⟩ := v1
      refine .inr (.inl ⟨a, ys, rfl, SqL.of h1, fun p hp => ?_⟩)
      obtain ⟨z1, z2, z3⟩ := R.newLst q.cut hp
      exact k _ _ _ z1 z2 z3
    · simp only [Vw] at v1
      cases e
      obtain ⟨a, rfl, h1⟩ := v1
      refine .inr (.inl ⟨a, _, rfl, by rw [hK]; exact h1, fun p hp => ?_⟩)
      rw [cutV_D, cut_map]
      obtain ⟨z1, z2, z3⟩ := R.newLst (RelDs.ints (c := c) (w := w) _) hp
      exact k _ _ _ z1 z2 z3

/-! ### built-in functions -/
def fBlt (b : Blt) : Store → List D → Option D := fun S ds => bltD b (ds.map (deref S))
/-- the arguments as they stand -/
def Vws (c : Cfg) (w : Wd) (H : Hp) : List D → List V → Prop
  | [], vs => vs = []
  | d :: ds, vs => ∃ v r, vs = v :: r ∧ Vw c w H d v ∧ Vws c w H ds r
theorem Rel.views {w : Wd} {S : Store} {H : Hp} (R : Rel c w S H) : ∀ {ds : List D} {vs : List V}, RelDs c w ds vs → Vws c w H (ds.map (deref S)) vs
  | [], vs, r => by rw [r.nil_inv]; rfl
  | d :: ds, vs, r => by
    obtain ⟨v, r', rfl, h1, h2⟩ := r.cons_inv
    exact ⟨v, r', rfl, R.view h1, R.views h2⟩
theorem Vws.one {w : Wd} {H : Hp} {d : D} {vs : List V} (h : Vws c w H [d] vs) : ∃ v, vs = [v] ∧ Vw c w H d v := by
  obtain ⟨v, r, rfl, h1, h2⟩ := h
  rw [show r = [] from h2]
  exact ⟨v, rfl, h1⟩
theorem Vws.two {w : Wd} {H : Hp} {d e : D} {vs : List V} (h : Vws c w H [d, e] vs) : ∃ v u, vs = [v, u] ∧ Vw c w H d v ∧ Vw c w H e u := by
  obtain ⟨v, r, rfl, h1, h2⟩ := h
  obtain ⟨u, rfl, h3⟩ := h2.one
  exact ⟨v, u, rfl, h1, h3⟩
theorem map_deref1 {S : Store} {ds : List D} {e : D} (h : ds.map (deref S) = [e]) : ∃ d, ds = [d] ∧ deref S d = e := by
  match ds, h with
  | [d], h => exact ⟨d, rfl, by simpa using h⟩
theorem mapM_bl {w : Wd} : ∀ {xs : List D} {ys : List V} {bs : List Bool}, RelDs c w xs ys → xs.mapM blOf = some bs → ys = bs.map V.bl
  | [], ys, bs, r, e => by
    rw [r.nil_inv]
    simp at e; subst e; rfl
  | x :: xs, ys, bs, r, e => by
    obtain ⟨v, r', rfl, h1, h2⟩ := r.cons_inv
    rw [List.mapM_cons] at e
    cases x <;> simp only [blOf] at e <;> try (cases e; done)
    rename_i b
    cases q : xs.mapM blOf with
    | none => rw [q] at e; cases e
    | some bs' =>
      rw [q] at e
      cases e
      rw [mapM_bl h2 q]
      simp only [RelD] at h1
      rw [h1]; rfl
theorem mapM_str {w : Wd} : ∀ {xs : List D} {ys : List V} {bs : List Str}, RelDs c w xs ys → xs.mapM strOf = some bs → ys = bs.map V.str
  | [], ys, bs, r, e => by
    rw [r.nil_inv]
    simp at e; subst e; rfl
  | x :: xs, ys, bs, r, e => by
    obtain ⟨v, r', rfl, h1, h2⟩ := r.cons_inv
    rw [List.mapM_cons] at e
    cases x <;> simp only [strOf] at e <;> try (cases e; done)
    rename_i b
    cases q : xs.mapM strOf with
    | none => rw [q] at e; cases e
    | some bs' =>
      rw [q] at e
      cases e
      rw [mapM_str h2 q]
      simp only [RelD] at h1
      rw [h1]; rfl
theorem blt_len (hK : X.K = c.K) : CallR X (.builtin "len") (SemC c (fBlt .len)) :=
  CallR.imp (call_len_seq.or call_len_str) fun vs H Q ⟨w, S, ds, d, R, rs, e, k⟩ => by
    have vw := R.views rs
    unfold fBlt at e
    generalize ds.map (deref S) = es at *
    match es, e with
    | [.tup xs], e =>
      cases e
      obtain ⟨v, rfl, h⟩ := vw.one
      obtain ⟨a, ys, rfl, h1, q⟩ := h
      exact .inl ⟨a, ys, rfl, .inr (by rw [hK]; exact h1), by rw [← q.length]; exact k w H _ Go.refl R (by simp only [RelD])⟩
    | [.lst xs], e =>
      cases e
      obtain ⟨v, rfl, h⟩ := vw.one
      obtain ⟨a, ys, rfl, h1, q⟩ := h
      exact .inl ⟨a, ys, rfl, .inl (SqL.of h1), by rw [← q.length]; exact k w H _ Go.refl R (by simp only [RelD])⟩
    | [.scr ns], e =>
      cases e
      obtain ⟨v, rfl, h⟩ := vw.one
      obtain ⟨a, rfl, h1⟩ := h
      exact .inl ⟨a, _, rfl, .inl (by rw [hK]; exact h1), by rw [List.length_map]; exact k w H _ Go.refl R (by simp only [RelD])⟩
    | [.str z], e =>
      obtain ⟨v, rfl, h⟩ := vw.one
      simp only [bltD] at e
      split at e
      · rename_i hz
        cases e
        simp only [Vw, RelD] at h
        exact .inr ⟨z, by rw [h], Nat.le_trans hz (by rw [sizeLine_eq]; decide), k w H _ Go.refl R (by simp only [RelD])⟩
      · cases e
theorem tyx_of {w : Wd} {S : Store} {H : Hp} {d : D} {v : V} {t : String} (h : Vw c w H d v) (e : tyOf d = some t) : TyX c.K H v (.type t) := by
  cases d <;> simp only [tyOf] at e <;> cases e
  · simp only [Vw, RelD] at h; subst h; exact .base .non
  · simp only [Vw, RelD] at h; subst h; exact .base (.bl _)
  · simp only [Vw, RelD] at h; subst h; exact .base (.int _)
  · simp only [Vw, RelD] at h; subst h; exact .base (.str _)
  · obtain ⟨a, ys, rfl, h1, q⟩ := h
    rcases h1 with (h1 | ⟨o, h1⟩) | ⟨o, its, n, h1, h2, _⟩
    · exact .base (.tup h1)
    · exact .fTuple h1
    · exact .kTuple h1 h2
  · obtain ⟨a, ys, rfl, h1, q⟩ := h
    exact .base (.lst h1)
  · obtain ⟨a, ys, rfl, h1, _⟩ := h
    exact .base (.dK h1)
  · obtain ⟨a, rfl, h1⟩ := h
    exact .base (.dK h1)
theorem blt_isinst (hK : X.K = c.K) : CallR X (.builtin "isinstance") (SemC c (fBlt .isinst)) :=
  CallR.imp call_isi fun vs H Q ⟨w, S, ds, d, R, rs, e, k⟩ => by
    have vw := R.views rs
    unfold fBlt at e
    generalize ds.map (deref S) = es at *
    match es, e with
    | [d1, d2], e =>
      obtain ⟨v, u, rfl, h1, h2⟩ := vw.two
      simp only [bltD, Option.map_eq_some_iff] at e
      obtain ⟨b, e, rfl⟩ := e
      cases d2 <;> simp only [isinst] at e <;> try (cases e; done)
      rename_i n
      cases q : tyOf d1 with
      | none => rw [q] at e; cases e
      | some t =>
        rw [q] at e
        simp only [Option.bind_some] at e
        simp only [Vw, RelD] at h2
        subst h2
        exact ⟨v, .ty n, .type t, .type n, b, rfl, .ty n, by rw [hK]; exact tyx_of (S := S) h1 q, kit_ty e, k w H _ Go.refl R (by simp only [RelD])⟩
theorem blt_all (hc : X.calm = true) : CallR X (.builtin "all") (SemC c (fBlt .all)) :=
  CallR.imp (cr_all hc) fun vs H Q ⟨w, S, ds, d, R, rs, e, k⟩ => by
    have vw := R.views rs
    unfold fBlt at e
    generalize ds.map (deref S) = es at *
    match es, e with
    | [.lst xs], e =>
      obtain ⟨v, rfl, h⟩ := vw.one
      obtain ⟨a, ys, rfl, h1, q⟩ := h
      simp only [bltD, Option.map_eq_some_iff] at e
      obtain ⟨bs, e2, rfl⟩ := e
      exact ⟨a, bs, rfl, by rw [← mapM_bl q e2]; exact SqL.of h1, k w H _ Go.refl R (by simp only [RelD])⟩
theorem blt_any (hc : X.calm = true) : CallR X (.builtin "any") (SemC c (fBlt .any)) :=
  CallR.imp (cr_any hc) fun vs H Q ⟨w, S, ds, d, R, rs, e, k⟩ => by
    have vw := R.views rs
    unfold fBlt at e
    generalize ds.map (deref S) = es at *
    match es, e with
    | [.lst xs], e =>
      obtain ⟨v, rfl, h⟩ := vw.one
      obtain ⟨a, ys, rfl, h1, q⟩ := h
      simp only [bltD, Option.map_eq_some_iff] at e
      obtain ⟨bs, e2, rfl⟩ := e
      exact ⟨a, bs, rfl, by rw [← mapM_bl q e2]; exact SqL.of h1, k w H _ Go.refl R (by simp only [RelD])⟩
theorem blt_tuple (hK : X.K = c.K) : CallR X (.type "tuple") (SemC c (fBlt .tuple)) :=
  CallR.imp call_tuple_of fun vs H Q ⟨w, S, ds, d, R, rs, e, k⟩ => by
    have vw := R.views rs
    unfold fBlt at e
    generalize g : ds.map (deref S) = es at *
    match es, e with
    | [.lst xs], e =>
      cases e
      obtain ⟨v, rfl, h⟩ := vw.one
      obtain ⟨a, ys, rfl, h1, q⟩ := h
      refine ⟨a, ys, rfl, .inl ⟨SqL.of h1, fun p hp => ?_⟩⟩
      obtain ⟨z1, z2, z3⟩ := R.newTup q hp
      exact k _ _ _ z1 z2 z3
    | [.tup xs], e =>
      cases e
      obtain ⟨d1, rfl, g1⟩ := map_deref1 g
      have g2 := deref_inv g1 (fun _ z => nomatch z)
      subst g2
      obtain ⟨v, rfl, h⟩ := vw.one
      obtain ⟨v', e1, r1⟩ := rs.one
      cases e1
      obtain ⟨a, ys, rfl, h1, q⟩ := h
      exact ⟨a, ys, rfl, .inr ⟨by rw [hK]; exact h1, k w H _ Go.refl R r1⟩⟩
theorem blt_list (hK : X.K = c.K) : CallR X (.type "list") (SemC c (fBlt .list)) :=
  CallR.imp call_list_of fun vs H Q ⟨w, S, ds, d, R, rs, e, k⟩ => by
    have vw := R.views rs
    unfold fBlt at e
    generalize ds.map (deref S) = es at *
    match es, e with
    | [.lst xs], e =>
      cases e
      obtain ⟨v, rfl, h⟩ := vw.one
      obtain ⟨a, ys, rfl, h1, q⟩ := h
      refine ⟨a, ys, rfl, .inl (SqL.of h1), fun p hp => ?_⟩
      obtain ⟨z1, z2, z3⟩ := R.newLst q hp
      exact k _ _ _ z1 z2 z3
    | [.tup xs], e =>
      cases e
      obtain ⟨v, rfl, h⟩ := vw.one
      obtain ⟨a, ys, rfl, h1, q⟩ := h
      refine ⟨a, ys, rfl, .inr (by rw [hK]; exact h1), fun p hp => ?_⟩
      obtain ⟨z1, z2, z3⟩ := R.newLst q hp
      exact k _ _ _ z1 z2 z3
theorem blt_abs : CallR X (.builtin "abs") (SemC c (fBlt .abs)) :=
  CallR.imp call_abs fun vs H Q ⟨w, S, ds, d, R, rs, e, k⟩ => by
    have vw := R.views rs
    unfold fBlt at e
    generalize ds.map (deref S) = es at *
    match es, e with
    | [.int i], e =>
      cases e
      obtain ⟨v, rfl, h⟩ := vw.one
      simp only [Vw, RelD] at h
      exact ⟨i, by rw [h], k w H _ Go.refl R (by simp only [RelD])⟩
theorem blt_min (hc : X.calm = true) : CallR X (.builtin "min") (SemC c (fBlt .min)) :=
  CallR.imp (call_min2 hc) fun vs H Q ⟨w, S, ds, d, R, rs, e, k⟩ => by
    have vw := R.views rs
    unfold fBlt at e
    generalize ds.map (deref S) = es at *
    match es, e with
    | [.int i, .int j], e =>
      cases e
      obtain ⟨v, u, rfl, h, h'⟩ := vw.two
      simp only [Vw, RelD] at h h'
      exact ⟨i, j, by rw [h, h'], k w H _ Go.refl R (by simp only [RelD])⟩
theorem blt_max (hc : X.calm = true) : CallR X (.builtin "max") (SemC c (fBlt .max)) :=
  CallR.imp (call_max2 hc) fun vs H Q ⟨w, S, ds, d, R, rs, e, k⟩ => by
    have vw := R.views rs
    unfold fBlt at e
    generalize ds.map (deref S) = es at *
    match es, e with
    | [.int i, .int j], e =>
      cases e
      obtain ⟨v, u, rfl, h, h'⟩ := vw.two
      simp only [Vw, RelD] at h h'
      exact ⟨i, j, by rw [h, h'], k w H _ Go.refl R (by simp only [RelD])⟩
theorem blt_int : CallR X (.type "int") (SemC c (fBlt .int)) :=
  CallR.imp call_int1 fun vs H Q ⟨w, S, ds, d, R, rs, e, k⟩ => by
    have vw := R.views rs
    unfold fBlt at e
    generalize ds.map (deref S) = es at *
    match es, e with
    | [.int i], e =>
      cases e
      obtain ⟨v, rfl, h⟩ := vw.one
      simp only [Vw, RelD] at h
      exact .inl ⟨i, by rw [h], k w H _ Go.refl R (by simp only [RelD])⟩
    | [.bl i], e =>
      cases e
      obtain ⟨v, rfl, h⟩ := vw.one
      simp only [Vw, RelD] at h
      exact .inr ⟨i, by rw [h], k w H _ Go.refl R (by simp only [RelD])⟩
/-! sorted texts -/
abbrev leS (a b : Str) : Prop := a.cps.toList ≤ b.cps.toList
theorem insS_perm (x : Str) : ∀ l : List Str, (insS x l).Perm (x :: l)
  | [] => .refl _
  | y :: r => by
    unfold insS
    split
    · exact ((insS_perm x r).cons y).trans (.swap x y r)
    · exact .refl _
theorem sortS_perm : ∀ l : List Str, (sortS l).Perm l
  | [] => .refl _
  | x :: r => (insS_perm x (sortS r)).trans ((sortS_perm r).cons x)
theorem insS_pw (x : Str) : ∀ l : List Str, l.Pairwise leS → (insS x l).Pairwise leS
  | [], _ => List.pairwise_singleton _ _
  | y :: r, h => by
    obtain ⟨h1, h2⟩ := List.pairwise_cons.mp h
    unfold insS
    split
    · rename_i hlt
      refine List.pairwise_cons.mpr ⟨fun z hz => ?_, insS_pw x r h2⟩
      rcases List.mem_cons.mp ((insS_perm x r).mem_iff.mp hz) with rfl | hz
      · exact List.le_of_lt hlt
      · exact h1 z hz
    · rename_i hlt
      have hxy : leS x y := List.not_lt.mp hlt
      refine List.pairwise_cons.mpr ⟨fun z hz => ?_, h⟩
      rcases List.mem_cons.mp hz with rfl | hz
      · exact hxy
      · exact List.le_trans hxy (h1 z hz)
theorem sortS_pw : ∀ l : List Str, (sortS l).Pairwise leS
  | [] => .nil
  | x :: r => insS_pw x _ (sortS_pw r)
theorem rising_pw : ∀ (p : Str) (l : List Str), PyProof.Rows.risingS p l = true → (p :: l).Pairwise leS
  | p, [], _ => List.pairwise_singleton _ _
  | p, x :: r, h => by
    unfold PyProof.Rows.risingS at h
    rw [Bool.and_eq_true, PyProof.Rows.ltCps_eq, Bool.not_eq_true', decide_eq_false_iff_not] at h
    have h1 : leS p x := List.not_lt.mp h.1
    have h2 := rising_pw x r h.2
    refine List.pairwise_cons.mpr ⟨fun z hz => ?_, h2⟩
    rcases List.mem_cons.mp hz with rfl | hz
    · exact h1
    · exact List.le_trans h1 ((List.pairwise_cons.mp h2).1 z hz)
theorem sorted_pw : ∀ l : List Str, PyProof.Rows.sortedS l = true → l.Pairwise leS
  | [], _ => .nil
  | x :: r, h => rising_pw x r h
theorem str_anti {a b : Str} (h : leS a b) (k : leS b a) : a = b := by
  have e : a.cps.toList = b.cps.toList := List.le_antisymm h k
  obtain ⟨⟨a⟩⟩ := a
  obtain ⟨⟨b⟩⟩ := b
  simp only at e
  rw [e]
theorem sortS_unique {xs ys : List Str} (p : ys.Perm xs) (h : PyProof.Rows.sortedS ys = true) : ys = sortS xs :=
  List.Perm.eq_of_pairwise (fun a b _ _ h k => str_anti h k) (sorted_pw ys h) (sortS_pw xs) (p.trans (sortS_perm xs).symm)
theorem RelDs.strs {w : Wd} : ∀ xs : List Str, RelDs c w (xs.map D.str) (xs.map V.str)
  | [] => .nil
  | x :: xs => .cons (by simp only [RelD]) (RelDs.strs xs)
theorem blt_sorted (hK : X.K = c.K) : CallR X (.builtin "sorted") (SemC c (fBlt .sorted)) :=
  CallR.imp cr_sortedS fun vs H Q ⟨w, S, ds, d, R, rs, e, k⟩ => by
    have vw := R.views rs
    unfold fBlt at e
    generalize ds.map (deref S) = es at *
    match es, e with
    | [.lst xs], e =>
      obtain ⟨v, rfl, h⟩ := vw.one
      obtain ⟨a, ys, rfl, h1, q⟩ := h
      simp only [bltD] at e
      rw [Option.bind_eq_some_iff] at e
      obtain ⟨zs, e2, e⟩ := e
      split at e
      · rename_i hz
        cases e
        refine ⟨a, zs, rfl, by rw [← mapM_str q e2]; exact SqL.of h1, hz, fun ys' p hp hs hn => ?_⟩
        rw [sortS_unique hp hs]
        obtain ⟨z1, z2, z3⟩ := R.newLst (RelDs.strs (c := c) (w := w) (sortS zs)) hn
        exact k _ _ _ z1 z2 z3
      · cases e

/-! ### methods -/
theorem mth_list {m : Mth} {w : Wd} {S : Store} {H : Hp} {d0 d : D} {ds : List D} {x : V} {S' : Store} (hm : isMut m = true) (R : Rel c w S H) (r0 : RelD c w d0 x) (e : mthD m d0 ds S = .ok d S') :
    ∃ l a xs ys zs, d0 = .ref l ∧ x = .ref a ∧ w.ρ[l]? = some a ∧ S[l]? = some (.lst xs) ∧ H a = some (.lst zs) ∧ RelDs c w xs zs ∧ mthM S m xs ds = some (d, ys) ∧ S' = S.set l (.lst ys) := by
  unfold mthD at e
  rw [if_neg (fun z => by rw [z] at hm; cases hm), hm] at e
  cases d0 <;> simp only at e <;> try (cases e; done)
  rename_i l
  simp only [RelD] at r0
  obtain ⟨a, h1, rfl⟩ := r0
  split at e
  · rename_i xs hs
    obtain ⟨zs, h2, h3⟩ := R.lst h1 hs
    split at e
    · rename_i r ys hm
      cases e
      exact ⟨l, a, xs, ys, zs, rfl, rfl, h1, hs, h2, h3, hm, rfl⟩
    · cases e
  · cases e
theorem mth_pure {m : Mth} {S : Store} {d0 d : D} {ds : List D} {S' : Store} (hm : isMut m = false) (e : mthD m d0 ds S = .ok d S') (hn : m ≠ .update := by intro z; cases z) : mthP m (deref S d0) (ds.map (deref S)) = some d ∧ S = S' := by
  unfold mthD at e
  rw [if_neg hn, hm] at e
  exact ⟨(opt_eq e).1, (opt_eq e).2.symm⟩
def fMth (m : Mth) : Store → D → List D → Res D := fun S d ds => mthD m d ds S
/-- a list of the store put anew -/
theorem Rel.putL {w : Wd} {S : Store} {H : Hp} (R : Rel c w S H) {l : Nat} {a : Addr} {xs : List D} {ys : List V} (hl : w.ρ[l]? = some a) (r : RelDs c w xs ys) : Rel c w (S.set l (.lst xs)) (upd H a (.lst ys)) :=
  R.put hl ⟨ys, rfl, r⟩
theorem paired_put {w : Wd} {k : Key} {d : D} {v : V} (h : RelD c w d v) : ∀ {kvs : List (Key × D)} {ys : List (Key × V)}, Paired (fun (p : Key × D) (q : Key × V) => p.1 = q.1 ∧ RelD c w p.2 q.2) kvs ys →
    Paired (fun (p : Key × D) (q : Key × V) => p.1 = q.1 ∧ RelD c w p.2 q.2) (putD kvs k d) (putK ys k v) := by
  intro kvs ys r
  have e : (kvs.any fun kv => decide (kv.1 = k)) = (ys.any fun kv => decide (kv.1 = k)) := by
    induction r with
    | nil => rfl
    | cons h t ih => rw [List.any_cons, List.any_cons, ih, h.1]
  unfold putD putK
  rw [e]
  by_cases q : (ys.any fun kv => decide (kv.1 = k)) = true
  · rw [if_pos q, if_pos q]
    clear e q
    induction r with
    | nil => exact .nil
    | @cons p q ps qs h1 t ih =>
      rw [List.map_cons, List.map_cons]
      refine .cons ?_ ih
      by_cases z : p.1 = k
      · rw [if_pos z, if_pos (h1.1.symm.trans z)]; exact ⟨h1.1, h⟩
      · rw [if_neg z, if_neg (fun y => z (h1.1.trans y))]; exact h1
  · rw [if_neg q, if_neg q]; exact Paired.snoc r ⟨rfl, h⟩
theorem paired_merge {w : Wd} {more : List (Key × D)} {zs : List (Key × V)} (r : Paired (fun (p : Key × D) (q : Key × V) => p.1 = q.1 ∧ RelD c w p.2 q.2) more zs) : ∀ {kvs : List (Key × D)} {ys : List (Key × V)}, Paired (fun (p : Key × D) (q : Key × V) => p.1 = q.1 ∧ RelD c w p.2 q.2) kvs ys →
    Paired (fun (p : Key × D) (q : Key × V) => p.1 = q.1 ∧ RelD c w p.2 q.2) (mergeD kvs more) (mergeK ys zs) := by
  induction r with
  | nil => intro _ _ q; exact q
  | @cons p q ps qs h t ih =>
    intro kvs ys r0
    have := paired_put (k := p.1) h.2 r0
    rw [h.1] at this
    rw [h.1.symm] at this
    have e := ih (kvs := putD kvs p.1 p.2) (ys := putK ys q.1 q.2) (by rw [← h.1]; exact this)
    exact e
theorem mt_update : MtM X "dict.update" (fun x vs H Q => ∃ l b xs zs, x = .ref l ∧ vs = [.ref b] ∧ l ≠ b ∧ H l = some (.dK xs) ∧ H b = some (.dK zs) ∧ xs.length + zs.length ≤ sizeLine ∧ Q .non (upd H l (.dK (mergeK xs zs)))) := by
  intro pins s σ H x vs v us Q I rx rv h
  obtain ⟨l, b, xs, zs, rfl, rfl, hne, hl, hb, hz, q⟩ := h
  cases rx
  obtain ⟨u, rfl, ru⟩ := rv.one
  cases ru
  obtain ⟨z, hd, vs1, rel1, dd1⟩ := dk_of I.hok hl
  obtain ⟨z2, hd2, vs2, rel2, dd2⟩ := dk_of I.hok hb
  refine call_meetsIn PySem.F.slot_dict_update dd1.typeIs PySem.F.entry_dict_update (PySem.F.args_dict_update_2 _ _) (meets_dict_update (mixKind X.prog X.w) l b hne hd2)
    ⟨vs1, vs2, dd1, dd2, (by rw [← rel1.length, ← rel2.length]; exact hz), fun h' dd' _ hs => ?_⟩
  have he : ∃ q, h'.get? l = some q := let ⟨q, _, _, hq, _⟩ := dd'; ⟨q, hq⟩
  exact ⟨.non, _, d_write I (by rw [hl]; exact True.intro) hs he (dk_new (Nat.le_trans (length_mergeK zs xs) hz) hd (rel2.merge rel1) dd'), rfl, q⟩
theorem mth_update : MtR X "dict.update" (SemM c (fMth .update)) :=
  MtR.imp (mt_update (X := X)) fun x vs H Q ⟨w, S, d0, ds, d, S', R, r0, rs, e, k⟩ => by
    unfold fMth mthD updD at e
    rw [if_pos rfl] at e
    split at e
    · rename_i l j
      obtain ⟨v, rfl, rv⟩ := rs.one
      simp only [RelD] at r0 rv
      obtain ⟨a, h1, rfl⟩ := r0
      obtain ⟨b, h2, rfl⟩ := rv
      split at e
      · rename_i kvs more e1 e2
        split at e
        · rename_i hc
          cases e
          obtain ⟨_, ho, e3, ys, rfl, q1⟩ := R.obj l a _ h1 e1
          obtain ⟨_, ho, e4, zs, rfl, q2⟩ := R.obj j b _ h2 e2
          refine ⟨a, b, ys, zs, rfl, rfl, fun z => hc.1 (R.nd l j a h1 (by rw [z]; exact h2)), e3, e4, ?_, k w _ _ (Go.put h1) (R.put h1 ⟨_, rfl, paired_merge q2 q1⟩) (by simp only [RelD])⟩
          have l1 := Paired.length q1
          have l2 := Paired.length q2
          rw [← l1, ← l2]
          exact lim_le hc.2
        · cases e
      · cases e
    · cases e
theorem mth_append : MtR X "list.append" (SemM c (fMth .append)) :=
  MtR.imp (mt_append (X := X)) fun x vs H Q ⟨w, S, d0, ds, d, S', R, r0, rs, e, k⟩ => by
    obtain ⟨l, a, xs, ys, zs, rfl, rfl, h1, h2, h3, h4, hm, rfl⟩ := mth_list rfl R r0 e
    match ds, rs, hm with
    | [d1], rs, hm =>
      obtain ⟨v, rfl, rv⟩ := rs.one
      simp only [mthM] at hm
      split at hm
      · rename_i hz
        cases hm
        exact ⟨a, zs, v, rfl, rfl, h3, by rw [← h4.length]; exact lim_lt hz, k w _ _ (Go.put h1) (R.putL h1 (h4.append (.cons rv .nil))) (by simp only [RelD])⟩
      · cases hm
theorem mth_pop0 : MtR X "list.pop" (SemM c (fMth .pop0)) :=
  MtR.imp (mt_pop (X := X)) fun x vs H Q ⟨w, S, d0, ds, d, S', R, r0, rs, e, k⟩ => by
    obtain ⟨l, a, xs, ys, zs, rfl, rfl, h1, h2, h3, h4, hm, rfl⟩ := mth_list rfl R r0 e
    match ds, rs, hm with
    | [], rs, hm =>
      simp only [mthM, Option.map_eq_some_iff, Prod.mk.injEq] at hm
      obtain ⟨y, hy, rfl, rfl⟩ := hm
      obtain ⟨v, q1, q2⟩ := h4.get hy
      exact ⟨a, zs, v, rfl, rs.nil_inv, h3, by rw [← h4.length]; exact q1, k w _ _ (Go.put h1) (R.putL h1 h4.dropLast) q2⟩
theorem small_ix {n : Nat} {i : Int} (h : n ≤ LIM) (a : -(n : Int) ≤ i) (b : i < n) : -(2 ^ 63) ≤ i ∧ i < 2 ^ 63 := by
  have h' : n ≤ 100000 := h
  omega
theorem pop1_inv {S : Store} {xs ds ys : List D} {d : D} (h : mthM S .pop1 xs ds = some (d, ys)) : ∃ i j, ds = [.int i] ∧ xs.length ≤ LIM ∧ ixN xs.length i = some j ∧ xs[j]? = some d ∧ ys = xs.eraseIdx j := by
  match ds, h with
  | [.int i], h =>
    simp only [mthM] at h
    split at h
    · rename_i hz
      cases q : ixN xs.length i with
      | none => rw [q] at h; cases h
      | some j =>
        rw [q] at h
        simp only [Option.bind_some, Option.map_eq_some_iff, Prod.mk.injEq] at h
        obtain ⟨y, hy, rfl, rfl⟩ := h
        exact ⟨i, j, rfl, hz, q, hy, rfl⟩
    · cases h
theorem mth_pop1 : MtR X "list.pop" (SemM c (fMth .pop1)) :=
  MtR.imp (mt_popAt (X := X)) fun x vs H Q ⟨w, S, d0, ds, d, S', R, r0, rs, e, k⟩ => by
    obtain ⟨l, a, xs, ys, zs, rfl, rfl, h1, h2, h3, h4, hm, rfl⟩ := mth_list rfl R r0 e
    obtain ⟨i, j, rfl, hz, q, hy, rfl⟩ := pop1_inv hm
    obtain ⟨v, rfl, rv⟩ := rs.one
    simp only [RelD] at rv
    subst rv
    obtain ⟨u, q1, q2⟩ := h4.get hy
    obtain ⟨g1, g2, g3, g4⟩ := ixN_seq q
    obtain ⟨s1, s2⟩ := small_ix hz g3 g4
    exact ⟨a, zs, i, j, u, rfl, rfl, h3, s1, s2, by rw [← h4.length]; exact g1, q1, k w _ _ (Go.put h1) (R.putL h1 (h4.eraseIdx _)) q2⟩
theorem mth_extend : MtR X "list.extend" (SemM c (fMth .extend)) :=
  MtR.imp (mt_extend (X := X)) fun x vs H Q ⟨w, S, d0, ds, d, S', R, r0, rs, e, k⟩ => by
    obtain ⟨l, a, xs, ys, zs, rfl, rfl, h1, h2, h3, h4, hm, rfl⟩ := mth_list rfl R r0 e
    match ds, rs, hm with
    | [d1], rs, hm =>
      obtain ⟨v, rfl, rv⟩ := rs.one
      have vw := R.view rv
      simp only [mthM] at hm
      split at hm
      · rename_i us hu
        rw [hu] at vw
        obtain ⟨b, ts, rfl, h5, h6⟩ := vw
        split at hm
        · rename_i hz
          cases hm
          exact ⟨a, b, zs, ts, rfl, rfl, h3, h5, by rw [← h4.length, ← h6.length]; exact lim_le hz, k w _ _ (Go.put h1) (R.putL h1 (h4.append h6)) (by simp only [RelD])⟩
        · cases hm
      · cases hm
theorem mth_join (hK : X.K = c.K) : MtR X "str.join" (SemM c (fMth .join)) :=
  MtR.imp (mt_join (X := X)) fun x vs H Q ⟨w, S, d0, ds, d, S', R, r0, rs, e, k⟩ => by
    obtain ⟨e, rfl⟩ := mth_pure rfl e
    have v0 := R.view r0
    have vw := R.views rs
    generalize deref S d0 = e0 at *
    generalize ds.map (deref S) = es at *
    match e0, es, e with
    | .str a, [.lst xs], e =>
      obtain ⟨v, rfl, h⟩ := vw.one
      obtain ⟨p, ys, rfl, h1, q⟩ := h
      simp only [mthP] at e
      cases g : xs.mapM strOf with
      | none => rw [g] at e; cases e
      | some zs =>
        rw [g] at e
        simp only [Option.bind_some] at e
        split at e
        · rename_i hz
          cases e
          simp only [Vw, RelD] at v0
          exact ⟨a, p, zs, v0, rfl, .inl (by rw [← mapM_str q g]; exact SqL.of h1), Nat.le_trans hz (by decide), k w _ _ Go.refl R (by simp only [RelD])⟩
        · cases e
theorem mth_upper : MtR X "str.upper" (SemM c (fMth .upper)) :=
  MtR.imp (mt_upper (X := X)) fun x vs H Q ⟨w, S, d0, ds, d, S', R, r0, rs, e, k⟩ => by
    obtain ⟨e, rfl⟩ := mth_pure rfl e
    have v0 := R.view r0
    have vw := R.views rs
    generalize deref S d0 = e0 at *
    generalize ds.map (deref S) = es at *
    match e0, es, e with
    | .str a, [], e =>
      simp only [mthP] at e
      split at e
      · rename_i hz
        cases e
        simp only [Vw, RelD] at v0
        exact ⟨a, v0, vw, Nat.le_trans hz (by decide), k w _ _ Go.refl R (by simp only [RelD])⟩
      · cases e
theorem idxF_spec (x : D) : ∀ (ys : List D) (n m : Nat), idxF x ys n = some m → ∃ j, m = n + j ∧ (∃ z, ys[j]? = some z ∧ eqF z x = true) ∧ ∀ i z, i < j → ys[i]? = some z → eqF z x = false
  | [], n, m, h => by cases h
  | y :: ys, n, m, h => by
    unfold idxF at h
    split at h
    · rename_i hy
      cases h
      exact ⟨0, rfl, ⟨y, rfl, hy⟩, fun i z hi => absurd hi (Nat.not_lt_zero i)⟩
    · rename_i hy
      obtain ⟨j, e, ⟨z, hz, hzx⟩, hn⟩ := idxF_spec x ys (n + 1) m h
      refine ⟨j + 1, by omega, ⟨z, by simpa using hz, hzx⟩, fun i z' hi hz' => ?_⟩
      cases i with
      | zero => simp at hz'; subst hz'; simpa using hy
      | succ i => exact hn i z' (by omega) (by simpa using hz')
theorem all_get {xs : List D} (h : xs.all flat = true) {j : Nat} {z : D} (hz : xs[j]? = some z) : flat z = true := List.all_eq_true.mp h z (List.mem_of_getElem? hz)
theorem mth_index (hK : X.K = c.K) : MtR X "list.index" (SemM c (fMth .index)) :=
  MtR.imp (mt_index (X := X)) fun x vs H Q ⟨w, S, d0, ds, d, S', R, r0, rs, e, k⟩ => by
    obtain ⟨e, rfl⟩ := mth_pure rfl e
    have v0 := R.view r0
    have vw := R.views rs
    generalize deref S d0 = e0 at *
    generalize ds.map (deref S) = es at *
    match e0, es, e with
    | .lst xs, [x1], e =>
      obtain ⟨v, rfl, h⟩ := vw.one
      obtain ⟨p, ys, rfl, h1, q⟩ := v0
      simp only [mthP] at e
      split at e
      · rename_i hf
        rw [Bool.and_eq_true] at hf
        rw [Option.map_eq_some_iff] at e
        obtain ⟨m, e2, rfl⟩ := e
        obtain ⟨j, hj, ⟨z, hz, hzx⟩, hn⟩ := idxF_spec x1 xs 0 m e2
        rw [Nat.zero_add] at hj
        subst hj
        have rx : RelD c w x1 v := by
          cases x1 <;> simp only [flat] at hf <;> first | (exact absurd hf.1 (by decide)) | exact h
        obtain ⟨u, hu, ru⟩ := q.get hz
        refine ⟨p, ys, v, m, u, rfl, rfl, SqL.of h1, flat_of rx hf.1, flats_of q hf.2, hu, by rw [eqF_of ru rx (all_get hf.2 hz) hf.1]; exact hzx, fun i z' hi hz' => ?_, k w _ _ Go.refl R (by simp only [RelD])⟩
        obtain ⟨z2, hz2, rz2⟩ := q.getV hz'
        rw [eqF_of rz2 rx (all_get hf.2 hz2) hf.1]
        exact hn i z2 hi hz2
      · cases e
end
end MP

/-! MPR: repr and str of data. -/
namespace MP
open PySem L2
section
variable {X : Cx} {c : Cfg} {w : Wd} {pins : List (Addr × Obj)} {σ : L2.St} {H : Hp} {s : Shared}
theorem toPyE_map {α β : Type} {o : Option α} {f : α → β} {b : β} (h : o.map f = some b) : ∃ a, o = some a ∧ b = f a := by
  cases o with
  | none => cases h
  | some a => cases h; exact ⟨a, rfl, rfl⟩
theorem dict0 (I : Inv X pins σ H s) {a : Addr} (h : H a = some (.dK [])) : ∃ as, Reads s.heap (.ref a) (.dict []) as ∧ ∀ b ∈ as, b = a := by
  obtain ⟨_, _, vs, kv, o, es, ep, e1, e2, e3, _, pr, _⟩ := I.hok a _ h
  cases kv
  have hl : es.toList.length = 0 := pr.length
  have he : es.toList = [] := List.length_eq_zero_iff.mp hl
  refine ⟨_, Reads.dict (kvs := []) e1 e2.1 e3 (by rw [he]; exact .nil) (by rw [he]; exact .nil), fun b hb => ?_⟩
  simpa using hb
theorem vals_snd {κ : Type} {ys : List (κ × V)} {zs : List (κ × Value)} (h : KV ys zs) : Vals (ys.map (·.2)) (zs.map (·.2)) ∧ ys.map (·.1) = zs.map (·.1) := by
  induction h with
  | nil => exact ⟨.nil, rfl⟩
  | cons r t ih => exact ⟨.cons r.2 ih.1, by rw [List.map_cons, List.map_cons, r.1, ih.2]⟩
theorem pairs_read {P : Program} {W : World} {h : Heap} : ∀ {es : List DictEntry} {zs : List (Key × Value)}, Pairs (mixKind P W) es zs → es.map (·.val) = zs.map (·.2) ∧ ReadsAll h (es.map (·.key)) ((zs.map (·.1)).map keyPy) []
  | _, _, .nil => ⟨rfl, .nil⟩
  | _, _, .cons (e := e) (kv := kv) a b r => by
    obtain ⟨i1, i2⟩ := pairs_read (h := h) r
    refine ⟨by rw [List.map_cons, List.map_cons, b, i1], ?_⟩
    obtain ⟨k, z⟩ := kv
    have a' : keyIs k e.key = true := a
    have one : Reads h e.key (keyPy k) [] := by
      rcases keyIs_shape a' with ⟨i, t, e1, e2⟩ | ⟨x, t, e1, e2⟩
      · rw [e1, e2]; exact .int i t
      · rw [e1, e2]; exact .str x t
    exact ReadsAll.cons (as := []) (bs := []) one i2
mutual
theorem reads_of (I : Inv X pins σ H s) (hK : X.K = c.K) (ex : ∀ a o, w.B a = some o → H a = some o) (hs : H sysModules = none) :
    ∀ (d : D) (v : V) (u : Value) (p : PyData), RelD c w d v → RelV v u → toPyE d = some p → ∃ as, Reads s.heap u p as ∧ sysModules ∉ as
  | .non, v, u, p, r, q, e => by
    simp only [RelD, toPyE] at r e
    cases e; subst r; cases q
    exact ⟨_, .none, by simp⟩
  | .bl b, v, u, p, r, q, e => by
    simp only [RelD, toPyE] at r e
    cases e; subst r; cases q
    exact ⟨_, .bool b, by simp⟩
  | .int i, v, u, p, r, q, e => by
    simp only [RelD, toPyE] at r e
    cases e; subst r
    obtain ⟨t, rfl⟩ := q
    exact ⟨_, .int i t, by simp⟩
  | .str x, v, u, p, r, q, e => by
    simp only [RelD, toPyE] at r e
    cases e; subst r
    obtain ⟨t, rfl⟩ := q
    exact ⟨_, .str x t, by simp⟩
  | .emp, v, u, p, r, q, e => by
    simp only [RelD, toPyE] at r e
    cases e
    obtain ⟨a, rfl, h⟩ := r
    cases q
    obtain ⟨as, k1, k2⟩ := dict0 I (ex _ _ h)
    exact ⟨as, k1, fun z => by rw [← k2 _ z] at h; have := ex _ _ h; rw [hs] at this; cases this⟩
  | .tup xs, v, u, p, r, q, e => by
    simp only [RelD, toPyE] at r e
    obtain ⟨ps, e1, rfl⟩ := toPyE_map e
    obtain ⟨a, ys, rfl, h1, h2⟩ := r
    cases q
    obtain ⟨its, rv, ⟨o, ho, hc, n, hd⟩, _⟩ := I.tuple (sqT_mono ex (by rw [hK]; exact h1))
    obtain ⟨as, k1, k2⟩ := reads_all I hK ex hs xs ys its ps h2 rv e1
    exact ⟨as, Reads.tuple ho hc hd k1, k2⟩
  | .lst xs, v, u, p, r, q, e => by
    simp only [RelD, toPyE] at r e
    obtain ⟨ps, e1, rfl⟩ := toPyE_map e
    obtain ⟨a, ys, rfl, h1, h2⟩ := r
    cases q
    have h1' := ex _ _ h1
    obtain ⟨its, rv, ⟨o, n, ho, hc, _, hd⟩, _⟩ := I.list (SqL.of h1')
    obtain ⟨as, k1, k2⟩ := reads_all I hK ex hs xs ys its ps h2 rv e1
    refine ⟨_, Reads.list ho hc hd k1, fun z => ?_⟩
    rcases List.mem_cons.mp z with rfl | z
    · rw [hs] at h1'; cases h1'
    · exact k2 z
  | .scr _, _, _, _, _, _, e => by simp only [toPyE] at e; cases e
  | .ref _, _, _, _, _, _, e => by simp only [toPyE] at e; cases e
  | .fn _, _, _, _, _, _, e => by simp only [toPyE] at e; cases e
  | .ty _, _, _, _, _, _, e => by simp only [toPyE] at e; cases e
  | .dct ks vs, v, u, p, r, q, e => by
    simp only [RelD, toPyE] at r e
    cases z : toPysE vs with
    | none => rw [z] at e; cases e
    | some ps =>
      rw [z] at e
      simp only [Option.bind_some] at e
      split at e
      · rename_i hl
        cases e
        obtain ⟨a, ys, rfl, h1, rfl, h2⟩ := r
        cases q
        have h1' := ex _ _ h1
        obtain ⟨_, _, zs, kv, o, es, ep, e1, e2, e3, _, pr, _⟩ := I.hok a _ h1'
        obtain ⟨k1, k2⟩ := vals_snd kv
        obtain ⟨p1, p2⟩ := pairs_read (h := s.heap) pr
        obtain ⟨bs, b1, b2⟩ := reads_all I hK ex hs vs _ _ ps h2 k1 z
        refine ⟨_, Reads.dict (kvs := ((ys.map (·.1)).map keyPy).zip ps) (as := []) (bs := bs) e1 e2.1 e3 ?_ ?_, fun z => ?_⟩
        · rw [List.map_fst_zip (by rw [List.length_map]; exact Nat.le_of_eq hl), k2]; exact p2
        · rw [List.map_snd_zip (by rw [List.length_map]; exact Nat.le_of_eq hl.symm), p1]; exact b1
        · rw [List.cons_append, List.nil_append] at z
          rcases List.mem_cons.mp z with rfl | z
          · rw [hs] at h1'; cases h1'
          · exact b2 z
      · cases e
theorem reads_all (I : Inv X pins σ H s) (hK : X.K = c.K) (ex : ∀ a o, w.B a = some o → H a = some o) (hs : H sysModules = none) :
    ∀ (ds : List D) (vs : List V) (us : List Value) (ps : List PyData), RelDs c w ds vs → Vals vs us → toPysE ds = some ps → ∃ as, ReadsAll s.heap us ps as ∧ sysModules ∉ as
  | [], vs, us, ps, r, q, e => by
    simp only [toPysE] at e
    cases e
    rw [r.nil_inv] at q
    cases q
    exact ⟨_, .nil, by simp⟩
  | d :: ds, vs, us, ps, r, q, e => by
    obtain ⟨v, r', rfl, h1, h2⟩ := r.cons_inv
    simp only [toPysE] at e
    cases z : toPyE d with
    | none => rw [z] at e; cases e
    | some p =>
      rw [z] at e
      simp only [Option.bind_some] at e
      obtain ⟨ps', e2, rfl⟩ := toPyE_map e
      cases q with
      | cons q1 q2 =>
        obtain ⟨as, a1, a2⟩ := reads_of I hK ex hs d v _ p h1 q1 z
        obtain ⟨bs, b1, b2⟩ := reads_all I hK ex hs ds r' _ ps' h2 q2 e2
        exact ⟨_, .cons a1 b1, fun z => (List.mem_append.mp z).elim a2 b2⟩
end
/-- read as it stands -/
theorem reads_view {S : Store} (I : Inv X pins σ H s) (hK : X.K = c.K) (R : Rel c w S H) (hs : H sysModules = none) {d : D} {v : V} {u : Value} {p : PyData}
    (r : Vw c w H d v) (q : RelV v u) (e : toPyE d = some p) : ∃ as, Reads s.heap u p as ∧ sysModules ∉ as := by
  cases d
  case tup xs =>
    simp only [Vw, toPyE] at r e
    obtain ⟨ps, e1, rfl⟩ := toPyE_map e
    obtain ⟨a, ys, rfl, h1, h2⟩ := r
    cases q
    obtain ⟨its, rv, ⟨o, ho, hc, n, hd⟩, _⟩ := I.tuple (by rw [hK]; exact h1)
    obtain ⟨as, k1, k2⟩ := reads_all I hK R.ex hs xs ys its ps h2 rv e1
    exact ⟨as, Reads.tuple ho hc hd k1, k2⟩
  case lst xs =>
    simp only [Vw, toPyE] at r e
    obtain ⟨ps, e1, rfl⟩ := toPyE_map e
    obtain ⟨a, ys, rfl, h1, h2⟩ := r
    cases q
    obtain ⟨its, rv, ⟨o, n, ho, hc, _, hd⟩, _⟩ := I.list (SqL.of h1)
    obtain ⟨as, k1, k2⟩ := reads_all I hK R.ex hs xs ys its ps h2 rv e1
    refine ⟨_, Reads.list ho hc hd k1, fun z => ?_⟩
    rcases List.mem_cons.mp z with rfl | z
    · rw [hs] at h1; cases h1
    · exact k2 z
  case emp =>
    simp only [Vw, toPyE] at r e
    cases e
    obtain ⟨a, rfl, h⟩ := r
    cases q
    obtain ⟨as, k1, k2⟩ := dict0 I h
    exact ⟨as, k1, fun z => by rw [← k2 _ z, hs] at h; cases h⟩
  case dct ks vs =>
    simp only [Vw, toPyE] at r e
    cases z : toPysE vs with
    | none => rw [z] at e; cases e
    | some ps =>
      rw [z] at e
      simp only [Option.bind_some] at e
      split at e
      · rename_i hl
        cases e
        obtain ⟨a, ys, rfl, h1', rfl, h2⟩ := r
        cases q
        obtain ⟨_, _, zs, kv, o, es, ep, e1, e2, e3, _, pr, _⟩ := I.hok a _ h1'
        obtain ⟨k1, k2⟩ := vals_snd kv
        obtain ⟨p1, p2⟩ := pairs_read (h := s.heap) pr
        obtain ⟨bs, b1, b2⟩ := reads_all I hK R.ex hs vs _ _ ps h2 k1 z
        refine ⟨_, Reads.dict (kvs := ((ys.map (·.1)).map keyPy).zip ps) (as := []) (bs := bs) e1 e2.1 e3 ?_ ?_, fun z => ?_⟩
        · rw [List.map_fst_zip (by rw [List.length_map]; exact Nat.le_of_eq hl), k2]; exact p2
        · rw [List.map_snd_zip (by rw [List.length_map]; exact Nat.le_of_eq hl.symm), p1]; exact b1
        · rw [List.cons_append, List.nil_append] at z
          rcases List.mem_cons.mp z with rfl | z
          · rw [hs] at h1'; cases h1'
          · exact b2 z
      · cases e
  all_goals first
    | (simp only [toPyE] at e; cases e; done)
    | exact reads_of I hK R.ex hs _ v u p r q e
theorem shownD_inv {d : D} {z : Str} (h : shownD d = some z) : ∃ p, toPyE d = some p ∧ p.showable = true ∧ p.depth ≤ 64 ∧ p.shown.length ≤ sizeLine ∧ z = p.shown := by
  unfold shownD at h
  cases e : toPyE d with
  | none => rw [e] at h; cases h
  | some p =>
    rw [e] at h
    simp only [Option.bind_some] at h
    split at h
    · rename_i g
      simp only [Bool.and_eq_true, decide_eq_true_iff] at g
      cases h
      refine ⟨p, rfl, g.1.1, g.1.2, Nat.le_trans g.2 (by rw [sizeLine_eq]; decide), rfl⟩
    · cases h
theorem vals_one {v : V} {us : List Value} (h : Vals [v] us) : ∃ u, us = [u] ∧ RelV v u := by
  cases h with
  | cons a b =>
    cases b
    exact ⟨_, rfl, a⟩
theorem blt_repr (hK : X.K = c.K) (hg : X.A.guards = some []) (hu : X.A.units + 70 < cLine) (hb : ∃ o, X.base.get? sysModules = some o) : CallR X (.builtin "repr") (SemC c (fBlt .repr)) := by
  rintro pins s σ H vs us Q I r ⟨w, S, ds, d, R, rs, e, k⟩
  obtain ⟨o, ho⟩ := hb
  have hs := (I.bs _ _ ho).2
  have vw := R.views rs
  unfold fBlt at e
  generalize ds.map (deref S) = es at *
  match es, e with
  | [e1], e =>
    obtain ⟨v, rfl, h⟩ := vw.one
    obtain ⟨u, rfl, ru⟩ := vals_one r
    simp only [bltD] at e
    obtain ⟨z, e2, rfl⟩ := toPyE_map e
    obtain ⟨p, h1, h2, h3, h4, rfl⟩ := shownD_inv e2
    have k' : Q (.str p.shown) H := k w H (.str p.shown) Go.refl R (by simp only [RelD])
    obtain ⟨as, rd, ns⟩ := reads_view I hK R hs h ru h1
    cases rd with
    | none => exact PySem.P.repr_of_none ⟨.str _, H, I.tok _, ⟨_, rfl⟩, k'⟩
    | bool b => exact PySem.P.repr_of_bool ⟨.str _, H, I.tok _, ⟨_, rfl⟩, k'⟩
    | int i t => exact PySem.P.repr_of_int (of_decide_eq_true h2) ⟨.str _, H, I.tok _, ⟨_, rfl⟩, k'⟩
    | str x t => exact PySem.P.repr_of_str ⟨.str _, H, I.tok _, ⟨_, rfl⟩, k'⟩ h4
    | list a1 a2 a3 a4 => exact repr_of_reads' (.list a1 a2 a3 a4) h2 (fun _ => ns) hg (by omega) (fun _ _ z => z) (fun h' u tk hk => ⟨.str _, H, I.kept hk, ⟨_, rfl⟩, k'⟩) h4
    | tuple a1 a2 a3 a4 => exact repr_of_reads' (.tuple a1 a2 a3 a4) h2 (fun _ => ns) hg (by omega) (fun _ _ z => z) (fun h' u tk hk => ⟨.str _, H, I.kept hk, ⟨_, rfl⟩, k'⟩) h4
    | dict a1 a2 a3 a4 a5 => exact repr_of_reads' (.dict a1 a2 a3 a4 a5) h2 (fun _ => ns) hg (by omega) (fun _ _ z => z) (fun h' u tk hk => ⟨.str _, H, I.kept hk, ⟨_, rfl⟩, k'⟩) h4
theorem blt_str (hK : X.K = c.K) (hg : X.A.guards = some []) (hu : X.A.units + 70 < cLine) (hb : ∃ o, X.base.get? sysModules = some o) : CallR X (.type "str") (SemC c (fBlt .str)) := by
  rintro pins s σ H vs us Q I r ⟨w, S, ds, d, R, rs, e, k⟩
  obtain ⟨o, ho⟩ := hb
  have hs := (I.bs _ _ ho).2
  have vw := R.views rs
  unfold fBlt at e
  generalize ds.map (deref S) = es at *
  have one : ∃ e1, es = [e1] := by
    match es, e with
    | [], e => simp only [bltD] at e; cases e
    | [x], _ => exact ⟨x, rfl⟩
    | x :: y :: r, e => cases x <;> simp only [bltD] at e <;> cases e
  obtain ⟨e1, rfl⟩ := one
  · obtain ⟨v, rfl, h⟩ := vw.one
    obtain ⟨u, rfl, ru⟩ := vals_one r
    have seq : (shownD e1).map D.str = some d → (∃ a, u = .ref a) → wpAny (model X.prog X.w) X.A (call (.type "str") [u]) (EP X pins σ Q) X.xe s := fun e ⟨a, ea⟩ => by
      subst ea
      obtain ⟨z, e2, rfl⟩ := toPyE_map e
      obtain ⟨p, h1, h2, h3, h4, rfl⟩ := shownD_inv e2
      have k' : Q (.str p.shown) H := k w H (.str p.shown) Go.refl R (by simp only [RelD])
      obtain ⟨as, rd, ns⟩ := reads_view I hK R hs h ru h1
      exact str_of_reads rd h2 (fun _ => ns) hg (by omega) (fun _ _ z => z) (fun h' u tk hk => ⟨.str _, H, I.kept hk, ⟨_, rfl⟩, k'⟩) h4
    cases e1 <;> simp only [bltD] at e <;> try (cases e; done)
    · cases e
      simp only [Vw, RelD] at h
      subst h
      cases ru
      exact PySem.P.str_of_none ⟨.str _, H, I.tok _, ⟨_, rfl⟩, k w H (.str _) Go.refl R (by simp only [RelD])⟩
    · cases e
      simp only [Vw, RelD] at h
      subst h
      cases ru
      exact PySem.P.str_of_bool ⟨.str _, H, I.tok _, ⟨_, rfl⟩, k w H (.str _) Go.refl R (by simp only [RelD])⟩
    · split at e
      · rename_i i hz
        cases e
        simp only [Vw, RelD] at h
        exact call_str_int pins s σ H _ _ Q I r ⟨i, by rw [h], hz, k w H _ Go.refl R (by simp only [RelD])⟩
      · cases e
    · cases e
      simp only [Vw, RelD] at h
      subst h
      obtain ⟨t, rfl⟩ := ru
      exact PySem.P.str_of_str ⟨.str _, H, I, ⟨t, rfl⟩, k w H (.str _) Go.refl R (by simp only [RelD])⟩
    · refine seq e ?_
      obtain ⟨a, ys, rfl, _⟩ := h
      exact ⟨a, ru⟩
    · refine seq e ?_
      obtain ⟨a, ys, rfl, _⟩ := h
      exact ⟨a, ru⟩
    · refine seq e ?_
      obtain ⟨a, ys, rfl, _⟩ := h
      exact ⟨a, ru⟩
    · refine seq e ?_
      obtain ⟨a, rfl, _⟩ := h
      exact ⟨a, ru⟩
end
end MP

/-! MPT: sets of texts made of a list, and sorted. -/
namespace MPT
open PySem PySem.Spec PyProof.Rows L2 PySem.Froz

/-- the set at a has the texts l -/
structure TxS (P : Program) (w : World) (h : Heap) (a : Addr) (l : List Str) : Prop where
  at_ : ∃ D : SD, h.get? a = some (sObj "set" D) ∧ TxOk P w D l ∧ Ris D.2.2.place.toList ∧ (w.params.followText "set-order" = true ∨ D.2.2.led = true)
  nd : l.Nodup
theorem addTx_both {h : Int} {v : Value} {D : SD} (r : Ris D.2.2.place.toList) : Ris (addTx h v D).2.2.place.toList ∧ (addTx h v D).2.2.led = D.2.2.led := by
  obtain ⟨es, ep, t⟩ := D
  have a1 := layNew_ris t es h v r
  have a2 := layNew_led t es h v
  unfold addTx tailTx
  dsimp only at a1 a2 ⊢
  generalize layNew t es h v = Z at a1 a2 ⊢
  obtain ⟨es1, t1, wd, gv⟩ := Z
  dsimp only at a1 a2 ⊢
  have b1 : Ris (if t1.plain = true then { t1 with plain := false } else t1).place.toList := by split <;> exact a1
  have b2 : (if t1.plain = true then { t1 with plain := false } else t1).led = t.led := by split <;> exact a2
  generalize (if t1.plain = true then { t1 with plain := false } else t1) = t2 at b1 b2 ⊢
  by_cases c : (!wd && t2.tooFull) = true
  · rw [if_pos c]
    exact ⟨relayAll_ris _ _ _, (relayAll_led _ _ _).trans b2⟩
  · rw [if_neg c]
    exact ⟨b1, b2⟩
section
variable {P : Program} {w : World} {A : Around} {E : Value → Shared → Prop} {s : Shared}
theorem TxS.at {h h' : Heap} {a : Addr} {l : List Str} (T : TxS P w h a l) (k : ∀ o, h.get? a = some o → h'.get? a = some o) : TxS P w h' a l := by
  obtain ⟨⟨D, x, y⟩, nd⟩ := T
  exact ⟨⟨D, k _ x, y⟩, nd⟩
theorem TxS.fresh {h : Heap} {a : Addr} (ho : h.get? a = some (sObj "set" (#[], 0, .fresh 0 0 (!w.params.followText "set-order")))) : TxS P w h a [] := by
  refine ⟨⟨_, ho, TxOk.nil rfl, List.Pairwise.nil, ?_⟩, List.nodup_nil⟩
  show _ ∨ (!w.params.followText "set-order") = true
  cases w.params.followText "set-order" <;> simp
theorem TxS.add {a : Addr} {l : List Str} {k : Str} {u : Tok} {Q : Bool → Shared → Prop} (T : TxS P w s.heap a l) (hb : l.length + 1 < scanBound)
    (hQ : ∀ b h' l', Heap.SameBut a s.heap h' → TxS P w h' a l' → (∀ x, x ∈ l' ↔ x = k ∨ x ∈ l) → l'.length ≤ l.length + 1 → Q b { s with heap := h' }) : wpAny (model P w) A (setAddHashed a (.str k u) (hashStr w k)) Q E s := by
  obtain ⟨⟨D, ho, F, r, ld⟩, nd⟩ := T
  by_cases hk : k ∈ l
  · obtain ⟨es, ep, t⟩ := D
    have hkey : (PySem.strKind P w).is k (.str k u) = true := is_str k u
    have hb0 : es.size < scanBound := by rw [show es.size = l.length from F.sz]; omega
    have hel : ElemsOf (PySem.strKind P w) es.toList := F.el
    unfold setAddHashed setAddHashedIn
    refine wpAny_holding (wpAny_bind (wpAny_setState_of ho rfl F.fit ?_)); dsimp only
    rw [byScan_of rfl hb0 hel]; simp only [↓reduceIte]
    unfold setAddByScan
    refine wpAny_bind ?_; refine wpAny_bind (wpAny_rule ?_)
    refine wpAny_bind (wpAny_setScan_of (knd := PySem.strKind P w) (k := k) hkey ho rfl F.fit hel ?_)
    cases hr : List.findIdx? (fun e => (PySem.strKind P w).is k e.2) es.toList with
    | none =>
      obtain ⟨e, he, q⟩ := (F.mem k).mp hk
      have z := List.findIdx?_eq_none_iff.mp hr e he; rw [q] at z; cases z
    | some j =>
      dsimp only
      refine wpAny_pure (wpAny_pure ?_)
      exact hQ _ s.heap l (Heap.SameBut.refl a s.heap) ⟨⟨_, ho, F, r, ld⟩, nd⟩ (fun x => ⟨.inr, fun z => z.elim (fun e => e ▸ hk) id⟩) (Nat.le_succ _)
  · refine add_x ho F hk hb ?_
    obtain ⟨b1, b2⟩ := addTx_both (h := hashStr w k) (v := .str k u) r
    exact hQ true _ (k :: l) (Heap.SameBut.update s.heap a _) ⟨⟨_, get_upd _ ho rfl, add_ok u F, b1, by rw [b2]; exact ld⟩, List.nodup_cons.mpr ⟨hk, nd⟩⟩ (fun x => List.mem_cons) (Nat.le_refl _)
end
/-- the loop of set.update over a walk of texts -/
theorem set_loop {P : Program} {w : World} {A : Around} {R : Result → Shared → Prop} {I : Addr} {fp wr : List Addr} {G : Array GenState → Array GenState → Prop} {n : Nat} {Pv : Nat → Value → Prop} {St : Nat → Shared → Prop}
    (W : WalksS P w A.in1 I fp wr G n Pv St) (S : Addr) (hSf : S ∉ fp) (xs : List Str) (hn : n = xs.length) (hfew : xs.length < 4000) (hval : ∀ i v, Pv i v → ∃ t x, xs[i]? = some x ∧ v = .str x t) :
    ∀ (k i : Nat) (s : Shared), n - i = k → i ≤ n → St i s → (∃ l, TxS P w s.heap S l ∧ (∀ x, x ∈ l ↔ x ∈ xs.take i) ∧ l.length ≤ i) →
      (∀ s' l, Moved (S :: wr) G s s' → TxS P w s'.heap S l → (∀ x, x ∈ l ↔ x ∈ xs.take n) → l.length ≤ n → R (.ok (.ret .none)) s') →
      codeAny (model P w) A (.builtin "set.update.loop" ⟨[.ref S, .ref I], []⟩) R s := by
  have nw : S ∉ wr := fun h => hSf (W.sub _ h)
  have up : ∀ b ∈ wr, b ∈ S :: wr := fun b hb => List.mem_cons_of_mem _ hb
  intro k
  induction k with
  | zero =>
    intro i s hk hi hst ⟨l, T, hl, hz⟩ hR
    obtain rfl : i = n := by omega
    refine codeAny_builtin PyProof.Rows.F.entry_set_update_loop ?_; rw [Around.under_plainId PyProof.Rows.F.plain_set_update_loop _]
    show wpAny _ A.in1 (pyNext (.ref I) >>= _) _ _ s; refine wpAny_bind (W.done s _ _ hst fun s' hm => ?_)
    show wpAny _ A.in1 (ret Value.none) _ _ s'; exact wpAny_pure (hR s' l (hm.mono up) (T.at fun o e => hm.heap S o nw e) hl hz)
  | succ k ih =>
    intro i s hk hi hst ⟨l, T, hl, hz⟩ hR
    have hlt : i < n := by omega
    refine codeAny_builtin PyProof.Rows.F.entry_set_update_loop ?_; rw [Around.under_plainId PyProof.Rows.F.plain_set_update_loop _]
    show wpAny _ A.in1 (pyNext (.ref I) >>= _) _ _ s; refine wpAny_bind (W.item i s _ _ hlt hst fun v s' hP hst' hm => ?_)
    obtain ⟨t, x, hx, rfl⟩ := hval i v hP
    have T' : TxS P w s'.heap S l := T.at fun o e => hm.heap S o nw e
    show wpAny _ A.in1 (holding [Value.str x t] (setAdd S (.str x t)) >>= _) _ _ s'
    refine wpAny_bind (wpAny_holding ?_); unfold setAdd
    refine wpAny_holding ?_; refine wpAny_bind ((PySem.strKind P w).pyHash (k := x) (strKind_is _ _ _ _) ?_)
    refine TxS.add (s := { s' with toks := s'.toks + 1 }) T' (by unfold scanBound; omega) fun b h' l' hsb T2 hl2 hz2 => ?_
    refine wpAny_pure ⟨plainId_quiet PyProof.Rows.F.plain_set_update_loop _, ih (i + 1) _ (by omega) hlt (W.frame _ s' _ _ hst' (Nat.le_succ _) fun b hb o e => ?_) ⟨l', T2, fun y => ?_, by omega⟩ fun s'' l3 hm3 T3 hl3 hz3 => ?_⟩
    · rw [hsb.2 b fun z : b = S => hSf (z ▸ hb)]; exact e
    · rw [hl2 y, hl y, List.take_succ, hx, List.mem_append]; simp only [Option.toList_some, List.mem_singleton]; exact Or.comm
    · refine hR s'' l3 (Moved.trans W.gtrans ((hm.mono up).then_heap (Nat.le_succ _) fun b o hb e => ?_) hm3) T3 hl3 hz3
      rw [hsb.2 b fun z : b = S => hb (z ▸ List.mem_cons_self)]; exact e
section
variable {P : Program} {w : World} {A : Around} {E : Value → Shared → Prop} {s : Shared}
abbrev newS (w : World) : Obj := sObj "set" (#[], 0, .fresh 0 0 (!w.params.followText "set-order"))
theorem strs_get : ∀ {us : List Value} {xs : List Str}, StrsAre us xs → ∀ (i : Nat) (v : Value), us[i]? = some v → ∃ t x, xs[i]? = some x ∧ v = .str x t
  | _, _, .nil, i, v, h => by cases i <;> cases h
  | _, _, .cons n t hr, 0, v, h => ⟨t, n, rfl, (Option.some.inj h).symm⟩
  | _, _, .cons n t hr, i + 1, v, h => strs_get hr i v h
theorem strs_len {us : List Value} {xs : List Str} (h : StrsAre us xs) : us.length = xs.length := by
  induction h with
  | nil => rfl
  | cons _ _ _ ih => simp only [List.length_cons, ih]
set_option maxHeartbeats 3200000 in
/-- set(xs), xs a list of texts -/
theorem call_set_txts {p : Addr} {its : Array Value} {xs : List Str} {Q : Value → Shared → Prop} (hh : A.handled = none) (hl : s.heap.IsList p its) (hi : StrsAre its.toList xs) (hfew : xs.length < 4000)
    (hQ : ∀ (h' : Heap) (tk : Nat) l, TxS P w h' s.heap.objs.size l → (∀ x, x ∈ l ↔ x ∈ xs) → l.length ≤ xs.length → (∀ b o, s.heap.get? b = some o → h'.get? b = some o) → Q (.ref s.heap.objs.size) { s with heap := h', toks := tk }) :
    wpAny (model P w) A (call (.type "set") [.ref p]) Q E s := by
  have hsz : its.size = xs.length := by rw [← strs_len hi, Array.length_toList]
  obtain ⟨c, tl, hmro⟩ := PySem.F.called_set.mro
  have hmade := PySem.F.called_set.made; have hsub := PySem.F.called_set.sub
  refine wpAny_call (codeAny_of_tree ?_); show wpAny _ _ (callAny (.type "set") _) _ _ _
  refine wpAny_pure ⟨Code.quiet_builtin _ (by decide +kernel), codeAny_builtin PySem.F.entry_type_call ?_⟩; rw [Around.under_plain (weight_type_call_type "set" [.ref p] []) rfl]
  have h1 := PySem.F.called_set.notType; have h2 := PySem.F.called_set.canCreate
  have hct := PySem.F.typeCall_set_1 (.ref p)
  repeat (any_goals (first | assumption | wp_step))
  refine codeAny_mono (code_set_led1 (.ref p) (E := E) (Q₁ := fun obj s₁ => obj = .ref s.heap.objs.size ∧ s₁ = { s with heap := s.heap.push (newS w) }) ⟨rfl, rfl⟩) fun r s₁ hr => ?_
  cases r with
  | error e => exact hr
  | ok fl =>
    cases fl with
    | ret obj =>
      obtain ⟨rfl, rfl⟩ := hr
      have hS : (s.heap.push (newS w)).get? s.heap.objs.size = some (newS w) := Heap.get?_push_size _ rfl
      have hT : Shared.TypeIs { s with heap := s.heap.push (newS w) } (.ref s.heap.objs.size) "set" := ⟨_, hS, rfl⟩
      have hli := PySem.F.called_set.init.lookup; have hbi := PySem.F.called_set.init.bind (.ref s.heap.objs.size)
      repeat (any_goals (first | assumption | wp_step))
      refine codeAny_mono (codeAny_call_builtin (R := wants (fun r s₂ => r = .none ∧ ∃ h' tk l, s₂ = { s with heap := h', toks := tk } ∧ TxS P w h' s.heap.objs.size l ∧ (∀ x, x ∈ l ↔ x ∈ xs) ∧ l.length ≤ xs.length ∧
          (∀ b o, s.heap.get? b = some o → h'.get? b = some o)) E) PySem.F.called_set.init.plain PySem.F.entry_set_init (check_set_init_1 hT ?_)) fun r₂ s₂ hr₂ => ?_
      · obtain ⟨ol, hol, hcl, nl, hdl⟩ := hl
        obtain ⟨ocls, odict, odata, oslots⟩ := ol
        simp only at hcl hdl
        subst hcl; subst hdl
        have hol2 : (s.heap.push (newS w)).get? p = some { cls := .type "list", dict := odict, data := .seq its nl, slots := oslots } := Heap.get?_push_of_some _ hol
        have hsls := PySem.F.sub_list_set; have hslf := PySem.F.sub_list_frozenset
        have hne : (Value.type "list" == Value.type "dict") = false := by decide
        have hl1 : (s.heap.push (newS w)).IsList p its := ⟨_, hol2, rfl, nl, rfl⟩
        unfold Builtin.«set.__init__» noKeywords Builtin.Frozenset.updateFrom
        generalize hPI : pyIter = PI
        wp_walk
        subst hPI
        refine wpAny_pyIter_list hl1 ?_; refine wpAny_bind (wpAny_runValue ?_)
        have hps : p < s.heap.objs.size := Heap.lt_size hol
        have hh3 : A.in1.in1.in1.handled = none := by simp [hh]
        have hneI : p ≠ (s.heap.push (newS w)).objs.size := by rw [Heap.size_push]; exact Nat.ne_of_lt (Nat.lt_succ_of_lt hps)
        have hSf : s.heap.objs.size ∉ [(s.heap.push (newS w)).objs.size, p] := by
          rw [Heap.size_push]; simp only [List.mem_cons, List.not_mem_nil, or_false, not_or]; exact ⟨Nat.ne_of_lt (Nat.lt_succ_self _), Nat.ne_of_gt hps⟩
        have hval : ∀ (i : Nat) (v : Value), its[i]? = some v → ∃ t x, xs[i]? = some x ∧ v = .str x t := fun i v hv => strs_get hi i v (by rw [Array.getElem?_toList]; exact hv)
        refine set_loop ((Walks.list hh3 _ p hneI its).toS) s.heap.objs.size hSf xs hsz hfew hval (its.size - 0) 0 _ (by omega) (Nat.zero_le _) ⟨⟨_, Heap.get?_push_size _ rfl, rfl, rfl⟩, (hl1.push _)⟩ ?hS0 ?hR
        case hS0 =>
          refine ⟨[], TxS.fresh (Heap.get?_push_of_some _ hS), fun x => ?_, Nat.le_refl _⟩
          simp
        case hR =>
          intro s' l hm T hml hlen
          obtain ⟨h', g2, d', tk', os'⟩ := s'
          have eg : g2 = s.gens := hm.gens; have ed : d' = s.drawn := hm.drawn
          have eo : os' = s.os := hm.os; subst eg; subst ed; subst eo
          show wpAny _ _ _ _ _ _
          refine wpAny_pure ?_; show wpAny _ _ (ret Value.none) _ _ _
          rw [hsz] at hml hlen
          refine wpAny_pure ⟨rfl, h', tk', l, rfl, T, fun x => by rw [hml x, List.take_length], hlen, fun b o e => ?_⟩
          have hbs : b < s.heap.objs.size := Heap.lt_size e
          refine hm.heap b o ?_ (Heap.get?_push_of_some _ (Heap.get?_push_of_some _ e))
          rw [Heap.size_push]
          intro z; simp only [List.mem_cons, List.not_mem_nil, or_false] at z
          rcases z with z | z
          · exact Nat.ne_of_lt hbs z
          · exact Nat.ne_of_lt (Nat.lt_succ_of_lt hbs) z
      · cases r₂ with
        | error e => exact hr₂
        | ok fl₂ =>
          cases fl₂ with
          | ret r =>
            obtain ⟨rfl, h', tk, l, rfl, T, z1, z2, z3⟩ := hr₂
            repeat (any_goals (first | assumption | wp_step))
            exact hQ h' tk l T z1 z2 z3
          | _ => exact hr₂.elim
    | _ => exact hr.elim
theorem strs_of_elems : ∀ (es : List (Int × Value)), ElemsOf (PySem.strKind P w) es → ∃ ss, StrsAre (es.map (·.2)) ss ∧ ∀ x, x ∈ ss ↔ ∃ e ∈ es, (PySem.strKind P w).is x e.2 = true
  | [], _ => ⟨[], .nil, fun x => by simp⟩
  | e :: es, h => by
    obtain ⟨ss, h1, h2⟩ := strs_of_elems es fun q hq => h q (List.mem_cons_of_mem _ hq)
    obtain ⟨⟨k, h3, _⟩, _⟩ := h e List.mem_cons_self
    obtain ⟨t, h4⟩ := Value.isStrOf_shape h3
    refine ⟨k :: ss, by rw [List.map_cons, h4]; exact .cons k t h1, fun x => ?_⟩
    constructor
    · intro z
      rcases List.mem_cons.mp z with rfl | z
      · exact ⟨e, List.mem_cons_self, h3⟩
      · obtain ⟨q, a, b⟩ := (h2 x).mp z; exact ⟨q, List.mem_cons_of_mem _ a, b⟩
    · rintro ⟨q, a, b⟩
      rcases List.mem_cons.mp a with rfl | a
      · rw [(PySem.strKind P w).inj q.2 x k b h3]; exact List.mem_cons_self
      · exact List.mem_cons_of_mem _ ((h2 x).mpr ⟨q, a, b⟩)
theorem strs_perm {us vs : List Value} (p : us.Perm vs) : ∀ {ss : List Str}, StrsAre vs ss → ∃ ts, StrsAre us ts ∧ ts.Perm ss := by
  induction p with
  | nil => exact fun h => ⟨_, h, .refl _⟩
  | cons x _ ih =>
    intro ss h
    cases h with
    | cons n t hr => obtain ⟨ts, a, b⟩ := ih hr; exact ⟨n :: ts, .cons n t a, b.cons n⟩
  | swap x y l =>
    intro ss h
    cases h with
    | cons n t hr => cases hr with
      | cons m u hs => exact ⟨m :: n :: _, .cons m u (.cons n t hs), .swap _ _ _⟩
  | trans _ _ i1 i2 =>
    intro ss h
    obtain ⟨ts, a, b⟩ := i2 h
    obtain ⟨rs, c, d⟩ := i1 a
    exact ⟨rs, c, d.trans b⟩
theorem perm_of_sub : ∀ (l ss : List Str), l.Nodup → (∀ x ∈ l, x ∈ ss) → ss.length = l.length → ss.Perm l
  | [], ss, _, _, h => by rw [List.eq_nil_of_length_eq_zero h]
  | x :: l, ss, nd, sub, h => by
    obtain ⟨h1, h2⟩ := List.nodup_cons.mp nd
    have hx := sub x List.mem_cons_self
    have p := List.perm_cons_erase hx
    refine p.trans ((perm_of_sub l (ss.erase x) h2 (fun y hy => (List.mem_erase_of_ne fun e : y = x => h1 (e ▸ hy)).2 (sub y (List.mem_cons_of_mem _ hy))) ?_).cons x)
    rw [List.length_erase_of_mem hx, h, List.length_cons]; omega
/-- sorted(found) -/
theorem call_sorted_txts {a : Addr} {l : List Str} {Q : Value → Shared → Prop} (T : TxS P w s.heap a l) (hh : A.handled = none) (h64 : l.length < 64)
    (hQ : ∀ s' p (out : Array Value) (c : Nat) (ss : List Str), (∀ b o, s.heap.get? b = some o → s'.heap.get? b = some o) → s'.gens = s.gens → s'.os = s.os → s.heap.objs.size ≤ p →
      s'.heap.get? p = some (seqObj "list" out c) → StrsAre out.toList ss → ss.Perm l → PyProof.Rows.sortedS ss = true → Q (.ref p) s') : wpAny (model P w) A (call (.builtin "sorted") [.ref a]) Q E s := by
  obtain ⟨⟨⟨es, ep, t⟩, ho, F, r, ld⟩, nd⟩ := T
  have hsz : es.size = l.length := F.sz
  refine Calls.call_function_entry kind_sorted plain_sorted entry_sorted (args_sorted1 _) ?_; unfold Builtin.«sorted»
  refine wpAny_bind (m := checkCount "sorted" 1 1 _) (wpAny_pure ?_)
  refine wpAny_bind (collect_set (A := A.in1) hh ⟨_, ho, rfl, rfl⟩ F.fit (by rw [hsz]; unfold scanBound; omega) r ld fun s1 vs k1 hz g1 o1 pm => ?_)
  have hvl : vs.length = l.length := by rw [pm.length_eq, List.length_map, Array.length_toList]; exact hsz
  obtain ⟨ss0, q1, q2⟩ := strs_of_elems (P := P) (w := w) es.toList F.el
  obtain ⟨ss, q3, q4⟩ := strs_perm pm q1
  have nd0 : ss0.Perm l := by
    refine (List.Perm.symm ?_)
    have sub : ∀ x ∈ l, x ∈ ss0 := fun x hx => (q2 x).mpr ((F.mem x).mp hx)
    have hl0 : ss0.length = l.length := by rw [← strs_len q1, List.length_map, Array.length_toList]; exact hsz
    exact (perm_of_sub l ss0 nd sub hl0).symm
  refine wpAny_bind (wpAny_newList ?_ (by rw [hvl, sizeLine_eq]; omega))
  have hoL : (s1.heap.push (seqObj "list" vs.toArray 0)).get? s1.heap.objs.size = some (seqObj "list" vs.toArray 0) := Heap.get?_push_size _ rfl
  refine wpAny_bind (wpAny_holding (wpAny_call_entry slot_list_sort ⟨_, hoL, rfl⟩ entry_list_sort (list_sort_treeK strKind_oneLt hoL q3.keysOf (fun v₁ v₂ rest e => keyKind_strs (by rw [← e]; exact q3)) (by rw [hvl]; exact h64) fun st' hp hs => ⟨_, rfl, ?_⟩) (args_list_sort _)))
  obtain ⟨ss', a1, a2, a3⟩ := sorted_out_str q3 hp hs
  obtain ⟨c, hc⟩ := sortedHeap_at (vs := vs) (out := (arrOf st').map (·.2)) hoL
  refine wpAny_pure ⟨_, rfl, hQ _ s1.heap.objs.size _ c ss' (fun b u e => ?_) g1 o1 hz hc a1 ((a2.trans q4).trans nd0) a3⟩
  have q := k1 b u e; have hlt := Heap.lt_size q
  show (sortedHeap (s1.heap.push (seqObj "list" vs.toArray 0)) s1.heap.objs.size vs _).get? b = some u
  rw [sortedHeap_old (Nat.ne_of_lt hlt) (by rw [size_push']; exact Nat.lt_succ_of_lt hlt)]; exact Heap.get?_push_of_some _ q
end
/-- an object of the store: a set of texts -/
def TxO (P : Program) (w : World) (a : Addr) (l : List Str) : HO := .ext fun h => TxS P w h a l
theorem txo_new {P : Program} {w : World} {H : Hp} {h : Heap} {a : Addr} {l : List Str} (T : TxS P w h a l) : ObjOk P w H h a (TxO P w a l) := by
  obtain ⟨D, e, q⟩ := T.at_
  exact ⟨T, ⟨_, e⟩, fun h1 h2 p k => TxS.at p k⟩
section
variable {X : Cx}
def rSetT (K : PySem.W.Frag) (P : Program) (w : World) : List V → Hp → VK → Prop := fun vs H Q => ∃ (b : Addr) (xs : List Str), vs = [V.ref b] ∧ SqL K H b (xs.map V.str) ∧ xs.length < 64 ∧
  ∀ a l, H a = none → (∀ x, x ∈ l ↔ x ∈ xs) → l.Nodup → l.length ≤ xs.length → Q (.ref a) (upd H a (TxO P w a l))
theorem cr_setT (hc : X.calm = true) : CallR X (.type "set") (rSetT X.K X.prog X.w) := by
  intro pins s σ H vs us Q I r h
  obtain ⟨b, xs, rfl, hs, h64, q⟩ := h
  obtain ⟨its, rv, hl, _⟩ := I.list hs
  rw [Vals.ref1 r]
  refine call_set_txts (xs := xs) (I.ok.hd hc) hl.isList (by simpa using rv.strs) (by omega) fun h' tk l T z1 z2 z3 => ?_
  exact ⟨.ref s.heap.objs.size, upd H s.heap.objs.size (TxO X.prog X.w s.heap.objs.size l), I.laid (t' := tk) z3 (Nat.le_refl _) (txo_new T), rfl, q _ l (I.hok.fresh (Nat.le_refl _)) z1 T.nd z2⟩
def rSortT (P : Program) (w : World) : List V → Hp → VK → Prop := fun vs H Q => ∃ (a : Addr) (l : List Str), vs = [V.ref a] ∧ H a = some (TxO P w a l) ∧ l.length < 64 ∧
  ∀ (ys : List Str) (p : Addr), ys.Perm l → PyProof.Rows.sortedS ys = true → H p = none → Q (.ref p) (upd H p (.lst (ys.map V.str)))
theorem cr_sortT' (hc : X.calm = true) : CallR X (.builtin "sorted") (rSortT X.prog X.w) := by
  intro pins s σ H vs us Q I r h
  obtain ⟨a, l, rfl, ha, h64, q⟩ := h
  have T : TxS X.prog X.w s.heap a l := (I.hok a _ ha).1
  rw [Vals.ref1 r]
  refine call_sorted_txts T (I.ok.hd hc) h64 fun s' p out c ss k g o hp hg h1 h2 h3 => ?_
  have hlen : (ss.map V.str).length ≤ sizeLine := by rw [List.length_map, h2.length_eq]; exact small64 h64
  have hn : H p = none := I.hok.fresh hp
  have J : Inv X pins σ (upd H p (.lst (ss.map V.str))) { s with heap := s'.heap, gens := s'.gens, drawn := s'.drawn, toks := s'.toks } :=
    I.call (ch := []) (Un.laid k hp hn) (I.hok.laid k hp ⟨hlen, out.toList, c, vals_of_strs h1, hg⟩) (by rw [g]; exact I.bare) (fun _ z => nomatch z)
  have e : s' = { s with heap := s'.heap, gens := s'.gens, drawn := s'.drawn, toks := s'.toks } := by cases s'; cases s; cases o; rfl
  rw [e]; exact ⟨.ref p, _, J, rfl, q ss p h2 h3 hn⟩
end
end MPT

/-! MP4: expressions: from the parts' readings to the whole's. -/
namespace MP
open PySem L2

section
variable {X : Cx} {c : Cfg} {F : Fn} {a b e : Expr} {ea eb ee : E} {pos : Pos}
theorem SemE.bind {e : E} {es : E} {k : D → Store → Res D} {env : Env} {w : Wd} {S : Store} {H : Hp} {σ : St} {d : D} {S' : Store} {Q : VK} (R : Rel c w S H) (RE : RelEnv c w env σ) (h : (ev F e env S).bind k = .ok d S')
    (g : ∀ d1 S1 w1 H1 v1, Go w H w1 H1 → Rel c w1 S1 H1 → RelD c w1 d1 v1 → RelEnv c w1 env σ → k d1 S1 = .ok d S' → Q v1 H1) : SemE c F e σ H Q := by
  obtain ⟨d1, S1, e1, e2⟩ := Res.bind_eq h
  exact ⟨w, S, env, d1, S1, R, RE, e1, fun w1 H1 v1 le R1 r1 => g d1 S1 w1 H1 v1 le R1 r1 (RE.mono le.le) e2⟩
theorem SemA.bind {es : List E} {k : List D → Store → Res D} {env : Env} {w : Wd} {S : Store} {H : Hp} {σ : St} {d : D} {S' : Store} {Q : List V → Hp → Prop} (R : Rel c w S H) (RE : RelEnv c w env σ) (h : (evs F es env S).bind k = .ok d S')
    (g : ∀ d1 S1 w1 H1 v1, Go w H w1 H1 → Rel c w1 S1 H1 → RelDs c w1 d1 v1 → RelEnv c w1 env σ → k d1 S1 = .ok d S' → Q v1 H1) : SemA c F es σ H Q := by
  obtain ⟨d1, S1, e1, e2⟩ := Res.bind_eq h
  exact ⟨w, S, env, d1, S1, R, RE, e1, fun w1 H1 v1 le R1 r1 => g d1 S1 w1 H1 v1 le R1 r1 (RE.mono le.le) e2⟩
/-! names, constants -/
theorem sem_var {i : Nat} (h : PE X e (tVar i)) : PE X e (SemE c F (.var i)) := PE.imp h fun σ H Q ⟨w, S, env, d, S', R, RE, hv, k⟩ => by
  simp only [ev] at hv
  split at hv
  · rename_i d' he
    cases hv
    obtain ⟨v, h1, h2⟩ := RE.2 i _ he
    exact ⟨v, h1, k w H v Go.refl R h2⟩
  · cases hv
theorem sem_con {d : D} {v : V} (h : PE X e (tC v)) (r : ∀ w, RelD c w d v) : PE X e (SemE c F (.con d)) := PE.imp h fun σ H Q ⟨w, S, env, d', S', R, RE, hv, k⟩ => by
  simp only [ev] at hv
  cases hv
  exact k w H v Go.refl R (r w)
/-! argument lists -/
theorem sem_nil : PA X [] (SemA c F []) := PA.imp pa_nil fun σ H Q ⟨w, S, env, d, S', R, RE, hv, k⟩ => by
  simp only [evs] at hv
  cases hv
  exact k w H [] Go.refl R .nil
theorem sem_cons {es : List Expr} {ees : List E} (ha : PE X e (SemE c F ee)) (hr : PA X es (SemA c F ees)) (hs : starEach (e :: es) X.env = (false, eval e X.env) :: starEach es X.env) : PA X (e :: es) (SemA c F (ee :: ees)) :=
  PA.imp (pa_cons ha hr hs) fun σ H Q ⟨w, S, env, d, S', R, RE, hv, k⟩ => by
    simp only [evs] at hv
    obtain ⟨d1, S1, e1, e2⟩ := Res.bind_eq hv
    obtain ⟨d2, S2, e3, e4⟩ := Res.bind_eq e2
    cases e4
    exact ⟨w, S, env, d1, S1, R, RE, e1, fun w1 H1 v1 le1 R1 r1 => ⟨w1, S1, env, d2, S', R1, RE.mono le1.le, e3, fun w2 H2 vs le2 R2 rs => k w2 H2 _ (le1.trans le2) R2 (.cons (r1.mono le2.le) rs)⟩⟩
theorem sem_knil : PK X [] (SemA c F []) := PK.imp pk_nil fun σ H Q ⟨w, S, env, d, S', R, RE, hv, k⟩ => by
  simp only [evs] at hv
  cases hv
  exact k w H [] Go.refl R .nil
theorem sem_kcons {ks : List Keyword} {nm : Option Str} {kpos : Pos} {ees : List E} (ha : PE X e (SemE c F ee)) (hr : PK X ks (SemA c F ees)) : PK X (⟨nm, e, kpos⟩ :: ks) (SemA c F (ee :: ees)) :=
  PK.imp (pk_cons ha hr) fun σ H Q ⟨w, S, env, d, S', R, RE, hv, k⟩ => by
    simp only [evs] at hv
    obtain ⟨d1, S1, e1, e2⟩ := Res.bind_eq hv
    obtain ⟨d2, S2, e3, e4⟩ := Res.bind_eq e2
    cases e4
    exact ⟨w, S, env, d1, S1, R, RE, e1, fun w1 H1 v1 le1 R1 r1 => ⟨w1, S1, env, d2, S', R1, RE.mono le1.le, e3, fun w2 H2 vs le2 R2 rs => k w2 H2 _ (le1.trans le2) R2 (.cons (r1.mono le2.le) rs)⟩⟩
/-! displays -/
theorem sem_tup {es : List Expr} {ees : List E} {x1 : Nat} (h : PA X es (SemA c F ees)) : PE X (.Tuple es x1 pos) (SemE c F (.tup ees)) := PE.imp (pe_tup h) fun σ H Q ⟨w, S, env, d, S', R, RE, hv, k⟩ => by
  simp only [ev] at hv
  refine SemA.bind R RE hv fun ds S1 w1 H1 vs le1 R1 rs _ hk => ?_
  split at hk
  · rename_i hz
    cases hk
    refine ⟨by rw [← rs.length]; exact lim_le hz, fun p hp => ?_⟩
    obtain ⟨z1, z2, z3⟩ := R1.newTup rs hp
    exact k _ _ _ (le1.trans z1) z2 z3
  · cases hk
theorem sem_lst {es : List Expr} {ees : List E} (h : PA X es (SemA c F ees)) : PE X (.List es pos) (SemE c F (.lst ees)) := PE.imp (pe_lst h) fun σ H Q ⟨w, S, env, d, S', R, RE, hv, k⟩ => by
  simp only [ev] at hv
  refine SemA.bind R RE hv fun ds S1 w1 H1 vs le1 R1 rs _ hk => ?_
  split at hk
  · rename_i hz
    cases hk
    refine ⟨by rw [← rs.length]; exact lim_le hz, fun p hp => ?_⟩
    obtain ⟨z1, z2, z3⟩ := R1.newLst rs hp
    exact k _ _ _ (le1.trans z1) z2 z3
  · cases hk
/-- a new object of the store -/
theorem Rel.newO {w : Wd} {S : Store} {H : Hp} (R : Rel c w S H) {xs : List D} {ys : List V} {p : Addr} (rs : RelDs c w xs ys) (hp : H p = none) :
    Go w H (w.more p) (upd H p (.lst ys)) ∧ Rel c (w.more p) (S ++ [.lst xs]) (upd H p (.lst ys)) ∧ RelD c (w.more p) (.ref S.length) (.ref p) := by
  refine ⟨Go.more hp, R.more hp ⟨ys, rfl, rs.mono Wd.le_more⟩, ?_⟩
  simp only [RelD]
  refine ⟨p, ?_, rfl⟩
  show (w.ρ ++ [p])[S.length]? = some p
  rw [← R.len, List.getElem?_append_right (Nat.le_refl _)]
  simp
theorem sem_nlst {es : List Expr} {ees : List E} (h : PA X es (SemA c F ees)) : PE X (.List es pos) (SemE c F (.nlst ees)) := PE.imp (pe_lst h) fun σ H Q ⟨w, S, env, d, S', R, RE, hv, k⟩ => by
  simp only [ev] at hv
  refine SemA.bind R RE hv fun ds S1 w1 H1 vs le1 R1 rs _ hk => ?_
  split at hk
  · rename_i hz
    cases hk
    refine ⟨by rw [← rs.length]; exact lim_le hz, fun p hp => ?_⟩
    obtain ⟨z1, z2, z3⟩ := R1.newO rs hp
    exact k _ _ _ (le1.trans z1) z2 z3
  · cases hk
theorem evs_len {env : Env} : ∀ {es : List E} {S : Store} {ds : List D} {S' : Store}, evs F es env S = .ok ds S' → ds.length = es.length
  | [], S, ds, S', h => by simp only [evs] at h; cases h; rfl
  | e :: es, S, ds, S', h => by
    simp only [evs] at h
    obtain ⟨d1, S1, e1, e2⟩ := Res.bind_eq h
    obtain ⟨d2, S2, e3, e4⟩ := Res.bind_eq e2
    cases e4
    simp only [List.length_cons, evs_len e3]
/-! a sum of lists that is changed later -/
def Sem2S (c : Cfg) (f : D → D → Store → Res D) : R2 := fun x y H Q => ∃ w S d1 d2 d S', Rel c w S H ∧ RelD c w d1 x ∧ RelD c w d2 y ∧ f d1 d2 S = .ok d S' ∧ ∀ w' H' v, Go w H w' H' → Rel c w' S' H' → RelD c w' d v → Q v H'
theorem op_nadd : OpR X (binaryOp .Add) (Sem2S c naddD) :=
  OpR.imp op_cat fun x y H Q ⟨w, S, d1, d2, d, S', R, r1, r2, e, k⟩ => by
    have v1 := R.view r1
    have v2 := R.view r2
    unfold naddD at e
    split at e
    · rename_i xs ys e1 e2
      rw [e1] at v1
      rw [e2] at v2
      split at e
      · rename_i hz
        cases e
        obtain ⟨a, zs, rfl, h1, q1⟩ := v1
        obtain ⟨b, us, rfl, h2, q2⟩ := v2
        refine ⟨a, b, zs, us, rfl, rfl, h1, h2, by rw [← q1.length, ← q2.length]; exact lim_le hz, fun p hp => ?_⟩
        obtain ⟨z1, z2, z3⟩ := R.newO (q1.append q2) hp
        exact k _ _ _ z1 z2 z3
      · cases e
    · cases e
theorem sem_nadd {b : Expr} (ha : PE X a (SemE c F ea)) (hb : PE X b (SemE c F eb)) : PE X (.BinOp a .Add b pos) (SemE c F (.nadd ea eb)) := PE.imp (pe_op op_nadd ha hb) fun σ H Q ⟨w, S, env, d, S', R, RE, hv, k⟩ => by
  simp only [ev] at hv
  refine SemE.bind (es := ea) R RE hv fun d1 S1 w1 H1 v1 le1 R1 r1 RE1 h1 => ?_
  refine SemE.bind (es := ea) R1 RE1 h1 fun d2 S2 w2 H2 v2 le2 R2 r2 RE2 h2 => ?_
  exact ⟨w2, S2, d1, d2, d, S', R2, r1.mono le2.le, r2, h2, fun w3 H3 v3 le3 R3 r3 => k w3 H3 v3 ((le1.trans le2).trans le3) R3 r3⟩
/-! a dict display -/
theorem Go.under {w w' : Wd} {H H' : Hp} {p : Addr} {o : HO} (h : H p = none) (g : Go w (upd H p o) w' H') : Go w H w' H' := by
  refine ⟨g.le, fun a u e n => g.fr a u (by rw [upd_ne (ne_of_none e h)]; exact e) n, fun l a e => ?_, fun a u e => ?_⟩
  · rcases g.nw l a e with q | q
    · exact .inl q
    · by_cases ha : a = p
      · rw [ha]; exact .inr h
      · rw [upd_ne ha] at q; exact .inr q
  · rcases g.nb a u e with q | ⟨q, n⟩
    · exact .inl q
    · by_cases ha : a = p
      · rw [ha, upd_same] at q; cases q
      · rw [upd_ne ha] at q; exact .inr ⟨q, n⟩
def trsOf (c : Cfg) (F : Fn) : List E → List (TE × TE)
  | k :: v :: r => (SemE c F k, SemE c F v) :: trsOf c F r
  | _ => []
theorem pairs_imp {σ : St} {env : Env} : ∀ (es : List E) {w : Wd} {S : Store} {H : Hp} {ds : List D} {S' : Store} {kvs : List (Key × D)} {Q : List (V × V) → Hp → Prop}, Rel c w S H → RelEnv c w env σ → evs F es env S = .ok ds S' → pairsD ds = some kvs →
    (∀ w' H' (ys : List (Key × V)), Go w H w' H' → Rel c w' S' H' → Paired (fun (p : Key × D) (q : Key × V) => p.1 = q.1 ∧ RelD c w' p.2 q.2) kvs ys → Q (ys.map fun kv => (kV kv.1, kv.2)) H') → tPairs (trsOf c F es) σ H Q
  | [], w, S, H, ds, S', kvs, Q, R, RE, h, hp, k => by
    simp only [evs] at h
    cases h
    simp only [pairsD] at hp
    cases hp
    exact k w H [] Go.refl R .nil
  | [_], w, S, H, ds, S', kvs, Q, R, RE, h, hp, k => by
    have hl := evs_len h
    match ds, hl with
    | [d], _ => simp only [pairsD] at hp; cases hp
  | ek :: ev :: r, w, S, H, ds, S', kvs, Q, R, RE, h, hp, k => by
    simp only [evs] at h
    obtain ⟨d1, S1, h1, hx⟩ := Res.bind_eq h
    obtain ⟨d2', S2', hy, hz⟩ := Res.bind_eq hx
    cases hz
    obtain ⟨d2, S2, h2, h3'⟩ := Res.bind_eq hy
    obtain ⟨dr, S3, h3, h4⟩ := Res.bind_eq h3'
    cases h4
    simp only [pairsD] at hp
    rw [Option.bind_eq_some_iff] at hp
    obtain ⟨q, hq, hp⟩ := hp
    rw [Option.map_eq_some_iff] at hp
    obtain ⟨l, hl, rfl⟩ := hp
    show SemE c F ek σ H fun x H1 => SemE c F ev σ H1 fun y H2 => tPairs (trsOf c F r) σ H2 fun ps H3 => Q ((x, y) :: ps) H3
    refine ⟨w, S, env, d1, S1, R, RE, h1, fun w1 H1 v1 g1 R1 r1 => ⟨w1, S1, env, d2, S2, R1, RE.mono g1.le, h2, fun w2 H2 v2 g2 R2 r2 => ?_⟩⟩
    refine pairs_imp r R2 (RE.mono (g1.trans g2).le) h3 hl fun w3 H3 ys g3 R3 rp => ?_
    have e1 : v1 = kV q := by
      cases d1 <;> simp only [keyD] at hq <;> cases hq <;> (simp only [RelD] at r1; exact r1)
    rw [e1]
    exact k w3 H3 ((q, v2) :: ys) ((g1.trans g2).trans g3) R3 (.cons ⟨rfl, r2.mono g3.le⟩ rp)
theorem sem_fdict {keys : List (Option Expr)} {values : List Expr} {ees : List E} (h : PPs X pos keys values (trsOf c F ees)) (hall : keys.all (·.isSome) = true) (hl : keys.length = values.length) (h0 : keys ≠ [])
    (h15 : keys.length ≤ 15) : PE X (.Dict keys values pos) (SemE c F (.fdict ees)) := PE.imp (pe_disp h hall hl h0 h15) fun σ H Q ⟨w, S, env, d, S', R, RE, hv, k⟩ => by
  intro p hp
  simp only [ev] at hv
  obtain ⟨ds, S1, h1, hv1⟩ := Res.bind_eq hv
  obtain ⟨kvs, S2, h2', hv2⟩ := Res.bind_eq hv1
  clear hv hv1
  obtain ⟨h2, rfl⟩ := opt_eq h2'
  clear h2'
  split at hv2
  · rename_i hz
    cases hv2
    refine pairs_imp ees (R.other (R.freeB hp) (R.notR hp)) RE h1 h2 fun w' H' ys g' R' rp => ?_
    have hp' : H' p = some (.dK []) := g'.fr p _ upd_same (R.notR hp)
    have nR : ∀ l : Nat, w'.ρ[l]? ≠ some p := fun l q => by
      rcases g'.nw l p q with ⟨j, hj⟩ | q
      · exact R.notR hp j hj
      · rw [upd_same] at q; cases q
    have nB : w'.B p = none := by
      cases q : w'.B p with
      | none => rfl
      | some o =>
        rcases g'.nb p o q with q | ⟨q, _⟩
        · rw [R.freeB hp] at q; cases q
        · rw [upd_same] at q; cases q
    have g := g'.under hp
    have pm := paired_dk (paired_merge rp .nil)
    refine ⟨hp', ys, rfl, by rw [← Paired.length rp]; exact hz, ?_⟩
    refine k (w'.add p _) _ (.ref p) ?_ ((R'.other nB nR).adopt upd_same nB nR) ?_
    · refine ⟨g.le.le_trans (Wd.le_add nB), fun a o e n => ?_, fun l a e => g.nw l a e, fun a o e => ?_⟩
      · rw [upd_ne (ne_of_none e hp)]; exact g.fr a o e n
      · by_cases ha : a = p
        · subst ha; exact .inr ⟨hp, R.notR hp⟩
        · rw [show (w'.add p _).B a = w'.B a from upd_ne ha] at e; exact g.nb a o e
    · simp only [RelD]
      exact ⟨p, _, rfl, (show upd w'.B p _ p = some _ from upd_same), pm.1, pm.2.mono (Wd.le_add nB)⟩
  · cases hv2
theorem sem_ndict {keys : List (Option Expr)} {values : List Expr} {ees : List E} (h : PPs X pos keys values (trsOf c F ees)) (hall : keys.all (·.isSome) = true) (hl : keys.length = values.length) (h0 : keys ≠ [])
    (h15 : keys.length ≤ 15) : PE X (.Dict keys values pos) (SemE c F (.ndict ees)) := PE.imp (pe_disp h hall hl h0 h15) fun σ H Q ⟨w, S, env, d, S', R, RE, hv, k⟩ => by
  intro p hp
  simp only [ev] at hv
  obtain ⟨ds, S1, h1, hv1⟩ := Res.bind_eq hv
  obtain ⟨kvs, S2, h2', hv2⟩ := Res.bind_eq hv1
  clear hv hv1
  obtain ⟨h2, rfl⟩ := opt_eq h2'
  clear h2'
  split at hv2
  · rename_i hz
    cases hv2
    refine pairs_imp ees (R.other (R.freeB hp) (R.notR hp)) RE h1 h2 fun w' H' ys g' R' rp => ?_
    have hp' : H' p = some (.dK []) := g'.fr p _ upd_same (R.notR hp)
    have nR : ∀ l : Nat, w'.ρ[l]? ≠ some p := fun l q => by
      rcases g'.nw l p q with ⟨j, hj⟩ | q
      · exact R.notR hp j hj
      · rw [upd_same] at q; cases q
    have nB : w'.B p = none := by
      cases q : w'.B p with
      | none => rfl
      | some o =>
        rcases g'.nb p o q with q | ⟨q, _⟩
        · rw [R.freeB hp] at q; cases q
        · rw [upd_same] at q; cases q
    have g := g'.under hp
    refine ⟨hp', ys, rfl, by rw [← Paired.length rp]; exact hz, ?_⟩
    refine k (w'.more p) _ (.ref p) ?_ ((R'.other nB nR).adoptO upd_same nB nR ⟨_, rfl, Paired.mapP (paired_merge rp .nil) fun a b z => ⟨z.1, RelD.mono Wd.le_more _ _ z.2⟩⟩) ?_
    · refine ⟨g.le.le_trans Wd.le_more, fun a o e n => ?_, fun l a e => ?_, g.nb⟩
      · rw [upd_ne (ne_of_none e hp)]; exact g.fr a o e n
      · by_cases hl : l < w'.ρ.length
        · rw [show (w'.more p).ρ = w'.ρ ++ [p] from rfl, List.getElem?_append_left hl] at e; exact g.nw l a e
        · rw [show (w'.more p).ρ = w'.ρ ++ [p] from rfl, List.getElem?_append_right (by omega)] at e
          have := List.mem_of_getElem? e
          simp at this
          rw [this]; exact .inr hp
    · simp only [RelD]
      refine ⟨p, ?_, rfl⟩
      show (w'.ρ ++ [p])[S2.length]? = some p
      rw [← R'.len, List.getElem?_append_right (Nat.le_refl _)]
      simp
  · cases hv2
/-! operators -/
theorem sem_2 {f : Store → D → D → Option D} {t : TE} {op : E} (hop : ∀ env S, ev F op env S = (ev F ea env S).bind fun x S1 => (ev F eb env S1).bind fun y S2 => opt (f S2 x y) S2)
    (h : PE X e (tOp (Sem2 c f) (SemE c F ea) (SemE c F eb))) : PE X e (SemE c F op) := PE.imp h fun σ H Q ⟨w, S, env, d, S', R, RE, hv, k⟩ => by
  rw [hop] at hv
  refine SemE.bind (es := op) R RE hv fun d1 S1 w1 H1 v1 le1 R1 r1 RE1 h1 => ?_
  refine SemE.bind (es := op) R1 RE1 h1 fun d2 S2 w2 H2 v2 le2 R2 r2 RE2 h2 => ?_
  obtain ⟨h2, rfl⟩ := opt_eq h2
  exact ⟨w2, S', d1, d2, d, R2, r1.mono le2.le, r2, h2, fun w3 H3 v3 le3 R3 r3 => k w3 H3 v3 ((le1.trans le2).trans le3) R3 r3⟩
theorem sem_bin {o : BOp} (hK : X.K = c.K) (ha : PE X a (SemE c F ea)) (hb : PE X b (SemE c F eb)) : PE X (.BinOp a (opOf o) b pos) (SemE c F (.bin o ea eb)) :=
  sem_2 (t := fun _ _ _ => True) (fun env S => by simp only [ev]; rfl) (pe_op (op_S hK o) ha hb)
theorem sem_cmp {o : COp} (hK : X.K = c.K) (hu : X.A.units + 65 < cLine) (ha : PE X a (SemE c F ea)) (hb : PE X b (SemE c F eb)) (hm : behindInMarks (copOf o) b = false) : PE X (.Compare a [copOf o] [b] pos) (SemE c F (.cmp o ea eb)) :=
  sem_2 (t := fun _ _ _ => True) (fun env S => by simp only [ev]; rfl) (pe_cmpR (cop_S hK hu o) ha hb hm)
theorem SemE.test {e : E} {σ : St} {H : Hp} {Q : Bool → Hp → Prop} (h : SemT c F e σ H Q) : SemE c F e σ H fun x H' => ∃ k, x = .bl k ∧ Q k H' := by
  obtain ⟨w, S, env, b, S', R, RE, hv, k⟩ := h
  refine ⟨w, S, env, .bl b, S', R, RE, hv, fun w' H' v le R' r => ?_⟩
  simp only [RelD] at r
  exact ⟨b, r, k w' H' le R'⟩
theorem tst_val (h : PE X e (SemE c F ee)) (he : ∀ whole, isTrue e X.env whole = (do let v ← whole; standAt e.pos; holding [v] (truthy v))) : PT X e (SemT c F ee) :=
  PT.imp (pt_val h he) fun σ H Q q => SemE.test q
theorem tst_cmp {o : COp} (hK : X.K = c.K) (hu : X.A.units + 65 < cLine) (ha : PE X a (SemE c F ea)) (hb : PE X b (SemE c F eb)) (hm : behindInMarks (copOf o) b = false) : PT X (.Compare a [copOf o] [b] pos) (SemT c F (.cmp o ea eb)) :=
  PT.imp (pt_cmpR (cop_S hK hu o) ha hb hm) fun σ H Q q => by
    obtain ⟨w, S, env, d, S', R, RE, hv, k⟩ := SemE.test q
    simp only [ev] at hv
    refine SemE.bind (es := ea) R RE hv fun d1 S1 w1 H1 v1 le1 R1 r1 RE1 h1 => ?_
    refine SemE.bind (es := ea) R1 RE1 h1 fun d2 S2 w2 H2 v2 le2 R2 r2 RE2 h2 => ?_
    obtain ⟨h2, rfl⟩ := opt_eq h2
    exact ⟨w2, S', d1, d2, d, R2, r1.mono le2.le, r2, h2, fun w3 H3 v3 le3 R3 r3 => k w3 H3 v3 ((le1.trans le2).trans le3) R3 r3⟩
theorem chain_imp {o o' : COp} {cc : Expr} {ec : E} {σ : St} {H : Hp} {Q : VK} (h : SemE c F (.chain o o' ea eb ec) σ H Q) :
    tChain (Sem2 c (fCmp o)) (Sem2 c (fCmp o')) (SemE c F ea) (SemE c F eb) (SemE c F ec) σ H Q := by
  obtain ⟨w, S, env, d, S', R, RE, hv, k⟩ := h
  simp only [ev] at hv
  refine SemE.bind (es := ea) R RE hv fun d1 S1 w1 H1 v1 le1 R1 r1 RE1 h1 => ?_
  refine SemE.bind (es := ea) R1 RE1 h1 fun d2 S2 w2 H2 v2 le2 R2 r2 RE2 h2 => ?_
  obtain ⟨kk, S3, h3, h4⟩ := Res.bind_eq h2
  obtain ⟨h3, rfl⟩ := opt_eq h3
  refine ⟨w2, S3, d1, d2, .bl kk, R2, r1.mono le2.le, r2, by unfold fCmp; rw [h3]; rfl, fun w3 H3 v3 le3 R3 r3 => ?_⟩
  simp only [RelD] at r3
  refine ⟨kk, r3, ?_⟩
  have le13 := (le1.trans le2).trans le3
  cases kk with
  | true =>
    rw [if_pos rfl]
    refine SemE.bind (es := ea) R3 (RE.mono le13.le) h4 fun d4 S4 w4 H4 v4 le4 R4 r4 RE4 h5 => ?_
    obtain ⟨h5, rfl⟩ := opt_eq h5
    exact ⟨w4, S', d2, d4, d, R4, r2.mono (le3.trans le4).le, r4, h5, fun w5 H5 v5 le5 R5 r5 => k w5 H5 v5 ((le13.trans le4).trans le5) R5 r5⟩
  | false =>
    rw [if_neg (by decide)]
    cases h4
    exact k w3 H3 _ le13 R3 (by simp only [RelD])
theorem sem_chain {o o' : COp} {cc : Expr} {ec : E} (hK : X.K = c.K) (hu : X.A.units + 65 < cLine) (ha : PE X a (SemE c F ea)) (hb : PE X b (SemE c F eb)) (hc : PE X cc (SemE c F ec)) (hm : lastMarks [copOf o, copOf o'] [b, cc] = false) :
    PE X (.Compare a [copOf o, copOf o'] [b, cc] pos) (SemE c F (.chain o o' ea eb ec)) :=
  PE.imp (pe_chain (cop_S hK hu o) (cop_S hK hu o') ha hb hc hm) fun σ H Q h => chain_imp (cc := cc) h
theorem tst_chain {o o' : COp} {cc : Expr} {ec : E} (hK : X.K = c.K) (hu : X.A.units + 65 < cLine) (ha : PE X a (SemE c F ea)) (hb : PE X b (SemE c F eb)) (hc : PE X cc (SemE c F ec)) (hm : lastMarks [copOf o, copOf o'] [b, cc] = false) :
    PT X (.Compare a [copOf o, copOf o'] [b, cc] pos) (SemT c F (.chain o o' ea eb ec)) :=
  PT.imp (pt_chain (cop_S hK hu o) (cop_S hK hu o') ha hb hc hm) fun σ H Q h => by
    have h2 := SemE.test h
    exact chain_imp (cc := cc) h2
theorem sem_neg (ha : PE X a (SemE c F ea)) : PE X (.UnaryOp .USub a pos) (SemE c F (.neg ea)) := PE.imp (pe_un un_neg ha) fun σ H Q ⟨w, S, env, d, S', R, RE, hv, k⟩ => by
  simp only [ev] at hv
  refine SemE.bind (es := ea) R RE hv fun d1 S1 w1 H1 v1 le1 R1 r1 RE1 h1 => ?_
  cases d1 <;> (try simp only at h1) <;> try (cases h1; done)
  cases h1
  simp only [RelD] at r1
  exact ⟨_, r1, k w1 H1 _ le1 R1 (by simp only [RelD])⟩
/-! and, or, not, conditional -/
theorem sem_and {rest : List Expr} (ha : PE X a (SemE c F ea)) (hb : PE X (.BoolOp .And (b :: rest) pos) (SemE c F eb)) : PE X (.BoolOp .And (a :: b :: rest) pos) (SemE c F (.and ea eb)) :=
  PE.imp (pe_and ha hb) fun σ H Q ⟨w, S, env, d, S', R, RE, hv, k⟩ => by
    simp only [ev] at hv
    refine SemE.bind (es := ea) R RE hv fun d1 S1 w1 H1 v1 le1 R1 r1 RE1 h1 => ?_
    cases d1 <;> (try simp only at h1) <;> try (cases h1; done)
    rename_i kk
    simp only [RelD] at r1
    refine ⟨kk, r1, ?_⟩
    cases kk with
    | true => rw [if_pos rfl]; exact ⟨w1, S1, env, d, S', R1, RE1, h1, fun w2 H2 v2 le2 R2 r2 => k w2 H2 v2 (le1.trans le2) R2 r2⟩
    | false => rw [if_neg (by decide)]; cases h1; exact k w1 H1 _ le1 R1 (by simp only [RelD])
theorem sem_or {rest : List Expr} (ha : PE X a (SemE c F ea)) (hb : PE X (.BoolOp .Or (b :: rest) pos) (SemE c F eb)) : PE X (.BoolOp .Or (a :: b :: rest) pos) (SemE c F (.or ea eb)) :=
  PE.imp (pe_or ha hb) fun σ H Q ⟨w, S, env, d, S', R, RE, hv, k⟩ => by
    simp only [ev] at hv
    refine SemE.bind (es := ea) R RE hv fun d1 S1 w1 H1 v1 le1 R1 r1 RE1 h1 => ?_
    cases d1 <;> (try simp only at h1) <;> try (cases h1; done)
    rename_i kk
    simp only [RelD] at r1
    refine ⟨kk, r1, ?_⟩
    cases kk with
    | true => rw [if_pos rfl]; cases h1; exact k w1 H1 _ le1 R1 (by simp only [RelD])
    | false => rw [if_neg (by decide)]; exact ⟨w1, S1, env, d, S', R1, RE1, h1, fun w2 H2 v2 le2 R2 r2 => k w2 H2 v2 (le1.trans le2) R2 r2⟩
theorem sem_not (ha : PE X a (SemE c F ea)) : PE X (.UnaryOp .Not a pos) (SemE c F (.not ea)) :=
  PE.imp (pe_not ha) fun σ H Q ⟨w, S, env, d, S', R, RE, hv, k⟩ => by
    simp only [ev] at hv
    refine SemE.bind (es := ea) R RE hv fun d1 S1 w1 H1 v1 le1 R1 r1 RE1 h1 => ?_
    cases d1 <;> (try simp only at h1) <;> try (cases h1; done)
    cases h1
    simp only [RelD] at r1
    exact ⟨_, r1, k w1 H1 _ le1 R1 (by simp only [RelD])⟩
/-- a test's part, then the rest -/
theorem SemT.bind {e : E} {k : Bool → Store → Res D} {env : Env} {w : Wd} {S : Store} {H : Hp} {σ : St} {d : D} {S' : Store} {Q : Bool → Hp → Prop} (R : Rel c w S H) (RE : RelEnv c w env σ)
    (h : ((ev F e env S).bind fun x S1 => match x with | .bl true => k true S1 | .bl false => k false S1 | _ => .bad) = .ok d S')
    (g : ∀ b S1 w1 H1, Go w H w1 H1 → Rel c w1 S1 H1 → RelEnv c w1 env σ → k b S1 = .ok d S' → Q b H1) : SemT c F e σ H Q := by
  obtain ⟨d1, S1, e1, e2⟩ := Res.bind_eq h
  cases d1 <;> (try simp only at e2) <;> try (cases e2; done)
  rename_i b
  refine ⟨w, S, env, b, S1, R, RE, e1, fun w1 H1 le R1 => g b S1 w1 H1 le R1 (RE.mono le.le) ?_⟩
  cases b <;> exact e2
theorem tst_and {rest : List Expr} {tb : TT} (ha : PT X a (SemT c F ea)) (hb : PW X (.BoolOp .And (b :: rest) pos) (SemT c F eb)) : PW X (.BoolOp .And (a :: b :: rest) pos) (SemT c F (.and ea eb)) :=
  PW.imp (pw_and ha hb) fun σ H Q ⟨w, S, env, b, S', R, RE, hv, k⟩ => by
    simp only [ev] at hv
    refine SemT.bind (k := fun kk S1 => match kk with | true => ev F eb env S1 | false => .ok (.bl false) S1) R RE hv fun kk S1 w1 H1 le1 R1 RE1 h1 => ?_
    cases kk with
    | true => rw [if_pos rfl]; exact ⟨w1, S1, env, b, S', R1, RE1, h1, fun w2 H2 le2 R2 => k w2 H2 (le1.trans le2) R2⟩
    | false => rw [if_neg (by decide)]; cases h1; exact k w1 H1 le1 R1
theorem tst_or {rest : List Expr} (ha : PT X a (SemT c F ea)) (hb : PW X (.BoolOp .Or (b :: rest) pos) (SemT c F eb)) : PW X (.BoolOp .Or (a :: b :: rest) pos) (SemT c F (.or ea eb)) :=
  PW.imp (pw_or ha hb) fun σ H Q ⟨w, S, env, b, S', R, RE, hv, k⟩ => by
    simp only [ev] at hv
    have hv' : ((ev F ea env S).bind fun x S1 => match x with | .bl true => (fun kk S1 => match kk with | true => Res.ok (D.bl true) S1 | false => ev F eb env S1) true S1 | .bl false => (fun kk S1 => match kk with | true => Res.ok (D.bl true) S1 | false => ev F eb env S1) false S1 | _ => .bad) = .ok (.bl b) S' := by
      rw [← hv]
      congr 1
      funext x S1
      cases x <;> try rfl
      rename_i kk
      cases kk <;> rfl
    refine SemT.bind (k := fun kk S1 => match kk with | true => Res.ok (D.bl true) S1 | false => ev F eb env S1) R RE hv' fun kk S1 w1 H1 le1 R1 RE1 h1 => ?_
    cases kk with
    | true => rw [if_pos rfl]; cases h1; exact k w1 H1 le1 R1
    | false => rw [if_neg (by decide)]; exact ⟨w1, S1, env, b, S', R1, RE1, h1, fun w2 H2 le2 R2 => k w2 H2 (le1.trans le2) R2⟩
theorem tst_not (ha : PT X a (SemT c F ea)) : PT X (.UnaryOp .Not a pos) (SemT c F (.not ea)) :=
  PT.imp (pt_not ha) fun σ H Q ⟨w, S, env, b, S', R, RE, hv, k⟩ => by
    simp only [ev] at hv
    have hv' : ((ev F ea env S).bind fun x S1 => match x with | .bl true => (fun kk S1 => Res.ok (D.bl (!kk)) S1) true S1 | .bl false => (fun kk S1 => Res.ok (D.bl (!kk)) S1) false S1 | _ => .bad) = .ok (.bl b) S' := by
      rw [← hv]
      congr 1
      funext x S1
      cases x <;> try rfl
      rename_i kk
      cases kk <;> rfl
    refine SemT.bind (k := fun kk S1 => Res.ok (D.bl (!kk)) S1) R RE hv' fun kk S1 w1 H1 le1 R1 RE1 h1 => ?_
    cases h1
    exact k w1 H1 le1 R1
theorem sem_ite {t : Expr} {et : E} (ht : PT X t (SemT c F et)) (ha : PE X a (SemE c F ea)) (hb : PE X b (SemE c F eb)) : PE X (.IfExp t a b pos) (SemE c F (.ite et ea eb)) :=
  PE.imp (pe_ifExp ht ha hb) fun σ H Q ⟨w, S, env, d, S', R, RE, hv, k⟩ => by
    simp only [ev] at hv
    refine SemT.bind (k := fun kk S1 => match kk with | true => ev F ea env S1 | false => ev F eb env S1) R RE hv fun kk S1 w1 H1 le1 R1 RE1 h1 => ?_
    cases kk with
    | true => rw [if_pos rfl]; exact ⟨w1, S1, env, d, S', R1, RE1, h1, fun w2 H2 v2 le2 R2 r2 => k w2 H2 v2 (le1.trans le2) R2 r2⟩
    | false => rw [if_neg (by decide)]; exact ⟨w1, S1, env, d, S', R1, RE1, h1, fun w2 H2 v2 le2 R2 r2 => k w2 H2 v2 (le1.trans le2) R2 r2⟩
/-! subscripts, slices -/
theorem sem_ix (hK : X.K = c.K) (hu : X.A.units + 65 < cLine) (ha : PE X a (SemE c F ea)) (hb : PE X b (SemE c F eb)) (hs : PlainIx b) : PE X (.Subscript a b pos) (SemE c F (.ix ea eb)) :=
  sem_2 (t := fun _ _ _ => True) (f := fIx) (fun env S => by simp only [ev]; rfl) (pe_ix (ix_S hK hu) ha hb hs)
def SemP (c : Cfg) (F : Fn) (es : List E) : TO := fun σ H Q => ∃ w S env ds o S', Rel c w S H ∧ RelEnv c w env σ ∧ evs F es env S = .ok ds S' ∧ partD ds = some o ∧ ∀ w' H', Go w H w' H' → Rel c w' S' H' → Q o H'
theorem PO.imp {e : Option Expr} {t t' : TO} (h : PO X e t) (i : ∀ σ H Q, t' σ H Q → t σ H Q) : PO X e t' := ⟨fun pins s σ H Q I q => h.run pins s σ H Q I (i σ H Q q)⟩
theorem part_none : PO X none (SemP c F []) := PO.imp po_none fun σ H Q ⟨w, S, env, ds, o, S', R, RE, hv, hp, k⟩ => by
  simp only [evs] at hv
  cases hv
  cases hp
  exact k w H Go.refl R
theorem part_some (h : PE X e (SemE c F ee)) : PO X (some e) (SemP c F [ee]) := PO.imp (po_some h) fun σ H Q ⟨w, S, env, ds, o, S', R, RE, hv, hp, k⟩ => by
  simp only [evs] at hv
  obtain ⟨d1, S1, e1, e2⟩ := Res.bind_eq hv
  cases e2
  refine ⟨w, S, env, d1, S', R, RE, e1, fun w1 H1 v1 le1 R1 r1 => ?_⟩
  cases d1 <;> simp only [partD] at hp <;> try (cases hp; done)
  cases hp
  simp only [RelD] at r1
  exact ⟨_, r1, k w1 H1 le1 R1⟩
theorem sem_sl {lo hi : Option Expr} {el eh : List E} {p2 : Pos} (hK : X.K = c.K) (ha : PE X a (SemE c F ea)) (hl : PO X lo (SemP c F el)) (hh : PO X hi (SemP c F eh)) : PE X (.Subscript a (.Slice lo hi none p2) pos) (SemE c F (.sl ea el eh)) :=
  PE.imp (pe_slice (sl_S hK) ha hl hh) fun σ H Q ⟨w, S, env, d, S', R, RE, hv, k⟩ => by
    simp only [ev] at hv
    refine SemE.bind (es := ea) R RE hv fun d1 S1 w1 H1 v1 le1 R1 r1 RE1 h1 => ?_
    obtain ⟨l, S2, e2, h2⟩ := Res.bind_eq h1
    obtain ⟨l', S2', e3, h3⟩ := Res.bind_eq h2
    obtain ⟨g3, rfl⟩ := opt_eq e3
    refine ⟨w1, S1, env, l, l', S2', R1, RE1, e2, g3, fun w2 H2 le2 R2 => ?_⟩
    obtain ⟨u, S3, e4, h4⟩ := Res.bind_eq h3
    obtain ⟨u', S3', e5, h5⟩ := Res.bind_eq h4
    obtain ⟨g5, rfl⟩ := opt_eq e5
    obtain ⟨g6, rfl⟩ := opt_eq h5
    refine ⟨w2, S2', env, u, u', S', R2, RE1.mono le2.le, e4, g5, fun w3 H3 le3 R3 => ?_⟩
    exact ⟨w3, S', d1, d, R3, r1.mono (le2.trans le3).le, g6, fun w4 H4 v4 le4 R4 r4 => k w4 H4 v4 (((le1.trans le2).trans le3).trans le4) R4 r4⟩
end
end MP

/-! MPG: defs that are run inside no repr (the guards are known to be none). -/
namespace MP
open PySem PySem.Spec PyProof.Rows L2

/-- what a def promises where no repr is under way; it lets no exception out -/
structure FnG (P : Program) (w : World) (K : PySem.W.Frag) (mg : Str → Option Value) (base : Heap)
    (k : Nat) (f : Addr) (fd : FuncData) (ps : List Str) (sp : Sp) : Prop where
  many : ∀ vs H Q E, sp vs H Q E → vs.length = ps.length
  go : ∀ (A : Around) (outer : List PySem.Env) (s : Shared) (H : Hp) (args : Args) (us : List Value) (vs : List V) (Q : VK) (E : XK),
    Room k A ∧ A.guards = some [] → Env0 P w K mg base A outer s H → BindsTo s fd args (ps.zip us) → Vals vs us → sp vs H Q E →
      codeAny (model P w) A (.call (.ref f) args) (CR CX0 outer P w H s Q E) s
/-- only a value ends such a call -/
theorem end_cases {outer : List PySem.Env} {P : Program} {w : World} {H : Hp} {s s' : Shared} {Q : VK} {E : XK} {r : Result}
    (h : CR CX0 outer P w H s Q E r s') : ∃ u, r = .ok (.ret u) ∧ CE outer P w H s Q u s' := by
  match r, h with
  | .ok (.ret u), h => exact ⟨u, rfl, h⟩
section
variable {X : Cx} {k n : Nat} {f : Addr} {fd : FuncData} {ps ks : List Str} {sp : Sp} {E : XK} {x : Str} {p pos : Pos} {e : Expr}
  {es : List Expr} {kws : List Keyword} {t tk : TA} {pins : List (Addr × Obj)} {σ : L2.St} {H : Hp} {s : Shared} {Q : VK}
theorem FnG.called {us ws : List Value} {vs : List V} {kw : List (Str × Value)} (F : FnG X.prog X.w X.K X.mg X.base k f fd ps sp)
    (hr : Room k X.A ∧ X.A.guards = some []) (I : Inv X pins σ H s) (hb : BindsTo s fd ⟨us, kw⟩ (ps.zip ws)) (rv : Vals vs ws)
    (hs : sp vs H Q E) : wpAny (model X.prog X.w) X.A (call (.ref f) us kw) (EP X pins σ Q) X.xe s := by
  have q := F.go X.A X.stack s H ⟨us, kw⟩ ws vs Q E hr I.env0 hb rv hs
  refine wpAny_call (codeAny_mono q fun r s' hq => ?_)
  obtain ⟨u, rfl, hu⟩ := end_cases hq
  exact I.after hu
/-- f(e, ..) -/
theorem pg_call (F : FnG X.prog X.w X.K X.mg X.base k f fd ps sp) (hr : Room k X.A ∧ X.A.guards = some []) (hg : Gl X x)
    (hm : X.mg x = some (.ref f)) (hk : PySem.W.keepIn X.K (.ref f) = true) (hb : Binds X.K fd ps []) (ha : PA X (e :: es) t)
    (hdb : (x == ("__debug__" : Str)) = false) (he : starEach (e :: es) X.env = (false, eval e X.env) :: starEach es X.env)
    (hpl : (backTo pos (starEach es X.env)).any (·.1) = false) : PE X (.Call (.Name x p) (e :: es) [] pos) (tCall sp [] E t) := by
  constructor
  intro pins s σ H Q I h
  apply wpAny_Call_Name_kw
  apply ld_glob I hg hm _ hdb
  apply PySem.W.callWith_K (h₀ := X.base) I.ok.mod.kin hk _ he hpl
  apply thn (ha.run pos pins s σ H _ I h)
  rintro us s1 ⟨vs, H1, I1, r, q⟩
  rw [List.append_nil] at q
  have hl : (us ++ []).length = ps.length := by rw [List.append_nil, ← r.length]; exact F.many _ _ _ _ q
  have b := hb s1 us I1.kIn hl
  rw [List.append_nil] at b
  exact ⟨I1.kIn, F.called hr I1 b r q⟩
theorem pg_call0 (F : FnG X.prog X.w X.K X.mg X.base k f fd ps sp) (hr : Room k X.A ∧ X.A.guards = some []) (hg : Gl X x)
    (hm : X.mg x = some (.ref f)) (hk : PySem.W.keepIn X.K (.ref f) = true) (hb : Binds X.K fd ps [])
    (hdb : (x == ("__debug__" : Str)) = false) : PE X (.Call (.Name x p) [] [] pos) (tCall sp [] E tNil) := by
  constructor
  intro pins s σ H Q I h
  apply wpAny_Call_Name_kw
  apply ld_glob I hg hm _ hdb
  have hl : ([] ++ [] : List Value).length = ps.length := by
    have h0 := F.many _ _ _ _ h
    simpa using h0
  exact PySem.W.callWith_K0 I.kIn hk (F.called (us := []) (ws := []) hr I (hb s [] I.kIn hl) .nil h)
/-- f(e, .., k = v, ..) -/
theorem pg_callN {g : List Value → List Value → List Value} {gV : List V → List V → List V} (F : FnG X.prog X.w X.K X.mg X.base k f fd ps sp)
    (hr : Room k X.A ∧ X.A.guards = some []) (hg : Gl X x) (hm : X.mg x = some (.ref f)) (hk : PySem.W.keepIn X.K (.ref f) = true)
    (hb : KBn X.K fd ps n ks g gV) (ha : PA X (e :: es) t) (hkw : PK X kws tk)
    (hall : (backToKw pos (keywordEach kws X.env)).all (·.1.isSome) = true) (hks : (backToKw pos (keywordEach kws X.env)).filterMap (·.1) = ks)
    (hdb : (x == ("__debug__" : Str)) = false) (he : starEach (e :: es) X.env = (false, eval e X.env) :: starEach es X.env)
    (hpl : ((backTo pos (starEach (e :: es) X.env)).any (·.1) || (backToKw pos (keywordEach kws X.env)).any (·.1.isNone)) = false) :
    PE X (.Call (.Name x p) (e :: es) kws pos) (tCallN n ks.length sp gV E t tk) := by
  constructor
  intro pins s σ H Q I h
  apply wpAny_Call_Name_kw
  apply ld_glob I hg hm _ hdb
  apply PySem.W.callWith_KW (h₀ := X.base) I.ok.mod.kin hk hall _ hpl he
  apply thn (ha.run pos pins s σ H _ I h)
  rintro us s1 ⟨vs, H1, I1, r, q⟩
  apply thn (hkw.run pos pins s1 σ H1 _ I1 q)
  rintro ws s2 ⟨zs, H2, I2, rz, l1, l2, q2⟩
  rw [hks]
  exact ⟨I2.kIn, F.called hr I2 (hb.to s2 us ws I2.kIn (r.length.symm.trans l1) (rz.length.symm.trans l2)) (hb.rel r rz) q2⟩
/-- f(e, ..), f a local name -/
theorem pg_callL {i : Nat} (F : FnG X.prog X.w X.K X.mg X.base k f fd ps sp) (hr : Room k X.A ∧ X.A.guards = some []) (hN : X.N[i]? = some x)
    (hv : Vis X.env.scope x) (hk : PySem.W.keepIn X.K (.ref f) = true) (hb : Binds X.K fd ps []) (ha : PA X (e :: es) t)
    (hdb : (x == ("__debug__" : Str)) = false) (hcd : (x == ("__classdict__" : Str)) = false)
    (he : starEach (e :: es) X.env = (false, eval e X.env) :: starEach es X.env) (hpl : (backTo pos (starEach es X.env)).any (·.1) = false) :
    PE X (.Call (.Name x p) (e :: es) [] pos) (tCallL i f sp [] E t) := by
  constructor
  rintro pins s σ H Q I ⟨hs, ht⟩
  apply wpAny_Call_Name_kw
  apply thn ((pe_var (pos := p) hN hv hdb hcd).run pins s σ H (fun v H1 => v = .ref f ∧ H1 = H) I ⟨.ref f, hs, rfl, rfl⟩)
  rintro u s1 ⟨v, H1, I1, r1, rfl, rfl⟩
  cases r1
  apply PySem.W.callWith_K (h₀ := X.base) I.ok.mod.kin hk _ he hpl
  apply thn (ha.run pos pins s1 σ _ _ I1 ht)
  rintro us s2 ⟨vs, H2, I2, r, q⟩
  rw [List.append_nil] at q
  have hl : (us ++ []).length = ps.length := by rw [List.append_nil, ← r.length]; exact F.many _ _ _ _ q
  have b := hb s2 us I2.kIn hl
  rw [List.append_nil] at b
  exact ⟨I2.kIn, F.called hr I2 b r q⟩
end
section
variable {P : Program} {w : World} {K : PySem.W.Frag} {mg : Str → Option Value} {base : Heap} {f : Addr} {fd : FuncData} {sp : Sp}
/-- a def of the text, by its body -/
theorem fnG_of {x qual : Str} {params : Arguments} {body : List Stmt} {scope : Scope} {dvs : List V} {kws : List (Str × V)} {N ps : List Str} {k : Nat}
    (D : FunD K x qual params body scope dvs kws f fd) (S : FnScope N ps scope) (many : ∀ vs H Q E, sp vs H Q E → vs.length = ps.length)
    (hbody : ∀ (cdv : Value) (A : Around) (outer : List PySem.Env) (s : Shared) (H : Hp) (vs : List V) (Q : VK) (E : XK),
      (Room k (A.deeper (envOfC qual scope s.heap.objs.size f cdv)) ∧ A.guards = some []) ∧ K.In base → sp vs H Q E →
      ∃ t, PSs (cxOf CX0 P w K mg base N qual scope f cdv A outer s H E) body t ∧ t { nx := fun _ H' => Q .non H', rt := Q } (start N vs) H) :
    FnG P w K mg base (k + 1) f fd ps sp := by
  obtain ⟨oc, od, dV, kV, doc, pm, an, cdv, ct, osl, rfl, lk, hcd, _, _⟩ := D.ex
  constructor
  · exact many
  rintro A outer s H args us vs Q E ⟨hr, hg⟩ e0 hb r hsp
  have old : ∀ b o, base.get? b = some o → s.heap.get? b = some o := fun b o e => (e0.bs b o e).1
  have KX : K.In s.heap := e0.mod.kin.keeps old
  have lim : s.heap.NoLimit := e0.mod.nolimit.keeps old
  apply codeAny_call_function hr.depth (KX _ _ lk) rfl S.co S.gen rfl (PySem.W.codeRec_of KX hcd)
  apply hb
  apply wpAny_newFunctionEnv_cells S.kind
  · rintro ⟨nm, v⟩ hy
    rcases S.par nm (List.of_mem_zip hy).1 with q | q
    · left; exact q
    · right; exact ⟨q, PySem.W.cellsFrom_some _ _ _ (.inl q)⟩
  rintro env rfl s1 x1
  refine ⟨lim.keeps x1.toInCall.keep, codeAny_func ?_⟩
  obtain ⟨t, ht, hq⟩ := hbody cdv A outer s H vs Q E ⟨⟨hr.deeper _, hg⟩, e0.mod.kin⟩ hsp
  have I : Inv (cxOf CX0 P w K mg base N qual scope f cdv A outer s H E) [] (start N vs) H s1 := inv_start S hr.hd e0 (many _ _ _ _ hsp) r x1
  have done : ∀ {σ' : L2.St} {H' : Hp} {s' : Shared} {v : V} {u : Value}, Inv (cxOf CX0 P w K mg base N qual scope f cdv A outer s H E) [] σ' H' s' →
      RelV v u → Q v H' → CE outer P w H s Q u s' := fun {σ' H' s' v u} J rv q => ⟨v, H', J.os, J.bare, J.base, J.hok, rv, q⟩
  apply wpAny_mono (ht.run [] s1 (start N vs) H _ I hq)
  · intro fl s' hs
    match fl, hs with
    | .ret u, ⟨v, σ', H', J, rv, q⟩ => exact done J rv q
    | .next, ⟨σ', H', J, q⟩ => exact done (v := V.non) (u := Value.none) J rfl q
    | .brk, ⟨_, _, _, q⟩ => exact q.elim
    | .cont, ⟨_, _, _, q⟩ => exact q.elim
  · exact fun _ _ hs => hs
/-- the law's call, behind the top -/
theorem law_callG {mb : Str → Option Value} {k : Nat} {fa a : Addr} {x : Str} {s₁ : Shared} {vs : List Value} {ns : List Int}
    (KX : K.In s₁.heap) (hns : s₁.heap.Ns mainGlobals mg) (hb : s₁.heap.Ns builtinsNs mb)
    (hbb : ∀ x : Str, x ≠ "__name__" → mb x = bootBuiltins x) (hlim : s₁.heap.NoLimit) (hg : s₁.gens = #[])
    (ha : s₁.heap.get? a = some { cls := .type "list", data := .seq vs.toArray }) (hi : IntsAre vs ns) (hl : ns.length ≤ sizeLine) (hr : Room k callerA)
    (F : ∀ bs : Heap, K.In bs → bs.Ns mainGlobals mg → FnG P w K mg bs k fa fd [x] sp)
    (hbind : ∀ (s : Shared) (u : Value), BindsTo s fd ⟨[u], []⟩ [(x, u)])
    (hsp : ∀ H : Hp, Only H → SqL K H a (ns.map V.int) → sp [.ref a] H (fun v _ => v = .bl true) fun _ _ _ => False) :
    codeAny (model P w) callerA (.call (.ref fa) ⟨[.ref a], []⟩)
      (fun r s' => r = .ok (.ret (.bool true)) ∧ OldK s₁.heap s'.heap ∧ s'.os = s₁.os ∧ AllBare s'.gens) s₁ := by
  have rv := vals_ints hi
  have run : ∀ H : Hp, Only H → SqL K H a (ns.map V.int) → HOk P w H s₁.heap → (∀ b, H b ≠ none → b = a ∧ K.lookup a = none) →
      codeAny (model P w) callerA (.call (.ref fa) ⟨[.ref a], []⟩)
        (fun r s' => r = .ok (.ret (.bool true)) ∧ OldK s₁.heap s'.heap ∧ s'.os = s₁.os ∧ AllBare s'.gens) s₁ := by
    intro H hO hS hok hA
    have free : ∀ {b : Addr} {o : Obj}, s₁.heap.get? b = some o → (b = a → K.lookup a = none → False) → H b = none := fun {b o} e h => by
      by_cases q : H b = none
      · exact q
      · obtain ⟨e1, e2⟩ := hA b q
        exact (h e1 e2).elim
    have nsK : ∀ {b : Addr} {m : Str → Option Value}, s₁.heap.Ns b m → (hidT s₁.heap H).Ns b m := by
      rintro b m ⟨o, es, ep, e, d, r⟩
      refine ⟨o, es, ep, hidT_get e (free e fun eb _ => ?_), d, r⟩
      subst eb
      rw [ha] at e
      cases e
      cases d
    have hKb : K.In (hidT s₁.heap H) := fun b o e => hidT_get (KX b o e) (free (KX b o e) fun eb e2 => by
      subst eb
      rw [e2] at e
      cases e)
    obtain ⟨mc, m1, m2⟩ := hlim
    have hM : Mod K mg (hidT s₁.heap H) := ⟨hKb, nsK hns, ⟨mb, nsK hb, hbb⟩, mc, nsK m1, m2⟩
    have e0 : Env0 P w K mg (hidT s₁.heap H) callerA [] s₁ H :=
      { frames := rfl, mod := hM, bs := fun b o e => of_hidT e, bsz := Nat.le_of_eq (hidT_size _ _), funs := trivial, frf := fun b z => (by cases z), hok := hok, bare := .of_eq hg }
    have q := (F _ hKb (nsK hns)).go callerA [] s₁ H ⟨[.ref a], []⟩ [.ref a] [.ref a] _ _ ⟨hr, rfl⟩ e0 (hbind s₁ (.ref a)) (.cons rfl .nil) (hsp H hO hS)
    refine codeAny_mono q fun r s' h => ?_
    obtain ⟨u, rfl, v, H', os, bare, un, hok', r', (q' : v = .bl true)⟩ := end_cases h
    subst q'
    obtain rfl : u = Value.bool true := r'
    refine ⟨rfl, OldK.of_keep fun b o e => ?_, os, bare⟩
    rcases hO b with z | ⟨ob, xs, z⟩
    · exact un.keep b o e z (fun y => by cases y) (by simp)
    · have e1 := (hok b _ z).1
      have e2 := (hok' b _ (un.frzs b ob _ z)).1
      rw [e] at e1
      cases e1
      exact e2
  by_cases hk : K.lookup a = none
  · let H0 : Hp := fun b => if b = a then some (.frz { cls := .type "list", data := .seq vs.toArray } (.lst (ns.map V.int))) else none
    have at_ : H0 a = some (.frz { cls := .type "list", data := .seq vs.toArray } (.lst (ns.map V.int))) := if_pos rfl
    have off : ∀ b, b ≠ a → H0 b = none := fun b h => if_neg h
    refine run H0 (fun b => ?_) (.inl (.inr ⟨_, at_⟩)) (fun b u z => ?_) fun b z => ⟨?_, hk⟩
    · rcases Decidable.em (b = a) with rfl | h
      · exact .inr ⟨_, _, at_⟩
      · exact .inl (off b h)
    · rcases Decidable.em (b = a) with rfl | h
      · rw [at_] at z
        cases z
        exact ⟨ha, by rw [List.length_map]; exact hl, vs, _, rv, ha⟩
      · rw [off b h] at z
        cases z
    · rcases Decidable.em (b = a) with h | h
      · exact h
      · exact (z (off b h)).elim
  · obtain ⟨o, ho⟩ := Option.ne_none_iff_exists'.mp hk
    have e := KX a o ho
    rw [ha] at e
    cases e
    refine run (fun _ => none) (fun _ => .inl rfl) (.inr ⟨_, vs.toArray, _, ho, rfl, rfl, rfl, ?_, by simpa using rv⟩) (fun b u z => by cases z) fun b z => (z rfl).elim
    rw [List.size_toArray, hi.length]
    exact hl
end
/-- a law: F gives the written part, the function object, the promise over every base -/
theorem walk_ofG {l : PySem.W.OpenLaw} {n k : Nat} {q : Program} {loose : List Str} {XP : (Str → Option Value) → Heap → Prop} {YP : World → Heap → Prop} {d : DefRec} {x : Str}
    (hn : l.most = some n) (hn2 : n ≤ sizeLine) (hdf : d.params.defaults = []) (hr : Room k callerA)
    (F : ∀ (w : World) (mg : Str → Option Value) (fa : Addr) (h : Heap), YP w h → h.Ns mainGlobals mg → mg d.name = some (.ref fa) →
      ∃ (K : PySem.W.Frag) (fd : FuncData) (sp : Sp), K.In h ∧ (∀ (s : Shared) (u : Value), BindsTo s fd ⟨[u], []⟩ [(x, u)]) ∧
        (∀ (H : Hp) (a : Addr) (ns : List Int), ns.length ≤ n → Only H → SqL K H a (ns.map V.int) → sp [.ref a] H (fun v _ => v = .bl true) fun _ _ _ => False) ∧
        ∀ bs : Heap, K.In bs → bs.Ns mainGlobals mg → FnG l.prog w K mg bs k fa fd [x] sp) :
    PySem.W.WalkO q loose XP YP l.row.toRowW d [] (fun f vs => PySem.call f vs) := by
  refine Att.attach_call hn hdf fun w s₀ s₁ mg mb fa o pm cd doc a vs ns G Y ho hd hcd hmg hobj hints hlen hg => ?_
  obtain ⟨K, fd, sp, KX, hb, hs, hF⟩ := F w mg fa _ Y G.T.g hmg
  apply law_callG KX G.T.g G.T.b G.T.builtins G.T.nolimit hg hobj hints (Nat.le_trans hlen hn2) hr hF hb
  exact fun H hO hS => hs H a ns hlen hO hS
end MP

/-! MP5: calls, built-ins, methods. -/
namespace MP
open PySem L2

/-- what a def of the plain machine promises -/
def spOf (c : Cfg) (fr : List D → Store → Res D) : Sp := fun vs H Q _ => ∃ w S ds d S', Rel c w S H ∧ RelDs c w ds vs ∧ fr ds S = .ok d S' ∧ ∀ w' H' v, Go w H w' H' → Rel c w' S' H' → RelD c w' d v → Q v H'
structure Callee (c : Cfg) (F : Fn) (X : Cx) (i : Nat) : Prop where
  kp : PySem.W.keepIn X.K (.ref (c.fad i)) = true
  ex : ∃ k fd ps, (Room k X.A ∧ X.A.guards = some []) ∧ FnG X.prog X.w X.K X.mg X.base k (c.fad i) fd ps (spOf c (F i)) ∧ Binds X.K fd ps []
/-- one with keyword-only parameters, n positional ones -/
structure CalleeK (c : Cfg) (F : Fn) (X : Cx) (i n : Nat) (ks : List Str) : Prop where
  kp : PySem.W.keepIn X.K (.ref (c.fad i)) = true
  ex : ∃ k fd ps, (Room k X.A ∧ X.A.guards = some []) ∧ FnG X.prog X.w X.K X.mg X.base k (c.fad i) fd ps (spOf c (F i)) ∧ KBn X.K fd ps n ks (fun us ws => us ++ ws) (fun us ws => us ++ ws)
theorem evs_length {F : Fn} {env : Env} : ∀ {es : List E} {S : Store} {ds : List D} {S' : Store}, evs F es env S = .ok ds S' → ds.length = es.length
  | [], S, ds, S', h => by simp only [evs] at h; cases h; rfl
  | e :: es, S, ds, S', h => by
    simp only [evs] at h
    obtain ⟨d1, S1, e1, e2⟩ := Res.bind_eq h
    obtain ⟨d2, S2, e3, e4⟩ := Res.bind_eq e2
    cases e4
    simp only [List.length_cons, evs_length e3]
section
variable {X : Cx} {c : Cfg} {F : Fn} {a e : Expr} {es : List Expr} {ea : E} {ees : List E} {pos p : Pos} {x : Str}
theorem sem_call {i : Nat} (C : Callee c F X i) (hg : Gl X x) (hm : X.mg x = some (.ref (c.fad i))) (ha : PA X (a :: es) (SemA c F ees)) (hdb : (x == ("__debug__" : Str)) = false)
    (he : starEach (a :: es) X.env = (false, eval a X.env) :: starEach es X.env) (hpl : (backTo pos (starEach es X.env)).any (·.1) = false) : PE X (.Call (.Name x p) (a :: es) [] pos) (SemE c F (.call i ees)) := by
  obtain ⟨k, fd, ps, hr, hF, hb⟩ := C.ex
  refine PE.imp (pg_call (E := fun _ _ _ => False) hF hr hg hm C.kp hb ha hdb he hpl) fun σ H Q ⟨w, S, env, d, S', R, RE, hv, k⟩ => ?_
  simp only [ev] at hv
  refine SemA.bind R RE hv fun ds S1 w1 H1 vs le1 R1 rs _ hk => ?_
  rw [List.append_nil]
  exact ⟨w1, S1, ds, d, S', R1, rs, hk, fun w2 H2 v2 le2 R2 r2 => k w2 H2 v2 (le1.trans le2) R2 r2⟩
theorem sem_call0 {i : Nat} (C : Callee c F X i) (hg : Gl X x) (hm : X.mg x = some (.ref (c.fad i))) (hdb : (x == ("__debug__" : Str)) = false) : PE X (.Call (.Name x p) [] [] pos) (SemE c F (.call i [])) := by
  obtain ⟨k, fd, ps, hr, hF, hb⟩ := C.ex
  refine PE.imp (pg_call0 (E := fun _ _ _ => False) hF hr hg hm C.kp hb hdb) fun σ H Q ⟨w, S, env, d, S', R, RE, hv, k⟩ => ?_
  simp only [ev, evs, Res.bind_ok] at hv
  exact ⟨w, S, [], d, S', R, .nil, hv, k⟩
theorem sem_callk {i n : Nat} {ks : List Str} {kws : List Keyword} {eks : List E} (C : CalleeK c F X i n ks) (hg : Gl X x) (hm : X.mg x = some (.ref (c.fad i))) (ha : PA X (a :: es) (SemA c F ees)) (hkw : PK X kws (SemA c F eks))
    (hn : ees.length = n) (hk2 : eks.length = ks.length)
    (hall : (backToKw pos (keywordEach kws X.env)).all (·.1.isSome) = true) (hks : (backToKw pos (keywordEach kws X.env)).filterMap (·.1) = ks)
    (hdb : (x == ("__debug__" : Str)) = false) (he : starEach (a :: es) X.env = (false, eval a X.env) :: starEach es X.env)
    (hpl : ((backTo pos (starEach (a :: es) X.env)).any (·.1) || (backToKw pos (keywordEach kws X.env)).any (·.1.isNone)) = false) :
    PE X (.Call (.Name x p) (a :: es) kws pos) (SemE c F (.callk i ees eks)) := by
  obtain ⟨k, fd, ps, hr, hF, hb⟩ := C.ex
  refine PE.imp (pg_callN (E := fun _ _ _ => False) hF hr hg hm C.kp hb ha hkw hall hks hdb he hpl) fun σ H Q ⟨w, S, env, d, S', R, RE, hv, k⟩ => ?_
  simp only [ev] at hv
  obtain ⟨ds, S1, e1, e2⟩ := Res.bind_eq hv
  obtain ⟨zs, S2, e3, e4⟩ := Res.bind_eq e2
  refine ⟨w, S, env, ds, S1, R, RE, e1, fun w1 H1 vs le1 R1 rs => ⟨w1, S1, env, zs, S2, R1, RE.mono le1.le, e3, fun w2 H2 us le2 R2 ru => ?_⟩⟩
  have rs2 := rs.mono le2.le
  refine ⟨by rw [← rs2.length, evs_length e1, hn], by rw [← ru.length, evs_length e3, hk2], ?_⟩
  exact ⟨w2, S2, ds ++ zs, d, S', R2, rs2.append ru, e4, fun w3 H3 v3 le3 R3 r3 => k w3 H3 v3 ((le1.trans le2).trans le3) R3 r3⟩
theorem sem_callv {i : Nat} {fs : List Nat} (A : ∀ f ∈ fs, Callee c F X f) (hN : X.N[i]? = some x) (hv : Vis X.env.scope x) (ha : PA X (a :: es) (SemA c F ees)) (hdb : (x == ("__debug__" : Str)) = false) (hcd : (x == ("__classdict__" : Str)) = false)
    (he : starEach (a :: es) X.env = (false, eval a X.env) :: starEach es X.env) (hpl : (backTo pos (starEach es X.env)).any (·.1) = false) : PE X (.Call (.Name x p) (a :: es) [] pos) (SemE c F (.callv i fs ees)) := by
  refine ⟨fun pins s σ H Q I ⟨w, S, env, d, S', R, RE, hev, k⟩ => ?_⟩
  simp only [ev] at hev
  split at hev
  · rename_i f hf
    split at hev
    · rename_i hm
      obtain ⟨k', fd, ps, hr, hF, hb⟩ := (A f hm).ex
      obtain ⟨v, hs, rv⟩ := RE.2 i _ hf
      simp only [RelD] at rv
      subst rv
      refine (pg_callL (E := fun _ _ _ => False) (i := i) (f := c.fad f) hF hr hN hv (A f hm).kp hb ha hdb hcd he hpl).run pins s σ H Q I ⟨hs, ?_⟩
      refine SemA.bind R RE hev fun ds S1 w1 H1 vs le1 R1 rs _ hk => ?_
      rw [List.append_nil]
      exact ⟨w1, S1, ds, d, S', R1, rs, hk, fun w2 H2 v2 le2 R2 r2 => k w2 H2 v2 (le1.trans le2) R2 r2⟩
    · cases hev
  · cases hev
theorem blt_imp {b : Blt} {σ : St} {H : Hp} {Q : VK} (h : SemE c F (.blt b ees) σ H Q) : tCB (SemC c (fBlt b)) (SemA c F ees) σ H Q := by
  obtain ⟨w, S, env, d, S', R, RE, hv, k⟩ := h
  simp only [ev] at hv
  refine SemA.bind R RE hv fun ds S1 w1 H1 vs le1 R1 rs _ hk => ?_
  obtain ⟨hk, rfl⟩ := opt_eq hk
  exact ⟨w1, S', ds, d, R1, rs, hk, fun w2 H2 v2 le2 R2 r2 => k w2 H2 v2 (le1.trans le2) R2 r2⟩
/-- the name of a built-in, whether it is a class -/
def bltName : Blt → String × Bool
  | .len => ("len", false) | .isinst => ("isinstance", false) | .all => ("all", false) | .any => ("any", false) | .tuple => ("tuple", true) | .list => ("list", true)
  | .abs => ("abs", false) | .min => ("min", false) | .max => ("max", false) | .sorted => ("sorted", false) | .str => ("str", true) | .int => ("int", true) | .repr => ("repr", false) | .sset => ("sorted", false)
/-- {} that nobody changes -/
theorem Rel.newEmp {c : Cfg} {w : Wd} {S : Store} {H : Hp} (R : Rel c w S H) {p : Addr} (hp : H p = none) :
    Go w H (w.add p (.dK [])) (upd H p (.dK [])) ∧ Rel c (w.add p (.dK [])) S (upd H p (.dK [])) ∧ RelD c (w.add p (.dK [])) .emp (.ref p) := by
  refine ⟨Go.add (R.freeB hp) hp (R.notR hp), R.add hp _, ?_⟩
  simp only [RelD]
  exact ⟨p, rfl, (show upd w.B p (.dK []) p = some (.dK []) from upd_same)⟩
theorem sem_edict : PE X (.Dict [] [] pos) (SemE c F .edict) := PE.imp pe_dnewK fun σ H Q ⟨w, S, env, d, S', R, RE, hv, k⟩ => by
  simp only [ev] at hv
  cases hv
  intro p hp
  obtain ⟨z1, z2, z3⟩ := R.newEmp hp
  exact k _ _ _ z1 z2 z3
def bltOk : Blt → Bool
  | .sset => false
  | _ => true
theorem sem_blt {b : Blt} (hK : X.K = c.K) (hc : X.calm = true) (hgd : X.A.guards = some []) (hu : X.A.units + 70 < cLine) (hsm : ∃ o, X.base.get? sysModules = some o) (ok : bltOk b = true) (hg : Gl X (bltName b).1) (hm : X.mg (bltName b).1 = none) (ha : PA X (a :: es) (SemA c F ees))
    (he : starEach (a :: es) X.env = (false, eval a X.env) :: starEach es X.env) (hpl : (backTo pos (starEach es X.env)).any (·.1) = false) : PE X (.Call (.Name (bltName b).1 p) (a :: es) [] pos) (SemE c F (.blt b ees)) := by
  cases b
  · exact PE.imp (pe_callB (blt_len hK) hg hm PySem.boot_len ha (by decide) (by decide) he hpl) fun σ H Q h => blt_imp h
  · exact PE.imp (pe_callB (blt_isinst hK) hg hm (by decide +kernel) ha (by decide) (by decide) he hpl) fun σ H Q h => blt_imp h
  · exact PE.imp (pe_callB (blt_all hc) hg hm (by decide +kernel) ha (by decide) (by decide) he hpl) fun σ H Q h => blt_imp h
  · exact PE.imp (pe_callB (blt_any hc) hg hm (by decide +kernel) ha (by decide) (by decide) he hpl) fun σ H Q h => blt_imp h
  · exact PE.imp (pe_callTy (blt_tuple hK) hg hm (by decide +kernel) ha (by decide) (by decide) he hpl) fun σ H Q h => blt_imp h
  · exact PE.imp (pe_callTy (blt_list hK) hg hm (by decide +kernel) ha (by decide) (by decide) he hpl) fun σ H Q h => blt_imp h
  · exact PE.imp (pe_callB blt_abs hg hm (by decide +kernel) ha (by decide) (by decide) he hpl) fun σ H Q h => blt_imp h
  · exact PE.imp (pe_callB (blt_min hc) hg hm (by decide +kernel) ha (by decide) (by decide) he hpl) fun σ H Q h => blt_imp h
  · exact PE.imp (pe_callB (blt_max hc) hg hm (by decide +kernel) ha (by decide) (by decide) he hpl) fun σ H Q h => blt_imp h
  · exact PE.imp (pe_callB (blt_sorted hK) hg hm (by decide +kernel) ha (by decide) (by decide) he hpl) fun σ H Q h => blt_imp h
  · exact PE.imp (pe_callTy (blt_str hK hgd hu hsm) hg hm (by decide +kernel) ha (by decide) (by decide) he hpl) fun σ H Q h => blt_imp h
  · exact PE.imp (pe_callTy blt_int hg hm (by decide +kernel) ha (by decide) (by decide) he hpl) fun σ H Q h => blt_imp h
  · exact PE.imp (pe_callB (blt_repr hK hgd hu hsm) hg hm (by decide +kernel) ha (by decide) (by decide) he hpl) fun σ H Q h => blt_imp h
  · cases ok
theorem uniqS_spec : ∀ xs : List Str, (∀ x, x ∈ uniqS xs ↔ x ∈ xs) ∧ (uniqS xs).Nodup
  | [] => ⟨fun _ => Iff.rfl, .nil⟩
  | y :: r => by
    obtain ⟨i1, i2⟩ := uniqS_spec r
    unfold uniqS
    split
    · rename_i h
      exact ⟨fun x => (i1 x).trans ⟨List.mem_cons_of_mem _, fun z => (List.mem_cons.mp z).elim (fun e => e ▸ h) id⟩, i2⟩
    · rename_i h
      exact ⟨fun x => by rw [List.mem_cons, List.mem_cons, i1 x], List.nodup_cons.mpr ⟨fun z => h ((i1 y).mp z), i2⟩⟩
theorem perm_uniq {l xs : List Str} (h : ∀ x, x ∈ l ↔ x ∈ xs) (nd : l.Nodup) : l.Perm (uniqS xs) := by
  obtain ⟨i1, i2⟩ := uniqS_spec xs
  exact (List.perm_ext_iff_of_nodup nd i2).mpr fun x => (h x).trans (i1 x).symm
/-- sorted(set(xs)) -/
theorem sem_sset {p2 q : Pos} (hK : X.K = c.K) (hc : X.calm = true) (hg : Gl X "sorted") (hm : X.mg "sorted" = none) (hg2 : Gl X "set") (hm2 : X.mg "set" = none) (ha : PA X [a] (SemA c F ees))
    (he : starEach [a] X.env = (false, eval a X.env) :: starEach [] X.env) : PE X (.Call (.Name "sorted" p) [.Call (.Name "set" p2) [a] [] q] [] pos) (SemE c F (.blt .sset ees)) := by
  refine PE.imp (pe_callB (MPT.cr_sortT' hc) hg hm (by decide +kernel) (pa_cons (pe_callTy (MPT.cr_setT hc) hg2 hm2 (by decide +kernel) ha (by decide) (by decide) he rfl) pa_nil rfl) (by decide) (by decide) rfl rfl) fun σ H Q ⟨w, S, env, d, S', R, RE, hv, k⟩ => ?_
  simp only [ev] at hv
  show SemA c F ees σ H fun vs H1 => MPT.rSetT X.K X.prog X.w vs H1 fun v H2 => MPT.rSortT X.prog X.w [v] H2 Q
  refine SemA.bind R RE hv fun ds S1 w1 H1 vs le1 R1 rs _ hk => ?_
  obtain ⟨hk, rfl⟩ := opt_eq hk
  have vw := R1.views rs
  generalize ds.map (deref S') = es at *
  match es, hk with
  | [.lst xs], e =>
    obtain ⟨v, rfl, h⟩ := vw.one
    obtain ⟨b, ys, rfl, h1, q⟩ := h
    simp only [bltD] at e
    rw [Option.bind_eq_some_iff] at e
    obtain ⟨zs, e2, e⟩ := e
    split at e
    · rename_i hz
      cases e
      refine ⟨b, zs, rfl, by rw [← mapM_str q e2]; exact SqL.of h1, hz, fun t l ht hl nd hlen => ?_⟩
      refine ⟨t, l, rfl, upd_same, by omega, fun us r hp hs hr => ?_⟩
      have g1 := Go.add (o := MPT.TxO X.prog X.w t l) (R1.freeB ht) ht (R1.notR ht)
      have R2 := R1.add ht (MPT.TxO X.prog X.w t l)
      rw [sortS_unique (hp.trans (perm_uniq hl nd)) hs]
      obtain ⟨z1, z2, z3⟩ := R2.newLst (RelDs.strs (c := c) (w := w1.add t (MPT.TxO X.prog X.w t l)) (sortS (uniqS zs))) hr
      exact k _ _ _ ((le1.trans g1).trans z1) z2 z3
    · cases e
/-! methods -/
def mthTy : Mth → String
  | .join => "str" | .upper => "str" | .update => "dict" | _ => "list"
theorem mty_ty (hK : X.K = c.K) {m : Mth} {d : D} {w : Wd} {S : Store} {H : Hp} {v : V} (h : mty m (deref S d) = true) (R : Rel c w S H) (r : RelD c w d v) : tyV X.K (mthTy m) v H := by
  have vw := R.view r
  generalize deref S d = e at *
  cases m <;> cases e <;> simp only [mty] at h <;> first | (cases h; done) | skip
  all_goals first
    | (simp only [Vw, RelD] at vw; subst vw; exact rfl)
    | (obtain ⟨a, ys, rfl, h1, q⟩ := vw; exact .inl ⟨rfl, _, SqL.of h1⟩)
    | (obtain ⟨a, ys, rfl, h1, q⟩ := vw; exact .inr (.inr (.inl ⟨rfl, .inl ⟨ys, h1⟩⟩)))
theorem mth_imp {m : Mth} {T : String} {σ : St} {H : Hp} {Q : VK} (hT : ∀ d w S H v, mty m (deref S d) = true → Rel c w S H → RelD c w d v → tyV X.K T v H) (h : SemE c F (.mth m ea ees) σ H Q) : tBM X.K T (SemM c (fMth m)) (SemE c F ea) (SemA c F ees) σ H Q := by
  obtain ⟨w, S, env, d, S', R, RE, hv, k⟩ := h
  simp only [ev] at hv
  refine SemE.bind (es := ea) R RE hv fun d1 S1 w1 H1 v1 le1 R1 r1 RE1 h1 => ?_
  split at h1
  · rename_i ht
    refine ⟨hT _ _ _ _ _ ht R1 r1, ?_⟩
    refine SemA.bind R1 RE1 h1 fun ds S2 w2 H2 vs le2 R2 rs _ hk => ?_
    exact ⟨w2, S2, d1, ds, d, S', R2, r1.mono le2.le, rs, hk, fun w3 H3 v3 le3 R3 r3 => k w3 H3 v3 ((le1.trans le2).trans le3) R3 r3⟩
  · cases h1
theorem mth_imp0 {m : Mth} {T : String} {σ : St} {H : Hp} {Q : VK} (hT : ∀ d w S H v, mty m (deref S d) = true → Rel c w S H → RelD c w d v → tyV X.K T v H) (h : SemE c F (.mth m ea []) σ H Q) : tBM0 X.K T (SemM c (fMth m)) (SemE c F ea) σ H Q := by
  obtain ⟨w, S, env, d, S', R, RE, hv, k⟩ := h
  simp only [ev] at hv
  refine SemE.bind (es := ea) R RE hv fun d1 S1 w1 H1 v1 le1 R1 r1 RE1 h1 => ?_
  split at h1
  · rename_i ht
    refine ⟨hT _ _ _ _ _ ht R1 r1, ?_⟩
    simp only [evs, Res.bind_ok] at h1
    exact ⟨w1, S1, d1, [], d, S', R1, r1, .nil, h1, fun w3 H3 v3 le3 R3 r3 => k w3 H3 v3 (le1.trans le3) R3 r3⟩
  · cases h1
/-- methods with arguments -/
def mthName : Mth → Option String
  | .update => some "update" | .append => some "append" | .pop1 => some "pop" | .extend => some "extend" | .index => some "index" | .join => some "join"
  | _ => none
variable {o : Expr} {name : Str} {apos cpos : Pos}
theorem sem_mth {m : Mth} {nm : String} (hK : X.K = c.K) (hnm : mthName m = some nm) (ho : PE X o (SemE c F ea)) (ha : PA X (a :: es) (SemA c F ees))
    (hbase : attributeBase o (nm : Str) X.env (eval o X.env) = eval o X.env)
    (hfew : ((backTo cpos (starEach (a :: es) X.env)).all (fun x => !x.1) && (backToKw cpos (keywordEach [] X.env)).all (fun x => x.1.isSome)
      && decide ((a :: es).length + ([] : List Keyword).length + (if ([] : List Keyword).isEmpty then 0 else 1) < 30)) = true)
    (hline : (apos.endLine == cpos.line) = true) (hs : starEach (a :: es) X.env = (false, eval a X.env) :: starEach es X.env) (hplain : (backTo cpos (starEach es X.env)).any (·.1) = false) :
    PE X (.Call (.Attribute o (nm : Str) apos) (a :: es) [] cpos) (SemE c F (.mth m ea ees)) := by
  cases m <;> simp only [mthName] at hnm <;> cases hnm
  · exact PE.imp (pe_bm PySem.F.plainAttrs_list PySem.F.slot_list_append PySem.F.type_list_append mth_append ho ha hbase hfew hline hs hplain) fun σ H Q h => mth_imp (fun d w S H v h1 R r => mty_ty hK h1 R r) h
  · exact PE.imp (pe_bm PySem.F.plainAttrs_list PySem.F.slot_list_pop PySem.F.type_list_pop mth_pop1 ho ha hbase hfew hline hs hplain) fun σ H Q h => mth_imp (fun d w S H v h1 R r => mty_ty hK h1 R r) h
  · exact PE.imp (pe_bm PySem.F.plainAttrs_list PySem.F.slot_list_extend PySem.F.type_list_extend mth_extend ho ha hbase hfew hline hs hplain) fun σ H Q h => mth_imp (fun d w S H v h1 R r => mty_ty hK h1 R r) h
  · exact PE.imp (pe_bm PySem.F.plainAttrs_list PySem.F.slot_list_index PySem.F.type_list_index (mth_index hK) ho ha hbase hfew hline hs hplain) fun σ H Q h => mth_imp (fun d w S H v h1 R r => mty_ty hK h1 R r) h
  · exact PE.imp (pe_bm PySem.F.plainAttrs_str PySem.F.slot_str_join PySem.F.type_str_join (mth_join hK) ho ha hbase hfew hline hs hplain) fun σ H Q h => mth_imp (fun d w S H v h1 R r => mty_ty hK h1 R r) h
  · exact PE.imp (pe_bm PySem.F.plainAttrs_dict PySem.F.slot_dict_update PySem.F.type_dict_update mth_update ho ha hbase hfew hline hs hplain) fun σ H Q h => mth_imp (fun d w S H v h1 R r => mty_ty hK h1 R r) h
def mthName0 : Mth → Option String
  | .pop0 => some "pop" | .upper => some "upper"
  | _ => none
theorem sem_mth0 {m : Mth} {nm : String} (hK : X.K = c.K) (hnm : mthName0 m = some nm) (ho : PE X o (SemE c F ea)) (hbase : attributeBase o (nm : Str) X.env (eval o X.env) = eval o X.env) (hline : (apos.endLine == cpos.line) = true) :
    PE X (.Call (.Attribute o (nm : Str) apos) [] [] cpos) (SemE c F (.mth m ea [])) := by
  cases m <;> simp only [mthName0] at hnm <;> cases hnm
  · exact PE.imp (pe_bm0 PySem.F.plainAttrs_list PySem.F.slot_list_pop PySem.F.type_list_pop mth_pop0 ho hbase hline) fun σ H Q h => mth_imp0 (fun d w S H v h1 R r => mty_ty hK h1 R r) h
  · exact PE.imp (pe_bm0 PySem.F.plainAttrs_str PySem.F.slot_str_upper PySem.F.type_str_upper mth_upper ho hbase hline) fun σ H Q h => mth_imp0 (fun d w S H v h1 R r => mty_ty hK h1 R r) h
/-! a written dict -/
structure KD (c : Cfg) (X : Cx) (a : Addr) (kvs : List (Str × D)) : Prop where
  dict : ∃ es n, KDict X.K X.w a es n
  get : ∀ z : Str, ∃ r, PySem.W.nsIn X.K a z = some r ∧ match lookS z kvs with
    | none => r = none
    | some d => ∃ u v, r = some u ∧ RelV v u ∧ ∀ w, RelD c w d v
theorem sem_cin {kvs : List (Str × D)} {ad : Addr} (D : KD c X ad kvs) (ha : PE X a (SemE c F ea)) (hd : PE X e (tC (.ref ad))) (hm : behindInMarks .In e = false) : PE X (.Compare a [.In] [e] pos) (SemE c F (.cin false kvs ea)) := by
  obtain ⟨es, n, KD⟩ := D.dict
  refine PE.imp (pe_cmpR (op_in_kd KD) ha hd hm) fun σ H Q ⟨w, S, env, d, S', R, RE, hv, k⟩ => ?_
  simp only [ev] at hv
  refine SemE.bind (es := ea) R RE hv fun d1 S1 w1 H1 v1 le1 R1 r1 RE1 h1 => ?_
  cases d1 <;> (try simp only at h1) <;> try (cases h1; done)
  rename_i z
  simp only [RelD] at r1
  obtain ⟨r, h2, h3⟩ := D.get z
  have k' := k w1 H1 (.bl r.isSome) le1
  cases q : lookS z kvs with
  | none =>
    rw [q] at h3 h1
    cases h1
    rw [show r = none from h3] at h2 k'
    exact ⟨z, none, r1, rfl, h2, k' R1 (by simp only [RelD]; rfl)⟩
  | some dd =>
    rw [q] at h3 h1
    obtain ⟨u, v, h3, _⟩ := h3
    cases h1
    rw [h3] at h2 k'
    exact ⟨z, some u, r1, rfl, h2, k' R1 (by simp only [RelD]; rfl)⟩
theorem sem_cnin {kvs : List (Str × D)} {ad : Addr} (D : KD c X ad kvs) (ha : PE X a (SemE c F ea)) (hd : PE X e (tC (.ref ad))) (hm : behindInMarks .NotIn e = false) : PE X (.Compare a [.NotIn] [e] pos) (SemE c F (.cin true kvs ea)) := by
  obtain ⟨es, n, KD⟩ := D.dict
  refine PE.imp (pe_cmpR (op_notIn_kd KD) ha hd hm) fun σ H Q ⟨w, S, env, d, S', R, RE, hv, k⟩ => ?_
  simp only [ev] at hv
  refine SemE.bind (es := ea) R RE hv fun d1 S1 w1 H1 v1 le1 R1 r1 RE1 h1 => ?_
  cases d1 <;> (try simp only at h1) <;> try (cases h1; done)
  rename_i z
  simp only [RelD] at r1
  obtain ⟨r, h2, h3⟩ := D.get z
  have k' := k w1 H1 (.bl (!r.isSome)) le1
  cases q : lookS z kvs with
  | none =>
    rw [q] at h3 h1
    cases h1
    rw [show r = none from h3] at h2 k'
    exact ⟨z, none, r1, rfl, h2, k' R1 (by simp only [RelD]; rfl)⟩
  | some dd =>
    rw [q] at h3 h1
    obtain ⟨u, v, h3, _⟩ := h3
    cases h1
    rw [h3] at h2 k'
    exact ⟨z, some u, r1, rfl, h2, k' R1 (by simp only [RelD]; rfl)⟩
theorem ix_kd {ad : Addr} {es : Array DictEntry} {n : Nat} (D : KDict X.K X.w ad es n) : IxR X (fun x y H Q => ∃ (z : Str) (u0 : Value) (v0 : V), x = .ref ad ∧ y = .str z ∧ PySem.W.nsIn X.K ad z = some (some u0) ∧ RelV v0 u0 ∧ Q v0 H) := by
  intro value slice pins s σ H x y v u Q I rx ry h hs
  obtain ⟨z, u0, v0, e1, e2, e3, e4, e5⟩ := h
  have hx : v = .ref ad := by rw [e1] at rx; exact rx
  have w := (op_item_kd D) pins s σ H x y v u Q I rx ry ⟨z, u0, v0, e1, e2, e3, e4, e5⟩
  subst hx
  exact PyProof.Rows.tail_any (ops := [.ref ad, u]) (kd_type D I) PySem.slot_dict_getitem.lookup w (by rw [hs])
theorem sem_cget {kvs : List (Str × D)} {ad : Addr} (D : KD c X ad kvs) (ha : PE X a (SemE c F ea)) (hd : PE X e (tC (.ref ad))) (hs : PlainIx a) : PE X (.Subscript e a pos) (SemE c F (.cget kvs ea)) := by
  obtain ⟨es, n, KD⟩ := D.dict
  refine PE.imp (pe_ix (ix_kd KD) hd ha hs) fun σ H Q ⟨w, S, env, d, S', R, RE, hv, k⟩ => ?_
  simp only [ev] at hv
  refine SemE.bind (es := ea) R RE hv fun d1 S1 w1 H1 v1 le1 R1 r1 RE1 h1 => ?_
  cases d1 <;> (try simp only at h1) <;> try (cases h1; done)
  rename_i z
  simp only [RelD] at r1
  obtain ⟨r, h2, h3⟩ := D.get z
  cases q : lookS z kvs with
  | none => rw [q] at h1; cases h1
  | some dd =>
    rw [q] at h3 h1
    obtain ⟨u, v, h3, h4, h5⟩ := h3
    cases h1
    rw [h3] at h2
    exact ⟨z, u, v, rfl, r1, h2, h4, k w1 H1 v le1 R1 (h5 w1)⟩
end
end MP

/-! MPE: enumerate of a tuple; a tuple turned about. -/
namespace MPE
open PySem PySem.Spec L2
open AutoSeq1 (wpAny_loadPart')
set_option maxHeartbeats 1000000 in
theorem meets_enumerate_newT (l : Addr) (items : Array Value) (n : Nat) (dct : Option Addr) (sl : Array (Option Value)) :
    Meets (Builtin.«enumerate.__new__» ⟨[.type "enumerate", .ref l], []⟩) (fun _ R s => s.heap.get? l = some { cls := .type "tuple", dict := dct, data := .seq items n, slots := sl } ∧
      R (.ok (.ret (.ref (s.heap.push { cls := .type "tuple_iterator", data := .fields #[.ref l, .int 0 0] }).objs.size)))
        { s with heap := (s.heap.push { cls := .type "tuple_iterator", data := .fields #[.ref l, .int 0 0] }).push { cls := .type "enumerate", data := .fields #[.none, .bool false, .ref s.heap.objs.size, rawInt 0, .none, .none] } }) :=
  .of_wp fun prog w A R s h => by
    obtain ⟨hp, g, d, tk, os⟩ := s; obtain ⟨hl, h⟩ := h
    have hsub := sub_enumerate
    have hL : Heap.IsTuple (Shared.heap ⟨hp, g, d, tk, os⟩) l items := ⟨_, hl, rfl, n, rfl⟩
    wp_walk using wpAny_loadPart' hl
    refine wpAny_stack_any fun st => wpAny_pure ?_
    split
    · rename_i c _ _ _ _ _
      cases (c == Value.type "enumerate")
      · wp_walk using wpAny_loadPart' hl, wpAny_pyIter_tuple hL
        exact ⟨_, rfl, h⟩
      · wp_walk using wpAny_loadPart' hl, wpAny_pyIter_tuple hL
        exact ⟨_, rfl, h⟩
    · wp_walk using wpAny_loadPart' hl, wpAny_pyIter_tuple hL
      exact ⟨_, rfl, h⟩
section
variable {prog : Program} {w : World} {A : Around} {E : Value → Shared → Prop} {s : Shared}
theorem call_enumerate_tuple {l : Addr} {items : Array Value} {Q : Value → Shared → Prop} (hL : s.heap.IsTuple l items)
    (h : ∀ h', IsEnum h' (s.heap.objs.size + 1) s.heap.objs.size 0 .none → h'.IsTupleIter s.heap.objs.size l 0 → h'.objs.size = s.heap.objs.size + 2 →
      (∀ b o, s.heap.get? b = some o → h'.get? b = some o) → Q (.ref (s.heap.objs.size + 1)) { s with heap := h' }) :
    wpAny (model prog w) A (call (.type "enumerate") [.ref l]) Q E s := by
  obtain ⟨⟨c, dct, dt, sl⟩, hl, hc, n, hd⟩ := hL
  replace hc : c = .type "tuple" := hc
  replace hd : dt = .seq items n := hd
  subst hc hd
  refine callType_new F.called_enumerate (by decide) (F.typeCall_enumerate_1 _) (F.newCall_enumerate_1 _) (fun obj => F.args_object_init_2 obj _) F.entry_enumerate_new
    (meets_enumerate_newT l items n dct sl) ⟨hl, ?_⟩
  have hz : (s.heap.push { cls := .type "tuple_iterator", data := .fields #[.ref l, .int 0 0] }).objs.size = s.heap.objs.size + 1 := Heap.size_push ..
  show _ ∧ _
  rw [hz]
  have he : IsEnum ((s.heap.push { cls := .type "tuple_iterator", data := .fields #[.ref l, .int 0 0] }).push
      { cls := .type "enumerate", data := .fields #[.none, .bool false, .ref s.heap.objs.size, rawInt 0, .none, .none] }) (s.heap.objs.size + 1) s.heap.objs.size 0 .none := by
    have := Heap.get?_push_size (s.heap.push { cls := .type "tuple_iterator", data := .fields #[.ref l, .int 0 0] })
      (o := { cls := .type "enumerate", data := .fields #[.none, .bool false, .ref s.heap.objs.size, rawInt 0, .none, .none] }) rfl
    rw [hz] at this; exact this
  refine ⟨⟨_, he, rfl⟩, h _ he ⟨_, Heap.get?_push_of_some _ (Heap.get?_push_size _ rfl), rfl, rfl⟩ (by rw [Heap.size_push, hz]) fun b o x => Heap.get?_push_of_some _ (Heap.get?_push_of_some _ x)⟩
end
/-- the tuple at a, each item in a new pair -/
def IteT (K : PySem.W.Frag) (a : Addr) : It :=
  ⟨fun i H => ∃ (xs : List V) (x : V), SqT K H a xs ∧ xs[i]? = some x, fun i H v H' => ∃ T x, v = .ref T ∧ H T = none ∧ H' = upd H T (.tup [.int (i : Nat), x]) ∧ ∀ xs, SqT K H a xs → xs[i]? = some x, fun i H => ∃ xs : List V, SqT K H a xs ∧ xs.length = i⟩
theorem turn_enumT {P : Program} {w : World} {K : PySem.W.Frag} {elts : List Expr} {kk : Nat} {tpos : Pos} (a e it : Addr) :
    Turn P w K (.Tuple elts kk tpos) (IteT K a) [e, it] e (fun i h => (∃ old, IsEnum h e it ((i : Nat) : Int) old) ∧ h.IsTupleIter it a i ∧ e ≠ it ∧ a ≠ it ∧ a ≠ e) where
  mem := by simp
  obj := fun i h st b hb => by
    obtain ⟨⟨old, he⟩, ⟨o, ho, hc, hd⟩, _⟩ := st
    have e' : b = e ∨ b = it := by simpa using hb
    rcases e' with z | z
    · rw [z]; exact ⟨_, he, fun v q => nomatch q⟩
    · rw [z]; exact ⟨o, ho, fun v q => by rw [hd] at q; cases q⟩
  keep := fun i h h' st k => let ⟨⟨old, he⟩, hi, hne⟩ := st; ⟨⟨old, k e (by simp) _ he⟩, hi.at fun o q => k it (by simp) o q, hne⟩
  item := by
    intro X hP hw hK hc i pins s σ H E I hf st hg
    subst hP hw hK
    obtain ⟨⟨old, he⟩, hit, hne, hai, hae⟩ := st
    obtain ⟨xs, x, hq, hx⟩ := hg
    obtain ⟨its, rv, p, hz⟩ := I.tuple hq
    obtain ⟨u, hu, ru⟩ := rv.get hx
    have hel : e < s.heap.objs.size := Heap.lt_size he
    have hil : it < s.heap.objs.size := by obtain ⟨_, q, _⟩ := hit; exact Heap.lt_size q
    have hlt : i < its.toArray.size := by
      have := (List.getElem?_eq_some_iff.mp hu).1
      simpa using this
    have hh : X.A.in1.handled = none := I.ok.hd hc
    have hat : a < s.heap.objs.size := p.lt
    have D := Draws.tuple (prog := X.prog) (w := X.w) (A := X.A.in1) hh it a hai its.toArray
    have haf : e ∉ [it, a] := by
      simp only [List.mem_cons, List.not_mem_nil, or_false, not_or]
      exact ⟨hne, Ne.symm hae⟩
    refine wpAny_pyNext_enum_itemD D he ⟨hit, p⟩ hlt hne haf fun x' h' tk hP ho hst' hT hsz hk => ?_
    have hxu : x' = u := by
      have h1 : its.toArray[i]? = some x' := hP
      have h2 : its.toArray[i]? = some u := by simpa using hu
      exact Option.some.inj (h1.symm.trans h2)
    subst hxu
    refine ⟨_, rfl, wpAny_letOwnedTupleGo_enum (s := { s with heap := h', toks := tk + 1 }) ho fun h'' he' sb => ?_⟩
    have hT2 : h''.get? s.heap.objs.size = some { cls := .type "tuple", data := .seq #[.int i tk, x'] } := (sb.2 _ (Nat.ne_of_gt hel)).trans hT
    have new : ObjOk X.prog X.w (upd H s.heap.objs.size (.tup [.int (i : Nat), x])) h'' s.heap.objs.size (.tup [.int (i : Nat), x]) :=
      ⟨by show 2 ≤ sizeLine; decide, [.int i tk, x'], .cons ⟨_, rfl⟩ (.cons ru .nil), ⟨_, hT2, rfl, _, rfl⟩⟩
    have I1 : Inv X pins σ (upd H s.heap.objs.size (.tup [.int (i : Nat), x])) { s with heap := h'', toks := tk + 1 } :=
      I.turnedNew (ch := [e, it]) (fun b ob hb q => (sb.2 b (fun z => hb (by simp [z]))).trans (hk b ob (fun z => hb (by simp [z])) (fun z => hb (by simp [z])) q)) hf (Nat.le_refl _) new
    refine ⟨.ref s.heap.objs.size, _, I1, rfl, ⟨_, x, rfl, I.hok.fresh (Nat.le_refl _), rfl, fun ys hy => by rw [I.tuple_inj hy hq]; exact hx⟩, ⟨⟨x', ?_⟩, hst'.1.at fun o q => (sb.2 it (Ne.symm hne)).trans q, hne, hai, hae⟩, fun b hb => ?_⟩
    · have e1 : ((i + 1 : Nat) : Int) = (i : Int) + 1 := by omega
      rw [e1]; exact he'
    · have hb' : b < s.heap.objs.size := by
        have e' : b = e ∨ b = it := by simpa using hb
        rcases e' with z | z
        · rw [z]; exact hel
        · rw [z]; exact hil
      rw [upd_ne (Nat.ne_of_lt hb')]
      exact (hf b hb).1
  done := by
    intro X hP hw hK hc i pins s σ H E I hf st hg
    subst hP hw hK
    obtain ⟨⟨old, he⟩, hit, hne, hai, hae⟩ := st
    obtain ⟨xs, hq, hx⟩ := hg
    obtain ⟨its, rv, p, hz⟩ := I.tuple hq
    obtain ⟨f0, f1, f2, f3, f4, f5⟩ := hf it (by simp)
    have hl := rv.length
    have hh : X.A.in1.handled = none := I.ok.hd hc
    have D := Draws.tuple (prog := X.prog) (w := X.w) (A := X.A.in1) hh it a hai its.toArray
    have hi : i = its.toArray.size := by simp; omega
    subst hi
    exact wpAny_pyNext_enum_endD D he ⟨hit, p⟩ fun h' eb => ⟨rfl, I.turned (t' := s.toks) (fun b o hb q => eb b o hb q) f0 f1 f3 f4 f5⟩
  self := fun A i s Q E st h => let ⟨⟨_, he⟩, _⟩ := st; wpAny_pyIter_enum he h
def iEnumT (K : PySem.W.Frag) (ta : TA) : TI := fun σ H R => ta σ H fun vs H1 => ∃ a xs, vs = [.ref a] ∧ ((SqL K H1 a xs ∧ R (Ite K a) H1) ∨ (SqT K H1 a xs ∧ R (IteT K a) H1))
theorem pi_enumT {X : Cx} {e : Expr} {ta : TA} {p pos tpos : Pos} {elts : List Expr} {kk : Nat} (hg : Gl X "enumerate") (hm : X.mg "enumerate" = none) (ha : PA X [e] ta) (hs : starEach [e] X.env = [(false, eval e X.env)]) :
    PI X (.Tuple elts kk tpos) (.Call (.Name "enumerate" p) [e] [] pos) (iEnumT X.K ta) := by
  refine ⟨fun pins s σ H R I h => ?_⟩
  refine PyProof.Rows.Call_ (ld_blt I hg hm PyProof.Rows.boot_enumerate (PyProof.Rows.callWith_type1 (thn (ha.run pos pins s σ H _ I h) fun us s1 ⟨vs, H1, I1, r1, q1⟩ => ?_) hs rfl))
  obtain ⟨a, xs, ex, q1⟩ := q1
  subst ex
  cases r1 with
  | cons r rr =>
    cases rr
    cases r
    have fin : ∀ (b : Addr), b ∈ [s1.heap.objs.size + 1, s1.heap.objs.size] → FpOk X pins H1 b := fun b hb => by
      have e' : b = s1.heap.objs.size + 1 ∨ b = s1.heap.objs.size := by simpa using hb
      have hle : s1.heap.objs.size ≤ b := by
        rcases e' with z | z
        · rw [z]; exact Nat.le_add_right _ _
        · rw [z]; exact Nat.le_refl _
      exact I1.fpOk hle (I1.hok.fresh hle)
    rcases q1 with ⟨hq, q⟩ | ⟨hq, q⟩
    · obtain ⟨its, rv, p', hz⟩ := I1.list hq
      refine call_enumerate_list p'.isList fun h' he hit hsz hk => wpAny_pyIter_enum he ?_
      have I2 : Inv X pins σ H1 { s1 with heap := h' } := I1.kept (t' := s1.toks) hk
      exact ⟨s1.heap.objs.size + 1, [s1.heap.objs.size + 1, s1.heap.objs.size], _, _, H1, rfl, I2, turn_enum a (s1.heap.objs.size + 1) s1.heap.objs.size, ⟨⟨.none, he⟩, hit, Nat.succ_ne_self _⟩, fin, q⟩
    · obtain ⟨its, rv, p', hz⟩ := I1.tuple hq
      have hat : a < s1.heap.objs.size := p'.lt
      refine call_enumerate_tuple p' fun h' he hit hsz hk => wpAny_pyIter_enum he ?_
      have I2 : Inv X pins σ H1 { s1 with heap := h' } := I1.kept (t' := s1.toks) hk
      exact ⟨s1.heap.objs.size + 1, [s1.heap.objs.size + 1, s1.heap.objs.size], _, _, H1, rfl, I2, turn_enumT a (s1.heap.objs.size + 1) s1.heap.objs.size, ⟨⟨.none, he⟩, hit, Nat.succ_ne_self _, Nat.ne_of_lt hat, Nat.ne_of_lt (Nat.lt_succ_of_lt hat)⟩, fin, q⟩
theorem walk_enumT {K : PySem.W.Frag} {a : Addr} {xs : List V} : Walk (IteT K a) xs.length (fun H => SqT K H a xs) (YPair (fun i => some (.int (i : Nat))) (fun i => xs[i]?)) := by
  refine ⟨fun i _ hi q => ⟨xs, xs[i], q, by simp [hi]⟩, fun _ q => ⟨xs, q, rfl⟩, fun i H v H' _ q y => ?_⟩
  obtain ⟨T, x, h1, h2, h3, h4⟩ := y
  exact ⟨T, .int (i : Nat), x, h1, h2, h3, rfl, h4 xs q⟩
/-! ### a tuple turned about -/
section
variable {prog : Program} {w : World} {A : Around} {E : Value → Shared → Prop} {s : Shared}
theorem fm_congr {α β : Type} {f g : α → Option β} : ∀ {l : List α}, (∀ a ∈ l, f a = g a) → l.filterMap f = l.filterMap g
  | [], _ => rfl
  | a :: l, h => by
    rw [List.filterMap_cons, List.filterMap_cons, h a List.mem_cons_self, fm_congr fun b hb => h b (List.mem_cons_of_mem _ hb)]
theorem pick_rev (xs : List Value) : ((List.range xs.length).filterMap fun (m : Nat) => xs.toArray[(((xs.length : Int) - 1) + (m : Int) * (-1)).toNat]?) = xs.reverse := by
  have h : ((List.range xs.length).filterMap fun (m : Nat) => xs.toArray[(((xs.length : Int) - 1) + (m : Int) * (-1)).toNat]?) = (List.range xs.reverse.toArray.size).filterMap (xs.reverse.toArray[·]?) := by
    rw [List.size_toArray, List.length_reverse]
    apply fm_congr
    intro m hm
    rw [List.mem_range] at hm
    have : (((xs.length : Int) - 1) + (m : Int) * (-1)).toNat = xs.length - 1 - m := by omega
    rw [this, List.getElem?_toArray, List.getElem?_toArray, List.getElem?_reverse hm]
  rw [h, PySem.W.krv_all]
theorem sliceApplied_rev {sl : Addr} {vl vu vst : Value} {n : Nat} {Q : Int × Int × Nat → Shared → Prop} (hs : s.heap.IsSliceOf sl vl vu vst) (pl : IsPart vl none) (pu : IsPart vu none) (ps : IsPart vst (some (-1)))
    (h : Q ((n : Int) - 1, -1, n) s) : wpAny (model prog w) A (Builtin.Slice.sliceApplied (.ref sl) (pure (n : Int))) Q E s := by
  obtain ⟨os, hos, hcs, hds⟩ := id hs
  unfold Builtin.Slice.sliceApplied Builtin.Slice.sliceFields
  refine wpAny_bind (wpAny_bind (wpAny_field hos hds (x := vl) rfl (wpAny_bind (wpAny_field hos hds (x := vu) rfl (wpAny_bind (wpAny_field hos hds (x := vst) rfl (wpAny_pure ?_)))))))
  refine wpAny_bind (HT.slicePart_ ps ?_)
  show wpAny _ _ (if ((-1 : Int) == 0) = true then _ else _) _ _ s
  rw [if_neg (by decide)]
  refine wpAny_bind (HT.slicePart_ pl (wpAny_bind (HT.slicePart_ pu (wpAny_bind (wpAny_pure ?_)))))
  show wpAny _ _ (pure (((n : Int) - 1), (-1 : Int), Builtin.Slice.slicePlaces ((n : Int) - 1) (-1) (-1))) _ _ s
  have e : Builtin.Slice.slicePlaces ((n : Int) - 1) (-1) (-1) = n := by
    unfold Builtin.Slice.slicePlaces
    rw [if_neg (by decide)]
    split
    · have : (n : Int) - 1 - -1 - 1 = (n : Int) - 1 := by omega
      rw [this]
      have : ((n : Int) - 1) / (- -1) + 1 = n := by
        have : (- -1 : Int) = 1 := rfl
        rw [this, Int.ediv_one]; omega
      rw [this]; rfl
    · omega
  rw [e]
  exact wpAny_pure h
theorem getItem_tuple_rev {t sl : Addr} {its : List Value} {vl vu vst : Value} {Q : Value → Shared → Prop} (ht : PyProof.Rows.IsTup s.heap t its.toArray) (hs : s.heap.IsSliceOf sl vl vu vst) (pl : IsPart vl none) (pu : IsPart vu none) (ps : IsPart vst (some (-1)))
    (h : Q (.ref s.heap.objs.size) { s with heap := s.heap.push { cls := .type "tuple", data := .seq its.reverse.toArray } })
    (hsz : its.length ≤ sizeLine) : wpAny (model prog w) A (getItem (.ref t) (.ref sl)) Q E s := by
  have htake : sizeOk (.seq its.reverse.toArray) := by
    show its.reverse.toArray.size ≤ sizeLine
    rw [List.size_toArray, List.length_reverse]; exact hsz
  obtain ⟨os, hos, hcs, hds⟩ := id hs
  have hTs : s.TypeIs (.ref sl) "slice" := ⟨os, hos, hcs⟩
  unfold getItem
  try with_reducible refine wpAny_holding ?_
  first | refine wpAny_bind (wpAny_pure ?_) | skip
  refine wpAny_bind (wpAny_sequenceKey ht.typeIs (by decide) ?_)
  refine wpAny_bind (wpAny_callSpecial?_slot (name := Str.ofString "__getitem__") ht.typeIs PyProof.Rows.slot_tuple_getitem
    (wpAny_call_entry PyProof.Rows.slot_tuple_getitem ht.typeIs PyProof.Rows.entry_tuple_getitem ?_ (PyProof.Rows.args_tuple_getitem _ _)))
  show wpAny _ _ (Builtin.Tuple.tupleItemsOf (.ref t) >>= _) _ _ s
  refine wpAny_bind (PyProof.Rows.tupleItemsOf_ ht ?_)
  refine wpAny_bind (wpAny_typeOf hTs ?_)
  rw [if_pos (by decide)]
  refine wpAny_bind (sliceApplied_rev hs pl pu ps ?_)
  show wpAny _ _ (if ((((its.toArray.size : Nat) : Int) - 1) == 0 && (-1 : Int) == 1 && its.toArray.size == its.toArray.size) = true then _ else _) _ _ s
  rw [if_neg (by rw [show ((-1 : Int) == 1) = false from rfl]; simp)]
  rw [List.size_toArray, pick_rev]
  first
    | exact wpAny_bind (m := Builtin.Tuple.tupleExact _) (wpAny_newObj_type (wpAny_pure ⟨_, rfl, wpAny_pure h⟩) htake)
    | exact wpAny_bind (m := Builtin.Tuple.tupleExact _) (wpAny_newObj_type (wpAny_bind (wpAny_pure (wpAny_pure ⟨_, rfl, wpAny_pure h⟩))) htake)
    | exact wpAny_bind (wpAny_bind (m := Builtin.Tuple.tupleExact _) (wpAny_newObj_type (wpAny_pure (wpAny_pure ⟨_, rfl, wpAny_pure h⟩)) htake))
    | exact wpAny_bind (wpAny_bind (m := Builtin.Tuple.tupleExact _) (wpAny_newObj_type (wpAny_pure ⟨_, rfl, wpAny_pure h⟩) htake))
end
/-- x[::-1] of a list or a tuple -/
def tRevA (K : PySem.W.Frag) (te : TE) : TE := fun σ H Q => te σ H fun x H1 => ∃ a xs, x = .ref a ∧ ((SqL K H1 a xs ∧ ∀ p, H1 p = none → Q (.ref p) (upd H1 p (.lst xs.reverse))) ∨ (SqT K H1 a xs ∧ ∀ p, H1 p = none → Q (.ref p) (upd H1 p (.tup xs.reverse))))
theorem pe_revA {X : Cx} {e : Expr} {te : TE} {k : Nat} {p1 p2 p3 pos : Pos} (he : PE X e te) : PE X (.Subscript e (.Slice none none (some (.UnaryOp .USub (.Constant (.int 1) k p1) p2)) p3) pos) (tRevA X.K te) := by
  refine ⟨fun pins s σ H Q I h => ?_⟩
  refine PyProof.Rows.Subscript_ (thn (he.run pins s σ H _ I h) fun v s1 ⟨x, H1, I1, r1, q1⟩ => ?_)
  obtain ⟨a, xs, ex, q1⟩ := q1
  subst ex
  cases r1
  have hst : PO X (some (.UnaryOp .USub (.Constant (.int 1) k p1) p2)) (tPart (tUn (rU fun i => .int (-i)) (tC (.int 1)))) := po_some (pe_un un_neg pe_int)
  refine wpAny_Slice (thn (po_none.run pins s1 σ H1 (fun o H2 => o = none ∧ H2 = H1) I1 ⟨rfl, rfl⟩) fun vl s2 ⟨l, H2, I2, pl, el, e2⟩ => ?_)
  subst el e2
  refine thn (po_none.run pins s2 σ H2 (fun o H3 => o = none ∧ H3 = H2) I2 ⟨rfl, rfl⟩) fun vu s3 ⟨u, H3, I3, pu, eu, e3⟩ => ?_
  subst eu e3
  refine thn (hst.run pins s3 σ H3 (fun o H4 => o = some (-1) ∧ H4 = H3) I3 ⟨1, rfl, -1, rfl, rfl, rfl⟩) fun vs s4 ⟨o, H4, I4, ps, eo, e4⟩ => ?_
  subst eo e4
  have I5 : Inv X pins σ H4 { s4 with heap := s4.heap.push { cls := .type "slice", data := .fields #[vl, vu, vs] } } := I4.kept (t' := s4.toks) fun b ob q => Heap.get?_push_of_some _ q
  show wpAny (model X.prog X.w) X.A (PyProof.Rows.subscriptTail e (.Slice none none (some (.UnaryOp .USub (.Constant (.int 1) k p1) p2)) p3) (.ref a) (.ref s4.heap.objs.size)) (EP X pins σ Q) X.xe { s4 with heap := s4.heap.push { cls := .type "slice", data := .fields #[vl, vu, vs] } }
  rcases q1 with ⟨hx, q⟩ | ⟨hx, q⟩
  · obtain ⟨its, r, ht, hz⟩ := I5.list hx
    have hlen := r.length
    refine PyProof.Rows.tail_any (ops := [.ref a, .ref s4.heap.objs.size]) ht.isList.typeIs (PySem.slot_list_getitem.lookup) ?_ (by with_unfolding_all rfl)
    refine wpAny_getItem_list_slice ht.isList (Heap.IsSliceOf.new _ vl vu vs) pl pu ps (by decide) ?_ (by rw [List.size_toArray]; omega)
    rw [PySem.W.krv_pick]
    refine ⟨.ref _, _, I5.laid (t' := s4.toks) (o := .lst xs.reverse) (fun b ob q => Heap.get?_push_of_some _ q) (Nat.le_refl _) ?_, rfl, q _ (I5.hok.fresh (Nat.le_refl _))⟩
    exact ⟨by rw [List.length_reverse]; exact hz, _, 0, r.reverse, Heap.get?_push_size _ rfl⟩
  · obtain ⟨its, r, ht, hz⟩ := I5.tuple hx
    have hlen := r.length
    refine PyProof.Rows.tail_any (ops := [.ref a, .ref s4.heap.objs.size]) ht.typeIs (PyProof.Rows.slot_tuple_getitem.lookup) ?_ (by with_unfolding_all rfl)
    refine getItem_tuple_rev ht (Heap.IsSliceOf.new _ vl vu vs) pl pu ps ?_ (by omega)
    refine ⟨.ref _, _, I5.laid (t' := s4.toks) (o := .tup xs.reverse) (fun b ob q => Heap.get?_push_of_some _ q) (Nat.le_refl _) ?_, rfl, q _ (I5.hok.fresh (Nat.le_refl _))⟩
    exact ⟨by rw [List.length_reverse]; exact hz, _, r.reverse, ⟨_, Heap.get?_push_size _ rfl, rfl, _, rfl⟩⟩
end MPE

/-! MPS: unpacking with a star, of a tuple. -/
namespace MPS
open PySem PySem.Spec L2
/-- a walk from its k-th turn on -/
theorem walks_from {prog : Program} {w : World} {A : Around} {I : Addr} {fp wr : List Addr} {n : Nat} {P : Nat → Value → Prop} {St : Nat → Heap → Prop} (W : Walks prog w A I fp wr n P St) (k : Nat) (hk : k ≤ n) :
    Walks prog w A I fp wr (n - k) (fun i v => P (k + i) v) (fun i h => St (k + i) h) where
  sub := W.sub
  frame := fun i h h' st q => W.frame (k + i) h h' st q
  item := fun i s Q E hi st hQ => W.item (k + i) s Q E (by omega) st fun v h' tk p st' q => hQ v h' tk p st' q
  done := fun s Q E st hQ => W.done s Q E (by have : k + (n - k) = n := by omega
                                              rw [this] at st; exact st) hQ
  self := fun i s Q E st hQ => W.self (k + i) s Q E st hQ
theorem itemsOf_drop {items : List Value} {acc : Array Value} {k : Nat} (hk : k ≤ items.length) (h : ItemsOf (fun i v => items.toArray[k + i]? = some v) acc (items.length - k)) : acc.toList = items.drop k := by
  apply List.ext_getElem?
  intro i
  have h1 : acc.size = items.length - k := h.1
  by_cases hi : i < items.length - k
  · have hv : acc[i]? = some (acc[i]'(by omega)) := by simp [h1, hi]
    have hp := h.2 i _ hv
    rw [Array.getElem?_toList, hv, List.getElem?_drop]
    simpa using hp.symm
  · rw [List.getElem?_eq_none (by rw [Array.length_toList]; omega), List.getElem?_eq_none (by rw [List.length_drop]; omega)]
section
variable {prog : Program} {w : World} {A : Around} {E : Value → Shared → Prop} {s : Shared}
theorem unpackItems_star {t : Addr} {its : List Value} {n i : Nat} {Q : List Value → Shared → Prop} (hh : A.handled = none) (ht : PyProof.Rows.IsTup s.heap t its.toArray) (hi : i < n) (hn : n ≤ its.length + 1) (hz : its.length ≤ sizeLine)
    (hQ : ∀ (s' : Shared), (∀ b o, s.heap.get? b = some o → s'.heap.get? b = some o) → s'.gens = s.gens → s'.os = s.os → s'.drawn = s.drawn →
      Q (its.take i ++ [.ref s'.heap.objs.size] ++ (its.drop i).drop (its.length - i - (n - 1 - i))) { s' with heap := s'.heap.push { cls := .type "list", data := .seq ((its.drop i).take (its.length - i - (n - 1 - i))).toArray } }) : wpAny (model prog w) A (unpackItems (.ref t) n (some i)) Q E s := by
  have hlt : t ≠ s.heap.objs.size := by obtain ⟨o, ho, _⟩ := ht; exact Nat.ne_of_lt (Heap.lt_size ho)
  unfold unpackItems
  refine wpAny_bind ?_
  unfold notIterableAtAll
  refine wpAny_bind (wpAny_specialOf ht.typeIs PyProof.Rows.slot_tuple_iter.lookup ?_)
  refine wpAny_pure ?_
  simp only [Bool.false_eq_true, if_false]
  refine wpAny_bind (wpAny_holding (wpAny_pyIter_tuple (show s.heap.IsTuple t its.toArray from ht) ?_))
  refine wpAny_bind (wpAny_holding (wpAny_draw_tuple hlt i 0 _ _ ⟨_, Heap.get?_push_size _ rfl, rfl, rfl⟩ (show Heap.IsTuple _ t its.toArray from ht.push _) (by rw [List.size_toArray]; omega) fun h₁ hit₁ hs₁ => ?_))
  rw [List.drop_zero]
  have htk : (List.take i its.toArray.toList).length = i := by simp; omega
  rw [if_neg (by rw [htk]; exact Nat.lt_irrefl _)]
  have ht₁ : PyProof.Rows.IsTup h₁ t its.toArray := (ht.push _).extBut hs₁.extBut hlt
  have keep₁ : ∀ b o, s.heap.get? b = some o → h₁.get? b = some o := fun b o e => hs₁.extBut b o (Nat.ne_of_lt (Heap.lt_size e)) (Heap.get?_push_of_some _ e)
  have hsz₁ : h₁.objs.size = s.heap.objs.size + 1 := by rw [hs₁.1]; exact Heap.size_push ..
  have W := (walks_from (Walks.tuple (prog := prog) (w := w) (A := A.in1) (show A.in1.handled = none from hh) s.heap.objs.size t hlt its.toArray) i (by rw [List.size_toArray]; omega)).toS
  have hit0 : h₁.IsTupleIter s.heap.objs.size t (i + 0) := by simpa using hit₁
  refine wpAny_bind (wpAny_holding (wpAny_collect_iter (T := "tuple_iterator") (.inr (.inr (.inr rfl))) W (fun j s' st => by
      obtain ⟨⟨o, ho, hc, _⟩, _⟩ := st
      exact ⟨o, ho, hc⟩) ⟨hit0, ht₁⟩ (fun b hb => ?_) (by simp) (fun s' acc hm hacc => ?_) (by rw [List.size_toArray]; omega)))
  · have e : b = s.heap.objs.size ∨ b = t := by simpa using hb
    show b < h₁.objs.size
    rcases e with e | e
    · rw [e, hsz₁]; exact Nat.lt_succ_self _
    · rw [e, hsz₁]
      obtain ⟨o, ho, _⟩ := ht
      exact Nat.lt_succ_of_lt (Heap.lt_size ho)
  · have hrest : acc.toList = its.drop i := itemsOf_drop (by omega) (by simpa using hacc)
    rw [hrest]
    have hl : (its.drop i).length = its.length - i := List.length_drop
    simp only [hl]
    rw [if_neg (by omega)]
    refine wpAny_bind (wpAny_newObj_type ?_ (by
      show (List.take _ _).toArray.size ≤ sizeLine
      rw [List.size_toArray, List.length_take, List.length_drop]
      omega))
    refine wpAny_pure ?_
    have hmk : ∀ b o, s.heap.get? b = some o → s'.heap.get? b = some o := fun b o e => hm.heap b o (by simp; exact Nat.ne_of_lt (Heap.lt_size e)) (keep₁ b o e)
    exact hQ s' hmk hm.gens hm.os hm.drawn
end
/-- a, *rest, b = a tuple: i names ahead of the star, n targets in all -/
def gStar (K : PySem.W.Frag) (n i : Nat) (t : TGs) : TG := fun v σ H Q => ∃ a xs, v = .ref a ∧ SqT K H a xs ∧ n ≤ xs.length + 1 ∧
  ∀ p, H p = none → t (xs.take i ++ [.ref p] ++ (xs.drop i).drop (xs.length - i - (n - 1 - i))) σ (upd H p (.lst ((xs.drop i).take (xs.length - i - (n - 1 - i))))) Q
section
variable {X : Cx} {pos : Pos}
theorem pg_star {es : List Expr} {k : Nat} {t : TGs} {n i : Nat} (hc : X.calm = true) (h : PGs X es t) (hn : (assignEach es X.env).length = n) (hst : (assignEach es X.env).findIdx? (·.1) = some i) (hi : i < n) : PG X (.Tuple es k pos) (gStar X.K n i t) := by
  refine ⟨fun pins s σ H v u Q I r hw => ?_⟩
  obtain ⟨a, xs, e1, hq, hl, hw⟩ := hw
  subst e1
  cases r
  obtain ⟨its, rv, ht, hz⟩ := I.tuple hq
  have hlen := rv.length
  rw [PyProof.Rows.assign_Tuple]
  refine wpAny_bind (wpAny_standAt ?_)
  unfold unpack
  rw [hn, hst]
  refine wpAny_bind (wpAny_holding (unpackItems_star (I.ok.hd hc) ht hi (by omega) (by omega) fun s' hk hg ho hd => ?_))
  obtain ⟨h1, g1, d1, t1, o1⟩ := s'
  obtain ⟨h0, g0, d0, t0, o0⟩ := s
  simp only at hk hg ho hd
  subst hg ho hd
  have I1 : Inv X pins σ H ⟨h1, g1, d1, t1, o1⟩ := I.kept (t' := t1) hk
  have rl : Vals ((xs.drop i).take (xs.length - i - (n - 1 - i))) ((its.drop i).take (its.length - i - (n - 1 - i))) := by
    rw [← hlen]; exact (rv.drop _).take _
  have I2 : Inv X pins σ (upd H h1.objs.size (.lst ((xs.drop i).take (xs.length - i - (n - 1 - i))))) ⟨h1.push { cls := .type "list", data := .seq ((its.drop i).take (its.length - i - (n - 1 - i))).toArray }, g1, d1, t1, o1⟩ :=
    I1.laid (t' := t1) (fun b o e => Heap.get?_push_of_some _ e) (Nat.le_refl _) ⟨by rw [List.length_take, List.length_drop]; omega, _, 0, rl, Heap.get?_push_size _ rfl⟩
  refine h.run pins _ σ _ _ _ Q I2 ?_ (hw _ (I1.hok.fresh (Nat.le_refl _)))
  refine Vals.append (Vals.append (rv.take _) (.cons rfl .nil)) ?_
  rw [← hlen]
  exact (rv.drop _).drop _
theorem pgs_starred {e : Expr} {es : List Expr} {t : TG} {u : TGs} {sp : Pos} (h1 : PG X e t) (h2 : PGs X es u) : PGs X (.Starred e sp :: es) (gCons t u) := by
  refine ⟨fun pins s σ H vs us Q I r h => ?_⟩
  obtain ⟨v, vr, e1, h⟩ := h
  subst e1
  cases r with
  | cons r rr =>
    show wpAny _ _ (assignInOrder (assign e X.env :: (assignEach es X.env).map (·.2)) _) _ _ _
    refine PyProof.Rows.assignInOrder_cons (thn (h1.run pins s σ H _ _ _ I r h) fun _ s1 ⟨σ1, H1, I1, q1⟩ => ?_)
    exact h2.run pins s1 σ1 H1 _ _ Q I1 rr q1
end
end MPS

/-! MP6: what is walked; comprehensions. -/
namespace MP
open PySem L2 RZ

/-- J walks the data xs in every later state -/
structure WalkD (c : Cfg) (w : Wd) (J : It) (xs : List D) : Prop where
  go : ∀ (i : Nat) (w' : Wd) (S' : Store) (H' : Hp), i < xs.length → w.le w' → Rel c w' S' H' → J.go i H'
  stop : ∀ (w' : Wd) (S' : Store) (H' : Hp), w.le w' → Rel c w' S' H' → J.stop xs.length H'
  yld : ∀ (i : Nat) (w' : Wd) (S' : Store) (H' : Hp) (x : V) (H2 : Hp), i < xs.length → w.le w' → Rel c w' S' H' → J.yld i H' x H2 → ∃ d w2, xs[i]? = some d ∧ Go w' H' w2 H2 ∧ Rel c w2 S' H2 ∧ RelD c w2 d x
section
variable {c : Cfg} {w : Wd}
theorem walkD_list {a : Addr} {xs : List D} {ys : List V} (h : SqL c.K w.B a ys) (r : RelDs c w xs ys) : WalkD c w (Itl c.K a) xs := by
  have wk := walk_list (K := c.K) (a := a) (xs := ys)
  rw [← r.length] at wk
  refine ⟨fun i w' S' H' hi le R => wk.goes i H' hi (sqL_mono R.ex (sqL_mono le.b h)), fun w' S' H' le R => wk.stops H' (sqL_mono R.ex (sqL_mono le.b h)), fun i w' S' H' x H2 hi le R y => ?_⟩
  obtain ⟨rfl, hx⟩ := wk.yields i H' x H2 hi (sqL_mono R.ex (sqL_mono le.b h)) y
  obtain ⟨d, e, rd⟩ := (r.mono le).getV hx
  exact ⟨d, w', e, Go.refl, R, rd⟩
theorem walkD_tup {a : Addr} {xs : List D} {ys : List V} (h : SqT c.K w.B a ys) (r : RelDs c w xs ys) : WalkD c w (Itt c.K a) xs := by
  have wk := walk_tup (K := c.K) (a := a) (xs := ys)
  rw [← r.length] at wk
  refine ⟨fun i w' S' H' hi le R => wk.goes i H' hi (sqT_mono R.ex (sqT_mono le.b h)), fun w' S' H' le R => wk.stops H' (sqT_mono R.ex (sqT_mono le.b h)), fun i w' S' H' x H2 hi le R y => ?_⟩
  obtain ⟨rfl, hx⟩ := wk.yields i H' x H2 hi (sqT_mono R.ex (sqT_mono le.b h)) y
  obtain ⟨d, e, rd⟩ := (r.mono le).getV hx
  exact ⟨d, w', e, Go.refl, R, rd⟩
theorem signs_length (z : Str) : (signs z).length = z.cps.size := by unfold signs; simp
theorem walkD_str {z : Str} : WalkD c w (Its z) (signs z) := by
  refine ⟨fun i w' S' H' hi le R => ?_, fun w' S' H' le R => ?_, fun i w' S' H' x H2 hi le R y => ?_⟩
  · rw [signs_length] at hi; exact hi
  · rw [signs_length]; exact Nat.le_refl _
  · obtain ⟨rfl, cc, hc, rfl⟩ := y
    refine ⟨.str ⟨#[cc]⟩, w', ?_, Go.refl, R, by simp only [RelD]⟩
    unfold signs
    rw [List.getElem?_map, Array.getElem?_toList, hc]; rfl
theorem walkD_range {lo hi : Int} : WalkD c w (Itr lo (hi - lo).toNat) (rangeD lo hi) := by
  have hl : (rangeD lo hi).length = (hi - lo).toNat := by unfold rangeD; simp
  refine ⟨fun i w' S' H' hi' le R => ?_, fun w' S' H' le R => ?_, fun i w' S' H' x H2 hi' le R y => ?_⟩
  · rw [hl] at hi'; exact hi'
  · rw [hl]; exact Nat.le_refl _
  · obtain ⟨rfl, rfl⟩ := y
    rw [hl] at hi'
    refine ⟨.int (lo + i), w', ?_, Go.refl, R, by simp only [RelD]⟩
    unfold rangeD
    rw [List.getElem?_map, List.getElem?_range hi']; rfl
/-- pairs made on the way -/
theorem walkD_pair {J : It} {n : Nat} {G : Hp → Prop} {f g : Nat → Option V} {xs ys : List D} (wk : Walk J n G (YPair f g)) (hG : ∀ (w' : Wd) (S' : Store) (H' : Hp), w.le w' → Rel c w' S' H' → G H')
    (hn : n = min xs.length ys.length) (hf : ∀ (i : Nat) (v : V), f i = some v → ∃ d, xs[i]? = some d ∧ RelD c w d v) (hg : ∀ (i : Nat) (v : V), g i = some v → ∃ d, ys[i]? = some d ∧ RelD c w d v) :
    WalkD c w J ((xs.zip ys).map fun p => .tup [p.1, p.2]) := by
  have hl : ((xs.zip ys).map fun p => D.tup [p.1, p.2]).length = n := by rw [List.length_map, List.length_zip, hn]
  refine ⟨fun i w' S' H' hi le R => wk.goes i H' (by rw [hl] at hi; exact hi) (hG w' S' H' le R), fun w' S' H' le R => by rw [hl]; exact wk.stops H' (hG w' S' H' le R), fun i w' S' H' x H2 hi le R y => ?_⟩
  rw [hl] at hi
  obtain ⟨T, a, b, rfl, hT, rfl, h1, h2⟩ := wk.yields i H' x H2 hi (hG w' S' H' le R) y
  obtain ⟨d, e1, r1⟩ := hf i a h1
  obtain ⟨d', e2, r2⟩ := hg i b h2
  obtain ⟨z1, z2, z3⟩ := R.newTup (xs := [d, d']) (.cons (r1.mono le) (.cons (r2.mono le) .nil)) hT
  refine ⟨.tup [d, d'], _, ?_, z1, z2, z3⟩
  rw [List.getElem?_map, show (xs.zip ys)[i]? = some (d, d') from List.getElem?_zip_eq_some.mpr ⟨e1, e2⟩]; rfl
end
/-- what a for walks -/
def SemI (c : Cfg) (F : Fn) (k : IK) (its : List E) : TI := fun σ H R => ∃ w S env ds xs S', Rel c w S H ∧ RelEnv c w env σ ∧ evs F its env S = .ok ds S' ∧ itD k ds = some xs ∧
  ∀ w' H' J, Go w H w' H' → Rel c w' S' H' → WalkD c w' J xs → R J H'
theorem PI.imp {X : Cx} {tg e : Expr} {t t' : TI} (h : PI X tg e t) (i : ∀ σ H R, t' σ H R → t σ H R) : PI X tg e t' := ⟨fun pins s σ H R I q => h.run pins s σ H R I (i σ H R q)⟩
section
variable {X : Cx} {c : Cfg} {F : Fn} {tg a b e : Expr} {ea eb ee : E} {p pos : Pos}
theorem evs_one {es : E} {env : Env} {S S' : Store} {ds : List D} (h : evs F [es] env S = .ok ds S') : ∃ d, ds = [d] ∧ ev F es env S = .ok d S' := by
  simp only [evs] at h
  obtain ⟨d1, S1, e1, e2⟩ := Res.bind_eq h
  cases e2
  exact ⟨d1, rfl, e1⟩
theorem evs_two {e1 e2 : E} {env : Env} {S S' : Store} {ds : List D} (h : evs F [e1, e2] env S = .ok ds S') : ∃ d d', ds = [d, d'] := by
  have := evs_length h
  match ds, this with
  | [d, d'], _ => exact ⟨d, d', rfl⟩
theorem sem_seq (hK : X.K = c.K) (he : PE X e (SemE c F ee)) : PI X tg e (SemI c F .seq [ee]) := by
  refine ⟨fun pins s σ H R I ⟨w, S, env, ds, xs, S', Rl, RE, hev, hit, k⟩ => ?_⟩
  obtain ⟨d, rfl, hv⟩ := evs_one hev
  refine thn (he.run pins s σ H (fun v H1 => ∃ w1, Go w H w1 H1 ∧ Rel c w1 S' H1 ∧ RelD c w1 d v) I ⟨w, S, env, d, S', Rl, RE, hv, fun w1 H1 v g R1 r1 => ⟨w1, g, R1, r1⟩⟩) fun u s1 ⟨x, H1, I1, rx, w1, g, R1, r1⟩ => ?_
  cases d with
  | str z =>
    simp only [itD] at hit
    cases hit
    simp only [RelD] at r1
    subst r1
    obtain ⟨t, rfl⟩ := rx
    have q := k w1 H1 _ g R1 walkD_str
    cases hz : z.cps.all (· < 128)
    · exact wpAny_pyIter_wide hz (pi_one (tk := s1.toks) I1 _ (turn_str _ z t "str_iterator" (.inr rfl)) ⟨_, Heap.get?_push_size _ rfl, rfl, rfl⟩ q)
    · exact wpAny_pyIter_ascii hz (pi_one (tk := s1.toks) I1 _ (turn_str _ z t "str_ascii_iterator" (.inl rfl)) ⟨_, Heap.get?_push_size _ rfl, rfl, rfl⟩ q)
  | tup xs' =>
    simp only [itD] at hit
    cases hit
    simp only [RelD] at r1
    obtain ⟨ad, ys, rfl, h1, h2⟩ := r1
    cases rx
    have q := k w1 H1 _ g R1 (walkD_tup h1 h2)
    obtain ⟨its, rv, p, hz⟩ := I1.tuple (by rw [hK]; exact sqT_mono R1.ex h1)
    refine wpAny_pyIter_tuple (show s1.heap.IsTuple ad its.toArray from p) (pi_one (tk := s1.toks) (tn := fun i h => h.IsTupleIter s1.heap.objs.size ad i) I1 _ (by rw [hK]; exact turn_tuple ad _) ⟨_, Heap.get?_push_size _ rfl, rfl, rfl⟩ q)
  | lst xs' =>
    simp only [itD] at hit
    cases hit
    simp only [RelD] at r1
    obtain ⟨ad, ys, rfl, h1, h2⟩ := r1
    cases rx
    have q := k w1 H1 _ g R1 (walkD_list (SqL.of h1) h2)
    obtain ⟨its, rv, p, hz⟩ := I1.list (SqL.of (R1.ex _ _ h1))
    refine wpAny_pyIter_list p.isList (pi_one (tk := s1.toks) (tn := fun i h => h.IsListIter s1.heap.objs.size ad i) I1 _ (by rw [hK]; exact turn_list ad _) ⟨_, Heap.get?_push_size _ rfl, rfl, rfl⟩ q)
  | scr ns =>
    simp only [itD] at hit
    cases hit
    simp only [RelD] at r1
    obtain ⟨ad, rfl, h1⟩ := r1
    cases rx
    have q := k w1 H1 _ g R1 (walkD_list h1 (RelDs.ints _))
    obtain ⟨its, rv, p, hz⟩ := I1.list (by rw [hK]; exact sqL_mono R1.ex h1)
    refine wpAny_pyIter_list p.isList (pi_one (tk := s1.toks) (tn := fun i h => h.IsListIter s1.heap.objs.size ad i) I1 _ (by rw [hK]; exact turn_list ad _) ⟨_, Heap.get?_push_size _ rfl, rfl, rfl⟩ q)
  | _ => simp only [itD] at hit; cases hit
theorem sem_range1 (hg : Gl X "range") (hm : X.mg "range" = none) (ha : PA X [a] (SemA c F [ea])) (hs : starEach [a] X.env = [(false, eval a X.env)]) : PI X tg (.Call (.Name "range" p) [a] [] pos) (SemI c F .range [ea]) :=
  PI.imp (pi_range1 hg hm ha hs) fun σ H R ⟨w, S, env, ds, xs, S', Rl, RE, hev, hit, k⟩ => by
    refine ⟨w, S, env, ds, S', Rl, RE, hev, fun w1 H1 vs g R1 rs => ?_⟩
    obtain ⟨d, rfl, _⟩ := evs_one hev
    obtain ⟨v, rfl, rv⟩ := rs.one
    cases d <;> simp only [itD] at hit <;> try (cases hit; done)
    split at hit
    · rename_i hz
      cases hit
      simp only [RelD] at rv
      refine ⟨_, by rw [rv], by omega, by omega, ?_⟩
      have q := k w1 H1 _ g R1 walkD_range
      rw [Int.sub_zero] at q
      exact q
    · cases hit
theorem sem_range2 (hg : Gl X "range") (hm : X.mg "range" = none) (ha : PA X [a, b] (SemA c F [ea, eb])) (hs : starEach [a, b] X.env = [(false, eval a X.env), (false, eval b X.env)]) (hs2 : starEach [b] X.env = [(false, eval b X.env)]) :
    PI X tg (.Call (.Name "range" p) [a, b] [] pos) (SemI c F .range [ea, eb]) :=
  PI.imp (pi_range2 hg hm ha hs hs2) fun σ H R ⟨w, S, env, ds, xs, S', Rl, RE, hev, hit, k⟩ => by
    refine ⟨w, S, env, ds, S', Rl, RE, hev, fun w1 H1 vs g R1 rs => ?_⟩
    obtain ⟨d, d', rfl⟩ := evs_two hev
    obtain ⟨v, u, rfl, rv, ru⟩ := rs.two
    cases d <;> cases d' <;> simp only [itD] at hit <;> try (cases hit; done)
    split at hit
    · rename_i hz
      cases hit
      simp only [RelD] at rv ru
      exact ⟨_, _, by rw [rv, ru], ⟨by omega, by omega, by omega, by omega⟩, k w1 H1 _ g R1 walkD_range⟩
    · cases hit
theorem walk_zipT {K : PySem.W.Frag} {a b : Addr} {xs ys : List V} {n : Nat} (hn : n = min xs.length ys.length) : Walk (ItzT K a b) n (fun H => SqT K H a xs ∧ SqT K H b ys) (YPair (fun i => xs[i]?) (fun i => ys[i]?)) := by
  subst hn
  refine ⟨fun i _ hi q => ?_, fun _ q => ⟨xs, ys, q.1, q.2, by omega⟩, fun i H v H' _ q y => ?_⟩
  · have h1 : i < xs.length := by omega
    have h2 : i < ys.length := by omega
    exact ⟨xs, ys, xs[i], ys[i], q.1, q.2, by simp [h1], by simp [h2]⟩
  · obtain ⟨T, x, z, h1, h2, h3, h4, h5⟩ := y
    exact ⟨T, x, z, h1, h2, h3, h4 xs q.1, h5 ys q.2⟩
theorem sem_zip {elts : List Expr} {kk : Nat} {tpos : Pos} (hK : X.K = c.K) (hg : Gl X "zip") (hm : X.mg "zip" = none) (ha : PA X [a, b] (SemA c F [ea, eb])) (hs : starEach [a, b] X.env = (false, eval a X.env) :: starEach [b] X.env) (hpl : (backTo pos (starEach [b] X.env)).any (·.1) = false) :
    PI X (.Tuple elts kk tpos) (.Call (.Name "zip" p) [a, b] [] pos) (SemI c F .zip [ea, eb]) :=
  PI.imp (pi_zipA hg hm ha hs hpl) fun σ H R ⟨w, S, env, ds, xs, S', Rl, RE, hev, hit, k⟩ => by
    refine ⟨w, S, env, ds, S', Rl, RE, hev, fun w1 H1 vs g R1 rs => ?_⟩
    obtain ⟨d, d', rfl⟩ := evs_two hev
    obtain ⟨v, u, rfl, rv, ru⟩ := rs.two
    cases d <;> cases d' <;> simp only [itD] at hit <;> try (cases hit; done)
    · cases hit
      simp only [RelD] at rv ru
      obtain ⟨a1, ys, rfl, h1, q1⟩ := rv
      obtain ⟨b1, zs, rfl, h2, q2⟩ := ru
      refine ⟨a1, b1, ys, zs, rfl, .inr ⟨by rw [hK]; exact sqT_mono R1.ex h1, by rw [hK]; exact sqT_mono R1.ex h2, ?_⟩⟩
      rw [hK]
      refine k w1 H1 _ g R1 (walkD_pair (walk_zipT (xs := ys) (ys := zs) rfl) (fun w' S' H' le R => ⟨sqT_mono R.ex (sqT_mono le.b h1), sqT_mono R.ex (sqT_mono le.b h2)⟩) (by rw [q1.length, q2.length]) (fun i v hv => q1.getV hv) (fun i v hv => q2.getV hv))
    · cases hit
      simp only [RelD] at rv ru
      obtain ⟨a1, ys, rfl, h1, q1⟩ := rv
      obtain ⟨b1, zs, rfl, h2, q2⟩ := ru
      refine ⟨a1, b1, ys, zs, rfl, .inl ⟨SqL.of (R1.ex _ _ h1), SqL.of (R1.ex _ _ h2), ?_⟩⟩
      rw [hK]
      refine k w1 H1 _ g R1 (walkD_pair (walk_zip (xs := ys) (ys := zs) rfl) (fun w' S' H' le R => ⟨SqL.of (R.ex _ _ (le.b _ _ h1)), SqL.of (R.ex _ _ (le.b _ _ h2))⟩) (by rw [q1.length, q2.length]) (fun i v hv => q1.getV hv) (fun i v hv => q2.getV hv))
theorem enum_eq (xs : List D) : ((List.range xs.length).zip xs).map (fun p => D.tup [.int (p.1 : Nat), p.2]) = (((List.range xs.length).map fun (i : Nat) => D.int (i : Int)).zip xs).map fun p => D.tup [p.1, p.2] := by
  rw [List.zip_map_left, List.map_map]
  rfl
theorem enum_pair {w : Wd} {n : Nat} (i : Nat) (v : V) (h : some (V.int (i : Int)) = some v) (hi : i < n) : ∃ d, ((List.range n).map fun (i : Nat) => D.int (i : Int))[i]? = some d ∧ RelD c w d v := by
  cases h
  refine ⟨.int i, ?_, by simp only [RelD]⟩
  rw [List.getElem?_map, List.getElem?_range hi]; rfl
theorem walkD_pairE {J : It} {n : Nat} {G : Hp → Prop} {g : Nat → Option V} {ys : List D} {w : Wd} (wk : Walk J n G (YPair (fun i => some (.int (i : Nat))) g)) (hG : ∀ (w' : Wd) (S' : Store) (H' : Hp), w.le w' → Rel c w' S' H' → G H')
    (hn : n = ys.length) (hg : ∀ (i : Nat) (v : V), g i = some v → ∃ d, ys[i]? = some d ∧ RelD c w d v) :
    WalkD c w J (((List.range ys.length).zip ys).map fun p => .tup [.int (p.1 : Nat), p.2]) := by
  rw [enum_eq]
  refine walkD_pair (f := fun i => if i < n then some (.int (i : Nat)) else none) (wk.mono (fun _ h => h) fun i H x H' hi _ y => ?_) hG (by simp [hn]) (fun i v h => ?_) hg
  · obtain ⟨T, a, b, h1, h2, h3, h4, h5⟩ := y
    exact ⟨T, a, b, h1, h2, h3, by show (if i < n then some (V.int ↑i) else none) = some a; rw [if_pos hi]; exact h4, h5⟩
  · split at h
    · rename_i hi
      exact enum_pair i v h (by rw [← hn]; exact hi)
    · cases h
theorem sem_enum {elts : List Expr} {kk : Nat} {tpos : Pos} (hK : X.K = c.K) (hg : Gl X "enumerate") (hm : X.mg "enumerate" = none) (ha : PA X [a] (SemA c F [ea])) (hs : starEach [a] X.env = [(false, eval a X.env)]) :
    PI X (.Tuple elts kk tpos) (.Call (.Name "enumerate" p) [a] [] pos) (SemI c F .enum [ea]) :=
  PI.imp (MPE.pi_enumT hg hm ha hs) fun σ H R ⟨w, S, env, ds, xs, S', Rl, RE, hev, hit, k⟩ => by
    refine ⟨w, S, env, ds, S', Rl, RE, hev, fun w1 H1 vs g R1 rs => ?_⟩
    obtain ⟨d, rfl, hd⟩ := evs_one hev
    obtain ⟨v, rfl, rv⟩ := rs.one
    cases d <;> simp only [itD] at hit <;> try (cases hit; done)
    · cases hit
      simp only [RelD] at rv
      obtain ⟨a1, ys, rfl, h1, q1⟩ := rv
      refine ⟨a1, ys, rfl, .inr ⟨by rw [hK]; exact sqT_mono R1.ex h1, ?_⟩⟩
      rw [hK]
      exact k w1 H1 _ g R1 (walkD_pairE (MPE.walk_enumT (xs := ys)) (fun w' S' H' le R => sqT_mono R.ex (sqT_mono le.b h1)) q1.length.symm (fun i v hv => q1.getV hv))
    · cases hit
      simp only [RelD] at rv
      obtain ⟨a1, ys, rfl, h1, q1⟩ := rv
      refine ⟨a1, ys, rfl, .inl ⟨SqL.of (R1.ex _ _ h1), ?_⟩⟩
      rw [hK]
      exact k w1 H1 _ g R1 (walkD_pairE (walk_enum (xs := ys)) (fun w' S' H' le R => SqL.of (R.ex _ _ (le.b _ _ h1))) q1.length.symm (fun i v hv => q1.getV hv))
theorem sem_rev {k0 : Nat} {p1 p2 p3 : Pos} (hK : X.K = c.K) (ha : PE X a (SemE c F ea)) : PE X (.Subscript a (.Slice none none (some (.UnaryOp .USub (.Constant (.int 1) k0 p1) p2)) p3) pos) (SemE c F (.rev ea)) :=
  PE.imp (MPE.pe_revA ha) fun σ H Q ⟨w, S, env, d, S', R, RE, hv, k⟩ => by
    simp only [ev] at hv
    refine SemE.bind (es := ea) R RE hv fun d1 S1 w1 H1 v1 le1 R1 r1 RE1 h1 => ?_
    cases d1 <;> (try simp only at h1) <;> try (cases h1; done)
    · cases h1
      simp only [RelD] at r1
      obtain ⟨ad, ys, rfl, h2, h3⟩ := r1
      refine ⟨ad, ys, rfl, .inr ⟨by rw [hK]; exact sqT_mono R1.ex h2, fun q hq => ?_⟩⟩
      obtain ⟨z1, z2, z3⟩ := R1.newTup h3.reverse hq
      exact k _ _ _ (le1.trans z1) z2 z3
    · cases h1
      simp only [RelD] at r1
      obtain ⟨ad, ys, rfl, h2, h3⟩ := r1
      refine ⟨ad, ys, rfl, .inl ⟨SqL.of (R1.ex _ _ h2), fun q hq => ?_⟩⟩
      obtain ⟨z1, z2, z3⟩ := R1.newLst h3.reverse hq
      exact k _ _ _ (le1.trans z1) z2 z3
end
/-! ### targets -/
def SemG (c : Cfg) (p : P) : TG := fun v σ H Q => ∃ w S env d env', Rel c w S H ∧ RelEnv c w env σ ∧ RelD c w d v ∧ bindP p d env = some env' ∧
  ∀ w' σ' H', Go w H w' H' → Rel c w' S H' → RelEnv c w' env' σ' → (∀ j : Nat, j ∉ slotsP p → σ'[j]? = σ[j]?) → Q σ' H'
def SemGs (c : Cfg) (ps : List P) : TGs := fun vs σ H Q => ∃ w S env ds env', Rel c w S H ∧ RelEnv c w env σ ∧ RelDs c w ds vs ∧ bindPs ps ds env = some env' ∧
  ∀ w' σ' H', Go w H w' H' → Rel c w' S H' → RelEnv c w' env' σ' → (∀ j : Nat, j ∉ slotsPs ps → σ'[j]? = σ[j]?) → Q σ' H'
theorem PG.imp {X : Cx} {e : Expr} {t t' : TG} (h : PG X e t) (i : ∀ v σ H Q, t' v σ H Q → t v σ H Q) : PG X e t' := ⟨fun pins s σ H v u Q I r q => h.run pins s σ H v u Q I r (i v σ H Q q)⟩
theorem PGs.imp {X : Cx} {e : List Expr} {t t' : TGs} (h : PGs X e t) (i : ∀ v σ H Q, t' v σ H Q → t v σ H Q) : PGs X e t' := ⟨fun pins s σ H v u Q I r q => h.run pins s σ H v u Q I r (i v σ H Q q)⟩
section
variable {X : Cx} {c : Cfg} {pos : Pos}
theorem tgt_name {i : Nat} {x : Str} (h : PG X (.Name x pos) (gName i)) : PG X (.Name x pos) (SemG c (.name i)) := PG.imp h fun v σ H Q ⟨w, S, env, d, env', R, RE, rd, hb, k⟩ => by
  simp only [bindP] at hb
  split at hb
  · rename_i hi
    cases hb
    refine k w _ H Go.refl R (RE.set rd hi) fun j hj => ?_
    simp only [slotsP, List.mem_singleton] at hj
    rw [List.getElem?_set_ne (Ne.symm hj)]
  · cases hb
theorem tgt_nil : PGs X [] (SemGs c []) := PGs.imp pgs_nil fun v σ H Q ⟨w, S, env, d, env', R, RE, rd, hb, k⟩ => by
  cases d with
  | nil => simp only [bindPs] at hb; cases hb; exact ⟨rd.nil_inv, k w σ H Go.refl R RE fun _ _ => rfl⟩
  | cons d ds => simp only [bindPs] at hb; cases hb
theorem tgt_cons {e : Expr} {es : List Expr} {p : P} {ps : List P} (h1 : PG X e (SemG c p)) (h2 : PGs X es (SemGs c ps)) (hs : (assignEach (e :: es) X.env).map (·.2) = assign e X.env :: (assignEach es X.env).map (·.2)) : PGs X (e :: es) (SemGs c (p :: ps)) :=
  PGs.imp (pgs_cons h1 h2 hs) fun vs σ H Q ⟨w, S, env, ds, env', R, RE, rd, hb, k⟩ => by
    cases ds with
    | nil => simp only [bindPs] at hb; cases hb
    | cons d ds =>
      obtain ⟨v, r, rfl, r1, r2⟩ := rd.cons_inv
      simp only [bindPs] at hb
      cases q : bindP p d env with
      | none => rw [q] at hb; cases hb
      | some env1 =>
        rw [q] at hb
        simp only [Option.bind_some] at hb
        refine ⟨v, r, rfl, w, S, env, d, env1, R, RE, r1, q, fun w1 σ1 H1 g1 R1 RE1 n1 => ⟨w1, S, env1, ds, env', R1, RE1, r2.mono g1.le, hb, fun w2 σ2 H2 g2 R2 RE2 n2 => k w2 σ2 H2 (g1.trans g2) R2 RE2 fun j hj => ?_⟩⟩
        simp only [slotsPs, List.mem_append, not_or] at hj
        rw [n2 j hj.2, n1 j hj.1]
theorem bindPs_length : ∀ {ps : List P} {ds : List D} {env env' : Env}, bindPs ps ds env = some env' → ds.length = ps.length
  | [], [], _, _, _ => rfl
  | [], _ :: _, _, _, h => by simp only [bindPs] at h; cases h
  | _ :: _, [], _, _, h => by simp only [bindPs] at h; cases h
  | p :: ps, d :: ds, env, env', h => by
    simp only [bindPs] at h
    cases q : bindP p d env with
    | none => rw [q] at h; cases h
    | some env1 => rw [q] at h; simp only [List.length_cons, bindPs_length h]
theorem tgt_tup {es : List Expr} {kk n : Nat} {ps : List P} (hK : X.K = c.K) (hc : X.calm = true) (h : PGs X es (SemGs c ps)) (hn : (assignEach es X.env).length = n) (hn2 : ps.length = n) (hst : (assignEach es X.env).findIdx? (·.1) = none) : PG X (.Tuple es kk pos) (SemG c (.tup ps)) :=
  PG.imp (pg_tup hc h hn hst) fun v σ H Q ⟨w, S, env, d, env', R, RE, rd, hb, k⟩ => by
    cases d <;> simp only [bindP] at hb <;> try (cases hb; done)
    simp only [RelD] at rd
    obtain ⟨a, ys, rfl, h1, h2⟩ := rd
    exact ⟨a, ys, rfl, by rw [hK]; exact sqT_mono R.ex h1, by rw [← h2.length, bindPs_length hb, hn2], w, S, env, _, env', R, RE, h2, hb, fun w' σ' H' g' R' RE' n' => k w' σ' H' g' R' RE' fun j hj => n' j (by simpa only [slotsP] using hj)⟩
theorem starD_rel {w : Wd} {S : Store} {H : Hp} {xs : List D} {ys : List V} {i n : Nat} {p : Addr} (R : Rel c w S H) (r : RelDs c w xs ys) (hp : H p = none) :
    let l := (ys.drop i).take (ys.length - i - (n - 1 - i))
    Go w H (w.add p (.lst l)) (upd H p (.lst l)) ∧ Rel c (w.add p (.lst l)) S (upd H p (.lst l)) ∧ RelDs c (w.add p (.lst l)) (starD i n xs) (ys.take i ++ [.ref p] ++ (ys.drop i).drop (ys.length - i - (n - 1 - i))) := by
  intro l
  have hl : RelDs c w ((xs.drop i).take (xs.length - i - (n - 1 - i))) l := by
    show RelDs c w _ ((ys.drop i).take (ys.length - i - (n - 1 - i)))
    rw [r.length]; exact (r.drop _).take _
  obtain ⟨z1, z2, z3⟩ := R.newLst hl hp
  refine ⟨z1, z2, ?_⟩
  unfold starD
  have r' := r.mono z1.le
  refine RelDs.append (RelDs.append (r'.take _) (.cons z3 .nil)) ?_
  rw [r.length]
  exact (r'.drop _).drop _
theorem tgt_star {es : List Expr} {kk n i : Nat} {ps : List P} (hK : X.K = c.K) (hc : X.calm = true) (h : PGs X es (SemGs c ps)) (hn : (assignEach es X.env).length = n) (hn2 : ps.length = n) (hst : (assignEach es X.env).findIdx? (·.1) = some i) (hi : i < n) : PG X (.Tuple es kk pos) (SemG c (.star i ps)) :=
  PG.imp (MPS.pg_star hc h hn hst hi) fun v σ H Q ⟨w, S, env, d, env', R, RE, rd, hb, k⟩ => by
    cases d <;> simp only [bindP] at hb <;> try (cases hb; done)
    split at hb
    · rename_i hlen
      simp only [RelD] at rd
      obtain ⟨a, ys, rfl, h1, h2⟩ := rd
      rw [hn2] at hb hlen
      refine ⟨a, ys, rfl, by rw [hK]; exact sqT_mono R.ex h1, by rw [← h2.length]; exact hlen.2, fun p hp => ?_⟩
      obtain ⟨z1, z2, z3⟩ := starD_rel (i := i) (n := n) R h2 hp
      exact ⟨_, S, env, _, env', z2, RE.mono z1.le, z3, hb, fun w' σ' H' g' R' RE' n' => k w' σ' H' (z1.trans g') R' RE' fun j hj => n' j (by simpa only [slotsP] using hj)⟩
    · cases hb
end
/-! ### comprehensions -/
theorem wipe_eq : ∀ {vs : List Nat} {σ σ' : St}, σ'.length = σ.length → (∀ j : Nat, j ∉ vs → σ'[j]? = σ[j]?) → wipe σ' vs = wipe σ vs := by
  intro vs σ σ' hl h
  have key : ∀ (vs : List Nat) (σ : St) (j : Nat), (wipe σ vs)[j]? = if j ∈ vs then (if j < σ.length then some none else none) else σ[j]? := by
    intro vs
    induction vs with
    | nil => intro σ j; simp [wipe]
    | cons v vs ih =>
      intro σ j
      show ((wipe σ vs).set v none)[j]? = _
      by_cases hj : j = v
      · subst hj
        by_cases hlt : j < σ.length
        · rw [List.getElem?_set_self (by rw [wipe_length]; exact hlt)]; simp [hlt]
        · rw [List.getElem?_eq_none (by rw [List.length_set, wipe_length]; omega)]; simp [hlt]
      · rw [List.getElem?_set_ne (Ne.symm hj), ih σ j]
        simp [hj]
  apply List.ext_getElem?
  intro j
  rw [key, key, hl]
  by_cases hj : j ∈ vs
  · simp [hj]
  · simp [hj, h j hj]
theorem RelEnv.wipe {c : Cfg} {w : Wd} {env : Env} {σ : St} (r : RelEnv c w env σ) : ∀ vs : List Nat, RelEnv c w (wipeE env vs) (L2.wipe σ vs)
  | [] => r
  | v :: vs => by
    have ih := RelEnv.wipe r vs
    refine ⟨by show ((wipeE env vs).set v none).length = ((L2.wipe σ vs).set v none).length; rw [List.length_set, List.length_set]; exact ih.1, fun j d e => ?_⟩
    have e' : ((wipeE env vs).set v none)[j]? = some (some d) := e
    by_cases hj : j = v
    · subst hj
      rw [List.getElem?_set] at e'
      simp at e'
    · rw [List.getElem?_set_ne (Ne.symm hj)] at e'
      obtain ⟨u, q1, q2⟩ := ih.2 j d e'
      exact ⟨u, by show ((L2.wipe σ vs).set v none)[j]? = _; rw [List.getElem?_set_ne (Ne.symm hj)]; exact q1, q2⟩
def SemTs (c : Cfg) (F : Fn) (cond : List E) : TT := fun σ H Q => ∃ w S env ds S' b, Rel c w S H ∧ RelEnv c w env σ ∧ evs F cond env S = .ok ds S' ∧ (ds = [] ∧ b = true ∨ ds = [.bl b]) ∧ ∀ w' H', Go w H w' H' → Rel c w' S' H' → Q b H'
theorem PTs.imp {X : Cx} {e : List Expr} {t t' : TT} (h : PTs X e t) (i : ∀ σ H Q, t' σ H Q → t σ H Q) : PTs X e t' := ⟨fun pins s σ H Q I q => h.run pins s σ H Q I (i σ H Q q)⟩
section
variable {X : Cx} {c : Cfg} {F : Fn}
theorem tsts_none : PTs X [] (SemTs c F []) := PTs.imp pts_nil fun σ H Q ⟨w, S, env, ds, S', b, R, RE, hv, hb, k⟩ => by
  simp only [evs] at hv
  cases hv
  rcases hb with ⟨_, rfl⟩ | h
  · exact k w H Go.refl R
  · cases h
theorem tsts_one {t : Expr} {et : E} (h : PT X t (SemT c F et)) : PTs X [t] (SemTs c F [et]) := PTs.imp (pts_one h) fun σ H Q ⟨w, S, env, ds, S', b, R, RE, hv, hb, k⟩ => by
  obtain ⟨d, rfl, hd⟩ := evs_one hv
  rcases hb with ⟨h, _⟩ | h
  · cases h
  · cases h
    exact ⟨w, S, env, b, S', R, RE, hd, k⟩
mutual
theorem bindP_len : ∀ {p : P} {d : D} {env env' : Env}, bindP p d env = some env' → env'.length = env.length
  | .name i, d, env, env', h => by
    simp only [bindP] at h
    split at h
    · cases h; rw [List.length_set]
    · cases h
  | .tup ps, d, env, env', h => by
    cases d <;> simp only [bindP] at h <;> try (cases h; done)
    exact bindPs_len h
  | .star i ps, d, env, env', h => by
    cases d <;> simp only [bindP] at h <;> try (cases h; done)
    split at h
    · exact bindPs_len h
    · cases h
theorem bindPs_len : ∀ {ps : List P} {ds : List D} {env env' : Env}, bindPs ps ds env = some env' → env'.length = env.length
  | [], [], env, env', h => by simp only [bindPs] at h; cases h; rfl
  | [], _ :: _, _, _, h => by simp only [bindPs] at h; cases h
  | _ :: _, [], _, _, h => by simp only [bindPs] at h; cases h
  | p :: ps, d :: ds, env, env', h => by
    simp only [bindPs] at h
    cases q : bindP p d env with
    | none => rw [q] at h; cases h
    | some env1 => rw [q] at h; simp only [Option.bind_some] at h; rw [bindPs_len h, bindP_len q]
end
/-- one turn of a comprehension -/
def turnC (F : Fn) (p : P) (cond : List E) (e : E) (env : Env) (x : D) (S : Store) : Res (Option D) := match bindP p x (wipeE env (slotsP p)) with
  | none => .bad
  | some env' => (evs F cond env' S).bind fun cs S2 => match cs with
    | [] => (ev F e env' S2).bind fun y S3 => .ok (some y) S3
    | [.bl true] => (ev F e env' S2).bind fun y S3 => .ok (some y) S3
    | [.bl false] => .ok none S2
    | _ => .bad
theorem comp_imp {mu : Bool} {p : P} {k : IK} {its cond : List E} {ee : E} {σ : St} {H : Hp} {Q : VK} (h : SemE c F (.comp mu p k its cond ee) σ H Q) : tLc (SemI c F k its) (SemG c p) (SemTs c F cond) (SemE c F ee) (slotsP p) σ H Q := by
  obtain ⟨w, S, env, d, S', R, RE, hv, kk⟩ := h
  simp only [ev] at hv
  obtain ⟨ds, S1, e1, hv1⟩ := Res.bind_eq hv
  clear hv
  obtain ⟨xs, S1', e2, hv2⟩ := Res.bind_eq hv1
  clear hv1
  obtain ⟨e2', rfl⟩ := opt_eq e2
  obtain ⟨ys, S2, e30, hv⟩ := Res.bind_eq hv2
  clear hv2
  have e3 : loopC (turnC F p cond ee env) xs S1' = .ok ys S2 := e30
  refine ⟨w, S, env, ds, xs, S1', R, RE, e1, e2', fun w1 H1 J g1 R1 wk Dl hD => ?_⟩
  have RE1 := RE.mono g1.le
  have hz : ys.length ≤ LIM := by
    split at hv
    · assumption
    · cases hv
  have DnB1 : w1.B Dl = none := R1.freeB hD
  have DnR1 : ∀ l : Nat, w1.ρ[l]? ≠ some Dl := R1.notR hD
  refine lc_it (n := xs.length) (G := fun H' => ∃ w' S', w1.le w' ∧ Rel c w' S' H')
    (Y := fun i H' x H2 => ∀ w' S', w1.le w' → Rel c w' S' H' → ∃ d w2, xs[i]? = some d ∧ Go w' H' w2 H2 ∧ Rel c w2 S' H2 ∧ RelD c w2 d x)
    ⟨fun i H' hi ⟨w', S', le, R'⟩ => wk.go i w' S' H' hi le R', fun H' ⟨w', S', le, R'⟩ => wk.stop w' S' H' le R', fun i H' x H2 hi _ y w' S' le R' => wk.yld i w' S' H' x H2 hi le R' y⟩
    (fun i H' => ∃ w' S' acc vs, Go w1 H1 w' H' ∧ Rel c w' S' H' ∧ H' Dl = some (.lst vs) ∧ (∀ l : Nat, w'.ρ[l]? ≠ some Dl) ∧ w'.B Dl = none ∧ RelDs c w' acc vs ∧ ∃ rest, loopC (turnC F p cond ee env) (xs.drop i) S' = .ok rest S2 ∧ acc ++ rest = ys)
    ⟨w1, S1', [], [], Go.refl.other hD, R1.other DnB1 DnR1, upd_same, DnR1, DnB1, .nil, ys, e3, rfl⟩
    (fun i H' _ ⟨w', S', _, _, g', R', _⟩ => ⟨w', S', g'.le, R'⟩) ?_ ?_
  · intro i x H0 H' hi ⟨w', S', acc, vs, g', R', hDl, nR, nB, racc, rest, hl, hys⟩ hY
    obtain ⟨d0, w2, hx, g2, R2, r2⟩ := hY w' S' g'.le R'
    have hdrop : xs.drop i = d0 :: xs.drop (i + 1) := by
      obtain ⟨h1, h2⟩ := List.getElem?_eq_some_iff.mp hx
      rw [List.drop_eq_getElem_cons h1, h2]
    rw [hdrop] at hl
    simp only [loopC] at hl
    obtain ⟨oy, S3, h3, hl⟩ := Res.bind_eq hl
    obtain ⟨rest', S4, h4, hl⟩ := Res.bind_eq hl
    cases hl
    unfold turnC at h3
    cases hb : bindP p d0 (wipeE env (slotsP p)) with
    | none => rw [hb] at h3; cases h3
    | some env' =>
      rw [hb] at h3
      obtain ⟨cs, S5, h5, h3⟩ := Res.bind_eq h3
      have g12 := g'.trans g2
      refine ⟨w2, S', wipeE env (slotsP p), d0, env', R2, (RE1.mono g12.le).wipe _, r2, hb, fun wT σ2 HT gT RT RE2 n2 => ⟨?_, ?_⟩⟩
      · have hl2 : σ2.length = σ.length := by rw [← RE2.1, bindP_len hb, (RE1.wipe (slotsP p)).1, wipe_length]
        refine wipe_eq hl2 fun j hj => ?_
        rw [n2 j hj, wipe_out hj]
      · have g2T := g2.trans gT
        replace g2 := g2T
        have h2l : HT Dl = some (.lst vs) := g2.fr Dl _ hDl nR
        have n2R : ∀ l : Nat, wT.ρ[l]? ≠ some Dl := fun l q => by
          rcases g2.nw l Dl q with ⟨j, hj⟩ | h
          · exact nR j hj
          · rw [hDl] at h; cases h
        have n2B : wT.B Dl = none := by
          cases q : wT.B Dl with
          | none => rfl
          | some o =>
            rcases g2.nb Dl o q with h | h
            · rw [nB] at h; cases h
            · rw [hDl] at h; cases h.1
        have fin : ∀ (bb : Bool), (cs = [] ∧ bb = true ∨ cs = [.bl bb]) → SemTs c F cond σ2 HT fun b H3 => if b = true then SemE c F ee σ2 H3 fun y H4 => ∃ acc, H4 Dl = some (.lst acc) ∧ acc.length < sizeLine ∧
            (∃ w' S' acc' vs, Go w1 H1 w' (upd H4 Dl (.lst (acc ++ [y]))) ∧ Rel c w' S' (upd H4 Dl (.lst (acc ++ [y]))) ∧ (upd H4 Dl (.lst (acc ++ [y]))) Dl = some (.lst vs) ∧ (∀ l : Nat, w'.ρ[l]? ≠ some Dl) ∧ w'.B Dl = none ∧ RelDs c w' acc' vs ∧ ∃ rest, loopC (turnC F p cond ee env) (xs.drop (i + 1)) S' = .ok rest S2 ∧ acc' ++ rest = ys)
            else ∃ w' S' acc vs, Go w1 H1 w' H3 ∧ Rel c w' S' H3 ∧ H3 Dl = some (.lst vs) ∧ (∀ l : Nat, w'.ρ[l]? ≠ some Dl) ∧ w'.B Dl = none ∧ RelDs c w' acc vs ∧ ∃ rest, loopC (turnC F p cond ee env) (xs.drop (i + 1)) S' = .ok rest S2 ∧ acc ++ rest = ys := by
          intro bb hbb
          refine ⟨wT, S', env', cs, S5, bb, RT, RE2, h5, hbb, fun w3 H3 g3 R3 => ?_⟩
          have h3l : H3 Dl = some (.lst vs) := g3.fr Dl _ h2l n2R
          have n3R : ∀ l : Nat, w3.ρ[l]? ≠ some Dl := fun l q => by
            rcases g3.nw l Dl q with ⟨j, hj⟩ | h
            · exact n2R j hj
            · rw [h2l] at h; cases h
          have n3B : w3.B Dl = none := by
            cases q : w3.B Dl with
            | none => rfl
            | some o =>
              rcases g3.nb Dl o q with h | h
              · rw [n2B] at h; cases h
              · rw [h2l] at h; cases h.1
          have yes : bb = true → ((ev F ee env' S5).bind fun y S3 => Res.ok (some y) S3) = .ok oy S3 := by
            intro hbt
            rcases hbb with ⟨rfl, _⟩ | rfl
            · exact h3
            · subst hbt; exact h3
          cases bb with
          | true =>
            show if true = true then _ else _
            rw [if_pos rfl]
            obtain ⟨y0, S6, h6, h7⟩ := Res.bind_eq (yes rfl)
            cases h7
            refine ⟨w3, S5, env', y0, S3, R3, RE2.mono g3.le, h6, fun w4 H4 v4 g4 R4 r4 => ?_⟩
            have h4l : H4 Dl = some (.lst vs) := g4.fr Dl _ h3l n3R
            have n4R : ∀ l : Nat, w4.ρ[l]? ≠ some Dl := fun l q => by
              rcases g4.nw l Dl q with ⟨j, hj⟩ | h
              · exact n3R j hj
              · rw [h3l] at h; cases h
            have n4B : w4.B Dl = none := by
              cases q : w4.B Dl with
              | none => rfl
              | some o =>
                rcases g4.nb Dl o q with h | h
                · rw [n3B] at h; cases h
                · rw [h3l] at h; cases h.1
            have racc4 := racc.mono ((g2.trans g3).trans g4).le
            have hlen : vs.length < sizeLine := by
              have : (acc ++ y0 :: rest').length ≤ LIM := by rw [hys]; exact hz
              rw [List.length_append, List.length_cons] at this
              rw [← racc4.length]
              exact lim_lt (by omega)
            exact ⟨vs, h4l, hlen, w4, S3, acc ++ [y0], vs ++ [v4], (((g'.trans g2).trans g3).trans g4).other hD, R4.other n4B n4R, upd_same, n4R, n4B, racc4.append (.cons r4 .nil), rest', h4, by rw [List.append_assoc]; exact hys⟩
          | false =>
            show if false = true then _ else _
            rw [if_neg (by decide)]
            rcases hbb with ⟨_, h⟩ | rfl
            · cases h
            · cases h3
              exact ⟨w3, S3, acc, vs, (g'.trans g2).trans g3, R3, h3l, n3R, n3B, racc.mono (g2.trans g3).le, rest', h4, hys⟩
        match cs, h5, h3, fin with
        | [], _, _, fin => exact fin true (.inl ⟨rfl, rfl⟩)
        | [.bl true], _, _, fin => exact fin true (.inr rfl)
        | [.bl false], _, _, fin => exact fin false (.inr rfl)
  · intro H' ⟨w', S', acc, vs, g', R', hDl, nR, nB, racc, rest, hl, hys⟩
    rw [List.drop_length] at hl
    simp only [loopC] at hl
    cases hl
    rw [List.append_nil] at hys
    subst hys
    rw [if_pos hz] at hv
    have hDH : H Dl = none := g1.free R1 hD
    have nRw : ∀ l : Nat, w.ρ[l]? ≠ some Dl := R.notR hDH
    cases mu with
    | true =>
      cases hv
      refine kk (w'.more Dl) H' (.ref Dl) ?_ (R'.adoptO hDl nB nR ⟨vs, rfl, racc.mono Wd.le_more⟩) ?_
      · have g := g1.trans g'
        refine ⟨g.le.le_trans Wd.le_more, g.fr, fun l a e => ?_, g.nb⟩
        by_cases hl : l < w'.ρ.length
        · rw [show (w'.more Dl).ρ = w'.ρ ++ [Dl] from rfl, List.getElem?_append_left hl] at e; exact g.nw l a e
        · rw [show (w'.more Dl).ρ = w'.ρ ++ [Dl] from rfl, List.getElem?_append_right (by omega)] at e
          have := List.mem_of_getElem? e
          simp at this
          rw [this]; exact .inr hDH
      · simp only [RelD]
        refine ⟨Dl, ?_, rfl⟩
        show (w'.ρ ++ [Dl])[S2.length]? = some Dl
        rw [← R'.len, List.getElem?_append_right (Nat.le_refl _)]
        simp
    | false =>
      cases hv
      refine kk (w'.add Dl (.lst vs)) H' (.ref Dl) ?_ (R'.adopt hDl nB nR) ?_
      · have g := g1.trans g'
        refine ⟨g.le.le_trans (Wd.le_add nB), g.fr, g.nw, fun a o e => ?_⟩
        by_cases ha : a = Dl
        · subst ha; exact .inr ⟨hDH, nRw⟩
        · rw [show (w'.add Dl (.lst vs)).B a = w'.B a from upd_ne ha] at e; exact g.nb a o e
      · simp only [RelD]
        exact ⟨Dl, vs, rfl, (show upd w'.B Dl (.lst vs) Dl = some (.lst vs) from upd_same), racc.mono (Wd.le_add nB)⟩
theorem sem_comp {elt tg iter : Expr} {ifs : List Expr} {scope : Scope} {own : List (Str × Nat)} {pos : Pos} {mu : Bool} {p : P} {k : IK} {its cond : List E} {ee : E} (hc : X.calm = true) (hN : X.N.Nodup) (hi : PI X tg iter (SemI c F k its)) (ok : BlkOk X.N X.env.scope scope own)
    (hg : ∀ (s : Shared) (H : Hp) (C : Addr) (cl : List (Str × Addr)) (fp : List Addr), PG (X.blk s H scope (compEnvC scope cl C X.env) fp) tg (SemG c p))
    (ht : ∀ (s : Shared) (H : Hp) (C : Addr) (cl : List (Str × Addr)) (fp : List Addr), PTs (X.blk s H scope (compEnvC scope cl C X.env) fp) ifs (SemTs c F cond))
    (he : ∀ (s : Shared) (H : Hp) (C : Addr) (cl : List (Str × Addr)) (fp : List Addr), PE (X.blk s H scope (compEnvC scope cl C X.env) fp) elt (SemE c F ee)) (hs : ∀ x, foldedSetIterable iter X.env x = pure x) (how : own.map (·.2) = slotsP p) :
    PE X (.ListComp elt [⟨tg, iter, ifs, 0⟩] scope pos) (SemE c F (.comp mu p k its cond ee)) := by
  have q := pe_lc (pos := pos) hc hN hi ok hg ht he hs
  rw [how] at q
  exact PE.imp q fun σ H Q h => comp_imp h
end
end MP

/-! MP7: statements. -/
namespace MP
open PySem L2

/-- what is wanted of an outcome -/
def Want (c : Cfg) (w : Wd) (H : Hp) (Dn : Ends) : Out → Prop
  | .nx env' S' => ∀ w' σ' H', Go w H w' H' → Rel c w' S' H' → RelEnv c w' env' σ' → Dn.nx σ' H'
  | .rt d S' => ∀ w' H' v, Go w H w' H' → Rel c w' S' H' → RelD c w' d v → Dn.rt v H'
  | .bk env' S' => ∀ w' σ' H', Go w H w' H' → Rel c w' S' H' → RelEnv c w' env' σ' → Dn.bk σ' H'
  | .ct env' S' => ∀ w' σ' H', Go w H w' H' → Rel c w' S' H' → RelEnv c w' env' σ' → Dn.ct σ' H'
  | .bad => False
theorem Want.go {c : Cfg} {w w1 : Wd} {H H1 : Hp} {Dn : Ends} (g : Go w H w1 H1) : ∀ {o : Out}, Want c w H Dn o → Want c w1 H1 Dn o
  | .nx _ _, h => fun w' σ' H' g' R RE => h w' σ' H' (g.trans g') R RE
  | .rt _ _, h => fun w' H' v g' R RE => h w' H' v (g.trans g') R RE
  | .bk _ _, h => fun w' σ' H' g' R RE => h w' σ' H' (g.trans g') R RE
  | .ct _ _, h => fun w' σ' H' g' R RE => h w' σ' H' (g.trans g') R RE
  | .bad, h => h
def SemS (c : Cfg) (body : Env → Store → Out) : TS := fun Dn σ H => ∃ w S env, Rel c w S H ∧ RelEnv c w env σ ∧ Want c w H Dn (body env S)
section
variable {X : Cx} {c : Cfg} {F : Fn} {st : Stmt} {rest : List Stmt} {e : Expr} {ee : E} {pos : Pos}
theorem sem_snil : PSs X [] (SemS c (exs F [])) := PSs.imp pss_nil fun Dn σ H ⟨w, S, env, R, RE, k⟩ => by
  simp only [exs, Want] at k
  exact k w σ H Go.refl R RE
theorem sem_scons {s : SA} {r : List SA} (h1 : PS X st (SemS c (ex F s))) (h2 : PSs X rest (SemS c (exs F r))) : PSs X (st :: rest) (SemS c (exs F (s :: r))) :=
  PSs.imp (pss_cons h1 h2) fun Dn σ H ⟨w, S, env, R, RE, k⟩ => by
    simp only [exs] at k
    refine ⟨w, S, env, R, RE, ?_⟩
    cases q : ex F s env S with
    | nx env' S' =>
      rw [q] at k
      exact fun w' σ' H' g R' RE' => ⟨w', S', env', R', RE', Want.go g k⟩
    | rt d S' => rw [q] at k; exact k
    | bk env' S' => rw [q] at k; exact k
    | ct env' S' => rw [q] at k; exact k
    | bad => rw [q] at k; exact k
/-- an expression's value, then what follows -/
theorem Want.of {env : Env} {w : Wd} {S : Store} {H : Hp} {σ : St} {Dn : Ends} {f : D → Store → Out} {Q : VK} (R : Rel c w S H) (RE : RelEnv c w env σ) (h : Want c w H Dn (Out.of (ev F ee env S) f))
    (g : ∀ d1 S1 w1 H1 v1, Go w H w1 H1 → Rel c w1 S1 H1 → RelD c w1 d1 v1 → RelEnv c w1 env σ → Want c w1 H1 Dn (f d1 S1) → Q v1 H1) : SemE c F ee σ H Q := by
  cases q : ev F ee env S with
  | bad => rw [q] at h; exact h.elim
  | ok d1 S1 =>
    rw [q] at h
    exact ⟨w, S, env, d1, S1, R, RE, q, fun w1 H1 v1 g1 R1 r1 => g d1 S1 w1 H1 v1 g1 R1 r1 (RE.mono g1.le) (Want.go g1 h)⟩
theorem sem_asg {p : P} {tg : Expr} (h : PS X st (tAsg (SemE c F ee) (SemG c p))) : PS X st (SemS c (ex F (.asg p ee))) := PS.imp h fun Dn σ H ⟨w, S, env, R, RE, k⟩ => by
  simp only [ex] at k
  refine Want.of R RE k fun d1 S1 w1 H1 v1 g1 R1 r1 RE1 h1 => ?_
  cases q : bindP p d1 env with
  | none => rw [q] at h1; exact h1.elim
  | some env' =>
    rw [q] at h1
    exact ⟨w1, S1, env, d1, env', R1, RE1, r1, q, fun w2 σ2 H2 g2 R2 RE2 _ => h1 w2 σ2 H2 g2 R2 RE2⟩
/-- x = e -/
theorem asg_name {i : Nat} (h : PS X st (tAsg (SemE c F ee) (gName i))) : PS X st (SemS c (ex F (.asg (.name i) ee))) := PS.imp h fun Dn σ H ⟨w, S, env, R, RE, k⟩ => by
  simp only [ex] at k
  refine Want.of R RE k fun d1 S1 w1 H1 v1 g1 R1 r1 RE1 h1 => ?_
  simp only [bindP] at h1
  split at h1
  · rename_i env' q
    split at q
    · rename_i hi
      cases q
      exact h1 w1 _ H1 Go.refl R1 (RE1.set r1 hi)
    · cases q
  · exact h1.elim
theorem sem_setIx {o i : Expr} {eo ei : E} {p' : Pos} (he : PE X e (SemE c F ee)) (ho : PE X o (SemE c F eo)) (hi : PE X i (SemE c F ei)) (hs : swapsWithSole [.Subscript o i p'] e pos.line X.env = pure false) (hw : swappedStores [.Subscript o i p'] e X.env = pure none)
    (hns : ∀ v, assign (.Subscript o i p') X.env v = (do
      let ov ← holding [v] (eval o X.env)
      let iv ← holding [v, ov] (eval i X.env)
      standAt p'
      holding [v, ov, iv] (setItem ov iv v)
      release [v, ov, iv] [])) : PS X (.Assign [.Subscript o i p'] e pos) (SemS c (ex F (.setIx ee eo ei))) :=
  PS.imp (ps_asg he (pg_sub ho hi set_list hns) hs hw) fun Dn σ H ⟨w, S, env, R, RE, k⟩ => by
    simp only [ex] at k
    refine Want.of R RE k fun d1 S1 w1 H1 v1 g1 R1 r1 RE1 h1 => ?_
    refine Want.of R1 RE1 h1 fun d2 S2 w2 H2 v2 g2 R2 r2 RE2 h2 => ?_
    refine Want.of R2 RE2 h2 fun d3 S3 w3 H3 v3 g3 R3 r3 RE3 h3 => ?_
    cases q : setIxD d1 d2 d3 S3 with
    | none => rw [q] at h3; exact h3.elim
    | some S4 =>
      rw [q] at h3
      unfold setIxD at q
      cases d2 <;> try (cases q; done)
      rename_i l
      cases d3 <;> try (cases q; done)
      rename_i kk
      simp only at q
      split at q
      · rename_i xs hx
        rw [Option.map_eq_some_iff] at q
        obtain ⟨j, hj, rfl⟩ := q
        have r2' := r2.mono g3.le
        simp only [RelD] at r2' r3
        obtain ⟨a, ha, rfl⟩ := r2'
        obtain ⟨ys, hys, rys⟩ := R3.lst ha hx
        refine ⟨a, ys, kk, j, rfl, r3, hys, by rw [← rys.length]; exact hj, ?_⟩
        have r1' := r1.mono (g2.trans g3).le
        exact h3 w3 σ _ (Go.put ha) (R3.putL ha (rys.set r1' j)) RE3
      · cases q
theorem sem_expr (h : PE X e (SemE c F ee)) (hs : swapsWith e none pos.line X.env = pure false) : PS X (.Expr e pos) (SemS c (ex F (.expr ee))) := PS.imp (ps_expr h hs) fun Dn σ H ⟨w, S, env, R, RE, k⟩ => by
  simp only [ex] at k
  exact Want.of R RE k fun d1 S1 w1 H1 v1 g1 R1 r1 RE1 h1 => h1 w1 σ H1 Go.refl R1 RE1
theorem sem_ret (h : PE X e (SemE c F ee)) : PS X (.Return (some e) pos) (SemS c (ex F (.ret ee))) := PS.imp (ps_ret h) fun Dn σ H ⟨w, S, env, R, RE, k⟩ => by
  simp only [ex] at k
  exact Want.of R RE k fun d1 S1 w1 H1 v1 g1 R1 r1 RE1 h1 => h1 w1 H1 v1 Go.refl R1 r1
theorem sem_retN : PS X (.Return none pos) (SemS c (ex F .retN)) := PS.imp ps_retN fun Dn σ H ⟨w, S, env, R, RE, k⟩ => by
  simp only [ex, Want] at k
  exact k w H _ Go.refl R (by simp only [RelD])
theorem sem_pass : PS X (.Pass pos) (SemS c (ex F .pass)) := PS.imp ps_pass fun Dn σ H ⟨w, S, env, R, RE, k⟩ => by
  simp only [ex, Want] at k
  exact k w σ H Go.refl R RE
theorem sem_brk : PS X (.Break pos) (SemS c (ex F .brk)) := PS.imp ps_break fun Dn σ H ⟨w, S, env, R, RE, k⟩ => by
  simp only [ex, Want] at k
  exact k w σ H Go.refl R RE
theorem sem_cont : PS X (.Continue pos) (SemS c (ex F .cont)) := PS.imp ps_continue fun Dn σ H ⟨w, S, env, R, RE, k⟩ => by
  simp only [ex, Want] at k
  exact k w σ H Go.refl R RE
theorem sem_ifs {t : Expr} {et : E} {a b : List Stmt} {sa sb : List SA} (ht : PT X t (SemT c F et)) (ha : PSs X a (SemS c (exs F sa))) (hb : PSs X b (SemS c (exs F sb))) : PS X (.If t a b pos) (SemS c (ex F (.ifs et sa sb))) :=
  PS.imp (ps_if ht ha hb) fun Dn σ H ⟨w, S, env, R, RE, k⟩ => by
    simp only [ex] at k
    cases q : ev F et env S with
    | bad => rw [q] at k; exact k.elim
    | ok d1 S1 =>
      rw [q] at k
      simp only [Out.of] at k
      cases d1 <;> try exact k.elim
      rename_i bb
      refine ⟨w, S, env, bb, S1, R, RE, q, fun w1 H1 g1 R1 => ?_⟩
      cases bb with
      | true => rw [if_pos rfl]; exact ⟨w1, S1, env, R1, RE.mono g1.le, Want.go g1 k⟩
      | false => rw [if_neg (by decide)]; exact ⟨w1, S1, env, R1, RE.mono g1.le, Want.go g1 k⟩
/-- what a loop hands on -/
theorem sem_for {tg iter : Expr} {body : List Stmt} {p : P} {kk : IK} {its : List E} {sb : List SA} (hp : PassesOwn (model X.prog X.w) X.A X.env X.xe) (hc : X.calm = true) (hi : PI X tg iter (SemI c F kk its)) (hg : PG X tg (SemG c p)) (hb : PSs X body (SemS c (exs F sb)))
    (hs : ∀ x, foldedSetIterable iter X.env x = pure x) : PS X (.For tg iter body [] pos) (SemS c (ex F (.for_ p kk its sb))) :=
  PS.imp (ps_for hp hc hi hg hb hs) fun Dn σ H ⟨w, S, env, R, RE, k⟩ => by
    simp only [ex] at k
    cases q : evs F its env S with
    | bad => rw [q] at k; exact k.elim
    | ok ds S1 =>
      rw [q] at k
      simp only [Out.of] at k
      cases q2 : itD kk ds with
      | none => rw [q2] at k; exact k.elim
      | some xs =>
        rw [q2] at k
        refine ⟨w, S, env, ds, xs, S1, R, RE, q, q2, fun w1 H1 J g1 R1 wk => ?_⟩
        have k1 := Want.go g1 k
        clear k
        refine for_it (n := xs.length) (G := fun H' => ∃ w' S', w1.le w' ∧ Rel c w' S' H')
          (Y := fun i H' x H2 => ∀ w' S', w1.le w' → Rel c w' S' H' → ∃ d w2, xs[i]? = some d ∧ Go w' H' w2 H2 ∧ Rel c w2 S' H2 ∧ RelD c w2 d x)
          ⟨fun i H' hi ⟨w', S', le, R'⟩ => wk.go i w' S' H' hi le R', fun H' ⟨w', S', le, R'⟩ => wk.stop w' S' H' le R', fun i H' x H2 hi _ y w' S' le R' => wk.yld i w' S' H' x H2 hi le R' y⟩
          (fun i σ' H' => ∃ w' S' env', w1.le w' ∧ Rel c w' S' H' ∧ RelEnv c w' env' σ' ∧ Want c w' H' Dn (loopF (fun x env S => match bindP p x env with
            | none => .bad
            | some env' => exs F sb env' S) (xs.drop i) env' S'))
          ⟨w1, S1, env, w1.le_refl, R1, RE.mono g1.le, k1⟩ (fun i σ' H' _ ⟨w', S', _, le, R', _⟩ => ⟨w', S', le, R'⟩) ?_ ?_
        · intro i x σ0 H0 H' hi ⟨w', S', env0, le, R', RE', wt⟩ hY
          obtain ⟨d0, w2, hx, g2, R2, r2⟩ := hY w' S' le R'
          have hdrop : xs.drop i = d0 :: xs.drop (i + 1) := by
            obtain ⟨h1, h2⟩ := List.getElem?_eq_some_iff.mp hx
            rw [List.drop_eq_getElem_cons h1, h2]
          rw [hdrop] at wt
          simp only [loopF] at wt
          have wt2 := Want.go g2 wt
          clear wt
          cases hb : bindP p d0 env0 with
          | none => rw [hb] at wt2; exact wt2.elim
          | some env1 =>
            rw [hb] at wt2
            refine ⟨w2, S', env0, d0, env1, R2, RE'.mono g2.le, r2, hb, fun w3 σ3 H3 g3 R3 RE3 _ => ⟨w3, S', env1, R3, RE3, ?_⟩⟩
            have wt3 := Want.go g3 wt2
            clear wt2
            have le3 : w1.le w3 := (le.le_trans g2.le).le_trans g3.le
            simp only at wt3
            cases hr : exs F sb env1 S' with
            | nx env4 S4 =>
              rw [hr] at wt3
              exact fun w4 σ4 H4 g4 R4 RE4 => ⟨w4, S4, env4, le3.le_trans g4.le, R4, RE4, Want.go g4 wt3⟩
            | ct env4 S4 =>
              rw [hr] at wt3
              exact fun w4 σ4 H4 g4 R4 RE4 => ⟨w4, S4, env4, le3.le_trans g4.le, R4, RE4, Want.go g4 wt3⟩
            | bk env4 S4 => rw [hr] at wt3; exact wt3
            | rt d4 S4 => rw [hr] at wt3; exact wt3
            | bad => rw [hr] at wt3; exact wt3
        · intro σ' H' ⟨w', S', env', le, R', RE', wt⟩
          rw [List.drop_length] at wt
          simp only [loopF] at wt
          exact wt w' σ' H' Go.refl R' RE'
theorem sem_while {t : Expr} {et : E} {body : List Stmt} {sb : List SA} (hp : PassesOwn (model X.prog X.w) X.A X.env X.xe) (ht : PT X t (SemT c F et)) (hb : PSs X body (SemS c (exs F sb))) : PS X (.While t body [] pos) (SemS c (ex F (.while_ et sb))) :=
  PS.imp (ps_while hp ht hb) fun Dn σ H ⟨w, S, env, R, RE, k⟩ => by
    simp only [ex] at k
    refine ⟨fun m σ' H' => ∃ w' S' env', Rel c w' S' H' ∧ RelEnv c w' env' σ' ∧ Want c w' H' Dn (loopW (ev F et) (exs F sb) m env' S'), ⟨WN, w, S, env, R, RE, k⟩, ?_⟩
    rintro m σ0 H0 ⟨w0, S0, env0, R0, RE0, wt⟩
    cases m with
    | zero => simp only [loopW] at wt; exact wt.elim
    | succ m =>
      simp only [loopW] at wt
      cases q : ev F et env0 S0 with
      | bad => rw [q] at wt; exact wt.elim
      | ok d1 S1 =>
        rw [q] at wt
        cases d1 <;> try exact wt.elim
        rename_i bb
        refine ⟨w0, S0, env0, bb, S1, R0, RE0, q, fun w1 H1 g1 R1 => ?_⟩
        have wt1 := Want.go g1 wt
        clear wt
        cases bb with
        | false =>
          show if false = true then _ else _
          rw [if_neg (by decide)]; exact wt1 w1 σ0 H1 Go.refl R1 (RE0.mono g1.le)
        | true =>
          show if true = true then _ else _
          rw [if_pos rfl]
          refine ⟨fun σ' H' => ∃ w' S' env', Rel c w' S' H' ∧ RelEnv c w' env' σ' ∧ Want c w' H' Dn (loopW (ev F et) (exs F sb) m env' S'), fun σ' H' h => ⟨m, Nat.lt_succ_self m, h⟩, ?_⟩
          refine ⟨w1, S1, env0, R1, RE0.mono g1.le, ?_⟩
          simp only at wt1
          cases hr : exs F sb env0 S1 with
          | nx env4 S4 =>
            rw [hr] at wt1
            exact fun w4 σ4 H4 g4 R4 RE4 => ⟨w4, S4, env4, R4, RE4, Want.go g4 wt1⟩
          | ct env4 S4 =>
            rw [hr] at wt1
            exact fun w4 σ4 H4 g4 R4 RE4 => ⟨w4, S4, env4, R4, RE4, Want.go g4 wt1⟩
          | bk env4 S4 => rw [hr] at wt1; exact wt1
          | rt d4 S4 => rw [hr] at wt1; exact wt1
          | bad => rw [hr] at wt1; exact wt1
theorem sem_par {i j : Nat} {ea eb : E} (h : PS X st (tPar i j (SemA c F [ea, eb]))) : PS X st (SemS c (ex F (.par i j ea eb))) := PS.imp h fun Dn σ H ⟨w, S, env, R, RE, k⟩ => by
  simp only [ex] at k
  cases q : ev F ea env S with
  | bad => rw [q] at k; exact k.elim
  | ok d1 S1 =>
    rw [q] at k
    simp only [Out.of] at k
    cases q2 : ev F eb env S1 with
    | bad => rw [q2] at k; exact k.elim
    | ok d2 S2 =>
      rw [q2] at k
      simp only at k
      split at k
      · rename_i hij
        refine ⟨w, S, env, [d1, d2], S2, R, RE, by simp only [evs, q, q2, Res.bind_ok], fun w1 H1 vs g1 R1 rs => ?_⟩
        obtain ⟨v, u, rfl, r1, r2⟩ := rs.two
        refine ⟨v, u, rfl, ?_⟩
        exact (Want.go g1 k) w1 _ H1 Go.refl R1 (((RE.mono g1.le).set r1 hij.1).set r2 (by rw [List.length_set]; exact hij.2))
      · exact k.elim
end
end MP

/-! MP8: from the text to the plain machine's syntax; each expression so read keeps its reading. -/
namespace MP
open PySem L2

structure Info where
  N : List Str
  sc : Scope
  top : Bool
  mt : List Pos
  fn : List (Str × Nat)
  fk : List (Str × Nat × Nat × List Str)
  fv : List Nat
  gc : List (Str × D)
  gd : List (Str × List (Str × D))
  bf : List Str
def Info.gl (I : Info) (y : Str) : Bool := decide (I.sc.names.lookup y = some .globalImplicit) && !(y == ("__debug__" : Str))
def Info.slot (I : Info) (y : Str) : Option Nat := if (decide (I.sc.names.lookup y = some .local) || decide (I.sc.names.lookup y = some .cell) || decide (I.sc.names.lookup y = some .free)) && !(y == ("__debug__" : Str)) && !(y == ("__classdict__" : Str))
  then I.N.findIdx? (fun z => decide (z = y)) else none
def tyNames : List String := ["int", "str", "bool", "tuple", "list", "dict"]
def tyNameOf (y : Str) : Option String := tyNames.find? fun t => decide (y = (t : Str))
def cName (I : Info) (y : Str) : Option E := match I.slot y with
  | some i => some (.var i)
  | none => if I.gl y then (match I.gc.lookup y with
    | some d => some (.con d)
    | none => if I.bf.contains y then (tyNameOf y).map fun t => .con (.ty t) else none) else none
def cConst : Const → Option E
  | .int i => some (.con (.int i)) | .bool b => some (.con (.bl b)) | .none => some (.con .non) | .str x => some (.con (.str x))
  | _ => none
def bopOf : Operator → Option BOp
  | .Add => some .add | .Sub => some .sub | .Mult => some .mul | .FloorDiv => some .fdiv | .Mod => some .mod | .Pow => some .pow
  | _ => none
theorem bopOf_ok {op : Operator} {o : BOp} (h : bopOf op = some o) : opOf o = op := by cases op <;> simp only [bopOf] at h <;> cases h <;> rfl
def ccOf : CmpOp → Option COp
  | .Eq => some .eq | .NotEq => some .ne | .Lt => some .lt | .LtE => some .le | .Gt => some .gt | .GtE => some .ge | .In => some .inn | .NotIn => some .notin | .Is => some .is | .IsNot => some .isnot
theorem ccOf_ok {op : CmpOp} {o : COp} (h : ccOf op = some o) : copOf o = op := by cases op <;> simp only [ccOf] at h <;> cases h <;> rfl
def blts : List Blt := [.len, .isinst, .all, .any, .tuple, .list, .abs, .min, .max, .sorted, .str, .int, .repr]
def bltOf (y : Str) : Option Blt := blts.find? fun b => decide (y = ((bltName b).1 : Str))
def mths (z : Bool) : List Mth := if z then [.pop0, .upper] else [.append, .pop1, .extend, .index, .join, .update]
def mthOf (m : Str) : Option Mth := (mths false).find? fun b => match mthName b with
  | some t => decide (m = (t : Str))
  | none => false
def mthOf0 (m : Str) : Option Mth := (mths true).find? fun b => match mthName0 b with
  | some t => decide (m = (t : Str))
  | none => false
def recvOk : Expr → Bool
  | .Call (.Name _ _) [] [] _ => false
  | _ => true
def isSlice : Expr → Bool
  | .Slice _ _ _ _ => true
  | _ => false
def isComp : Expr → Bool
  | .ListComp _ _ _ _ => true | .SetComp _ _ _ _ => true | .DictComp _ _ _ _ _ => true
  | _ => false
def isSet : Expr → Bool
  | .Set _ _ _ => true
  | _ => false
def kwNames : List Keyword → Option (List Str)
  | [] => some []
  | ⟨some y, _, _⟩ :: r => (kwNames r).map fun l => y :: l
  | ⟨none, _, _⟩ :: _ => none
def starAt : List Expr → Option Nat
  | [] => none
  | .Starred _ _ :: _ => some 0
  | _ :: es => (starAt es).map (· + 1)
def unstar : Expr → Expr
  | .Starred e _ => e
  | e => e
mutual
def cP (I : Info) : Nat → Expr → Option P
  | 0, _ => none
  | n + 1, .Name y _ => (I.slot y).bind fun i => if decide (I.sc.names.lookup y = some .local) || (I.top && decide (I.sc.names.lookup y = some .cell)) then some (.name i) else none
  | n + 1, .Tuple es _ _ => match starAt es with
    | none => (cPs I n es).map .tup
    | some i => if i < es.length then (cPs I n es).map (.star i) else none
  | n + 1, _ => none
def cPs (I : Info) : Nat → List Expr → Option (List P)
  | 0, _ => none
  | n + 1, [] => some []
  | n + 1, e :: es => (cP I n (unstar e)).bind fun p => (cPs I n es).map fun ps => p :: ps
end
/-- what is known within a comprehension -/
def Info.blk (I : Info) (scope : Scope) : Info := { I with sc := relS scope I.sc, top := false }
def dictOf (I : Info) : Expr → Option (List (Str × D))
  | .Name y _ => if I.gl y then I.gd.lookup y else none
  | _ => none
def iterName (I : Info) (y : Str) : Option IK := if I.gl y && I.bf.contains y && (I.slot y).isNone then
    (if y = ("range" : Str) then some .range else if y = ("zip" : Str) then some .zip else if y = ("enumerate" : Str) then some .enum else none) else none
/-- sorted(set(a)) -/
def setArg (I : Info) (y : Str) : List Expr → Option Expr
  | [.Call (.Name z _) [a] [] _] => if y = ("sorted" : Str) ∧ z = ("set" : Str) ∧ I.gl z = true ∧ I.slot z = none ∧ I.bf.contains z = true then some a else none
  | _ => none
mutual
def cE (I : Info) : Nat → Expr → Option E
  | 0, _ => none
  | n + 1, .Name y _ => cName I y
  | n + 1, .Constant k _ _ => cConst k
  | n + 1, .Tuple es _ _ => (cEs I n es).map .tup
  | n + 1, .List es p => (cEs I n es).map fun l => if I.mt.contains p then .nlst l else .lst l
  | n + 1, .BinOp a op b p => if I.mt.contains p then (match op with
    | .Add => (cE I n a).bind fun x => (cE I n b).map fun y => .nadd x y
    | _ => none) else (bopOf op).bind fun o => (cE I n a).bind fun x => (cE I n b).map fun y => .bin o x y
  | n + 1, .Dict keys values p => if keys.isEmpty && values.isEmpty then (if I.mt.contains p then none else some .edict) else if keys.all (·.isSome) && decide (keys.length = values.length) && !keys.isEmpty && decide (keys.length ≤ 15) then (cPairs I n keys values).map fun l => if I.mt.contains p then .ndict l else .fdict l else none
  | n + 1, .UnaryOp op a _ => match op with
    | .USub => (cE I n a).map .neg
    | .Not => (cE I n a).map .not
    | _ => none
  | n + 1, .Compare a ops bs _ => cCmp I n a ops bs
  | n + 1, .BoolOp op es _ => cBool I n op es
  | n + 1, .IfExp t a b _ => (cE I n t).bind fun x => (cE I n a).bind fun y => (cE I n b).map fun z => .ite x y z
  | n + 1, .Subscript a b _ => cSub I n a b
  | n + 1, .Call f args kws pos => cCall I n f args kws pos
  | n + 1, .ListComp elt gens scope pos => cComp I n elt gens scope pos
  | _, _ => none
def cEs (I : Info) : Nat → List Expr → Option (List E)
  | 0, _ => none
  | n + 1, [] => some []
  | n + 1, e :: es => (cE I n e).bind fun x => (cEs I n es).map fun xs => x :: xs
def cPairs (I : Info) : Nat → List (Option Expr) → List Expr → Option (List E)
  | 0, _, _ => none
  | n + 1, k :: ks, v :: vs => (match k with
    | some k => (cE I n k).bind fun x => (cE I n v).bind fun y => (cPairs I n ks vs).map fun r => x :: y :: r
    | none => none)
  | n + 1, [], [] => some []
  | n + 1, _, _ => none
def cKs (I : Info) : Nat → List Keyword → Option (List E)
  | 0, _ => none
  | n + 1, [] => some []
  | n + 1, ⟨_, e, _⟩ :: es => (cE I n e).bind fun x => (cKs I n es).map fun xs => x :: xs
def cBool (I : Info) : Nat → PySem.BoolOp → List Expr → Option E
  | 0, _, _ => none
  | n + 1, op, [a] => cE I n a
  | n + 1, op, a :: b :: es => (cE I n a).bind fun x => (cBool I n op (b :: es)).map fun y => match op with
    | .And => .and x y
    | .Or => .or x y
  | n + 1, _, [] => none
def cCmp (I : Info) : Nat → Expr → List CmpOp → List Expr → Option E
  | 0, _, _, _ => none
  | n + 1, a, [op], [b] => match dictOf I b with
    | some kvs => (match op with
      | .In => (cE I n a).map (.cin false kvs)
      | .NotIn => (cE I n a).map (.cin true kvs)
      | _ => none)
    | none => if behindInMarks op b then none else (ccOf op).bind fun o => (cE I n a).bind fun x => (cE I n b).map fun y => .cmp o x y
  | n + 1, a, [op, op'], [b, cc] => if lastMarks [op, op'] [b, cc] then none else (ccOf op).bind fun o => (ccOf op').bind fun o' => (cE I n a).bind fun x => (cE I n b).bind fun y => (cE I n cc).map fun z => .chain o o' x y z
  | n + 1, _, _, _ => none
def cSub (I : Info) : Nat → Expr → Expr → Option E
  | 0, _, _ => none
  | n + 1, a, .Slice lo hi st _ => match lo, hi, st with
    | none, none, some (.UnaryOp .USub (.Constant (.int 1) _ _) _) => (cE I n a).map .rev
    | lo, hi, none => (cE I n a).bind fun x => (cPart I n lo).bind fun l => (cPart I n hi).map fun h => .sl x l h
    | _, _, _ => none
  | n + 1, a, b => match dictOf I a with
    | some kvs => (cE I n b).map (.cget kvs)
    | none => (cE I n a).bind fun x => (cE I n b).map fun y => .ix x y
def cPart (I : Info) : Nat → Option Expr → Option (List E)
  | 0, _ => none
  | n + 1, none => some []
  | n + 1, some e => (cE I n e).map fun x => [x]
def cCall (I : Info) : Nat → Expr → List Expr → List Keyword → Pos → Option E
  | 0, _, _, _, _ => none
  | n + 1, .Name y _, args, kws, pos => match kws with
    | [] => (match I.slot y with
      | some i => (match args with
        | [] => none
        | _ :: _ => (cEs I n args).map fun xs => .callv i I.fv xs)
      | none => if I.gl y then (match I.fn.lookup y with
        | some f => (cEs I n args).map (.call f)
        | none => if I.bf.contains y then (match setArg I y args with
          | some a => (cEs I n [a]).map (.blt .sset)
          | none => (bltOf y).bind fun b => (match args with
            | [] => none
            | _ :: _ => (cEs I n args).map (.blt b))) else none) else none)
    | _ :: _ => (match I.slot y with
      | some _ => none
      | none => if I.gl y then (I.fk.lookup y).bind fun f => (match args with
        | [] => none
        | _ :: _ => if args.length = f.2.1 ∧ kws.length = f.2.2.length ∧ kwNames kws = some f.2.2 then (cEs I n args).bind fun xs => (cKs I n kws).map fun ks => .callk f.1 xs ks else none) else none)
  | n + 1, .Attribute o m apos, args, kws, pos => if recvOk o && decide (args.length < 29) && decide (apos.endLine = pos.line) then (match kws with
    | [] => (match args with
      | [] => (mthOf0 m).bind fun mm => (cE I n o).map fun x => .mth mm x []
      | _ :: _ => (mthOf m).bind fun mm => (cE I n o).bind fun x => (cEs I n args).map fun xs => .mth mm x xs)
    | _ :: _ => none) else none
  | n + 1, _, _, _, _ => none
def cIter (I : Info) : Nat → Expr → Expr → Option (IK × List E)
  | 0, _, _ => none
  | n + 1, tg, .Call (.Name y p) args kws pos => match iterName I y, kws, args, tg with
    | some .range, [], [a], _ => (cEs I n [a]).map fun xs => (.range, xs)
    | some .range, [], [a, b], _ => (cEs I n [a, b]).map fun xs => (.range, xs)
    | some .zip, [], [a, b], .Tuple _ _ _ => (cEs I n [a, b]).map fun xs => (.zip, xs)
    | some .enum, [], [a], .Tuple _ _ _ => (cEs I n [a]).map fun xs => (.enum, xs)
    | some _, _, _, _ => none
    | none, _, _, _ => (cE I n (.Call (.Name y p) args kws pos)).map fun x => (.seq, [x])
  | n + 1, _, e => if isSet e then none else (cE I n e).map fun x => (.seq, [x])
def cComp (I : Info) : Nat → Expr → List Comprehension → Scope → Pos → Option E
  | 0, _, _, _, _ => none
  | n + 1, elt, gs, scope, pos => match gs with
    | [⟨tg, iter, ifs, asy⟩] => if asy = 0 then (cP (I.blk scope) n tg).bind fun p => (cIter I n tg iter).bind fun it => (cEs (I.blk scope) n ifs).bind fun cs => (cE (I.blk scope) n elt).bind fun x =>
      if blkC I.N I.sc scope ((slotsP p).map fun i => (I.N.getD i Str.empty, i)) && decide (ifs.length ≤ 1) then some (.comp (I.mt.contains pos) p it.1 it.2 cs x) else none else none
    | _ => none
end
end MP

/-! MP9: each expression that is read keeps its reading. -/
namespace MP
open PySem L2

structure Good (c : Cfg) (F : Fn) (I : Info) (X : Cx) : Prop where
  K : X.K = c.K
  calm : X.calm = true
  nd : X.N.Nodup
  N : X.N = I.N
  hu : X.A.units + 65 < cLine
  sc : X.env.scope = I.sc
  topf : I.top = true → ∀ x, X.fn x = true
  bf : ∀ x, I.bf.contains x = true → X.mg x = none
  gc : ∀ x d, I.gc.lookup x = some d → ∃ v u, X.mg x = some u ∧ RelV v u ∧ ∀ w, RelD c w d v
  gd : ∀ x kvs, I.gd.lookup x = some kvs → ∃ ad, X.mg x = some (.ref ad) ∧ KD c X ad kvs
  fn : ∀ x i, I.fn.lookup x = some i → X.mg x = some (.ref (c.fad i)) ∧ Callee c F X i
  fk : ∀ x i n ks, I.fk.lookup x = some (i, n, ks) → X.mg x = some (.ref (c.fad i)) ∧ CalleeK c F X i n ks
  fv : ∀ f ∈ I.fv, Callee c F X f
  hu2 : X.A.units + 70 < cLine
  gds : X.A.guards = some []
  sm : ∃ o, X.base.get? sysModules = some o
section
variable {c : Cfg} {F : Fn} {I : Info} {X : Cx}
theorem Good.blk (G : Good c F I X) (s : Shared) (H : Hp) (scope : Scope) (C : Addr) (cl : List (Str × Addr)) (fp : List Addr) : Good c F (I.blk scope) (X.blk s H scope (compEnvC scope cl C X.env) fp) where
  K := G.K
  calm := G.calm
  nd := G.nd
  N := G.N
  hu := G.hu
  sc := by
    show relabel scope X.env = relS scope I.sc
    rw [← G.sc]; rfl
  topf := fun h => by cases h
  bf := G.bf
  gc := G.gc
  gd := fun x kvs h => let ⟨ad, h1, h2⟩ := G.gd x kvs h; ⟨ad, h1, ⟨h2.dict, h2.get⟩⟩
  fn := fun x i h => let ⟨h1, h2⟩ := G.fn x i h; ⟨h1, ⟨h2.kp, h2.ex⟩⟩
  fk := fun x i n ks h => let ⟨h1, h2⟩ := G.fk x i n ks h; ⟨h1, ⟨h2.kp, h2.ex⟩⟩
  fv := fun f h => ⟨(G.fv f h).kp, (G.fv f h).ex⟩
  hu2 := G.hu2
  gds := G.gds
  sm := G.sm
theorem slot_ok (G : Good c F I X) {y : Str} {i : Nat} (h : I.slot y = some i) : X.N[i]? = some y ∧ Vis X.env.scope y ∧ (y == ("__debug__" : Str)) = false ∧ (y == ("__classdict__" : Str)) = false := by
  unfold Info.slot at h
  split at h
  · rename_i hc
    simp only [Bool.and_eq_true, Bool.or_eq_true, decide_eq_true_iff, Bool.not_eq_true'] at hc
    obtain ⟨⟨hv, hd⟩, hcd⟩ := hc
    refine ⟨?_, ?_, hd, hcd⟩
    · rw [G.N]
      obtain ⟨h1, h2, _⟩ := List.findIdx?_eq_some_iff_getElem.mp h
      rw [List.getElem?_eq_getElem h1]
      exact congrArg some (of_decide_eq_true h2)
    · rw [G.sc]
      rcases hv with (h | h) | h
      · exact .inl h
      · exact .inr (.inl h)
      · exact .inr (.inr h)
  · cases h
theorem gl_ok (G : Good c F I X) {y : Str} (h : I.gl y = true) : Gl X y ∧ (y == ("__debug__" : Str)) = false := by
  unfold Info.gl at h
  simp only [Bool.and_eq_true, decide_eq_true_iff, Bool.not_eq_true'] at h
  refine ⟨?_, h.2⟩
  show X.env.scope.names.lookup y = _
  rw [G.sc]; exact h.1
theorem tyName_ok {y : Str} {t : String} (h : tyNameOf y = some t) : y = (t : Str) ∧ bootBuiltins y = some (.type t) := by
  unfold tyNameOf at h
  have h1 : y = (t : Str) := of_decide_eq_true (List.find?_some (p := fun (t : String) => decide (y = (t : Str))) h)
  have h2 := List.mem_of_find?_eq_some h
  refine ⟨h1, ?_⟩
  rw [h1]
  simp only [tyNames, List.mem_cons, List.not_mem_nil, or_false] at h2
  rcases h2 with rfl | rfl | rfl | rfl | rfl | rfl <;> decide +kernel
theorem bltOf_ok {y : Str} {b : Blt} (h : bltOf y = some b) : y = ((bltName b).1 : Str) ∧ bltOk b = true := by
  unfold bltOf at h
  have h1 : y = ((bltName b).1 : Str) := of_decide_eq_true (List.find?_some (p := fun b => decide (y = ((bltName b).1 : Str))) h)
  have h2 := List.mem_of_find?_eq_some h
  refine ⟨h1, ?_⟩
  cases b <;> first | rfl | (simp [blts] at h2)
theorem mthOf_ok {y : Str} {m : Mth} (h : mthOf y = some m) : ∃ t, mthName m = some t ∧ y = (t : Str) := by
  unfold mthOf at h
  have h1 := List.find?_some h
  cases e : mthName m with
  | none => rw [e] at h1; cases h1
  | some t => rw [e] at h1; exact ⟨t, rfl, of_decide_eq_true h1⟩
theorem mthOf0_ok {y : Str} {m : Mth} (h : mthOf0 y = some m) : ∃ t, mthName0 m = some t ∧ y = (t : Str) := by
  unfold mthOf0 at h
  have h1 := List.find?_some h
  cases e : mthName0 m with
  | none => rw [e] at h1; cases h1
  | some t => rw [e] at h1; exact ⟨t, rfl, of_decide_eq_true h1⟩
def isStar : Expr → Bool
  | .Starred _ _ => true
  | _ => false
theorem star_cons {e : Expr} {es : List Expr} {env : PySem.Env} (h : isStar e = false) : starEach (e :: es) env = (false, eval e env) :: starEach es env := by
  cases e <;> first | rfl | cases h
theorem star_any {pos : Pos} {env : PySem.Env} : ∀ {es : List Expr}, (∀ e ∈ es, isStar e = false) → (backTo pos (starEach es env)).any (·.1) = false
  | [], _ => rfl
  | e :: es, h => by
    rw [star_cons (h e List.mem_cons_self)]
    show (false || (backTo pos (starEach es env)).any (·.1)) = false
    rw [star_any fun e' he => h e' (List.mem_cons_of_mem _ he)]; rfl
theorem star_all {pos : Pos} {env : PySem.Env} : ∀ {es : List Expr}, (∀ e ∈ es, isStar e = false) → (backTo pos (starEach es env)).all (fun x => !x.1) = true
  | [], _ => rfl
  | e :: es, h => by
    rw [star_cons (h e List.mem_cons_self)]
    show (true && (backTo pos (starEach es env)).all (fun x => !x.1)) = true
    rw [star_all fun e' he => h e' (List.mem_cons_of_mem _ he)]; rfl
theorem recv_ok {o : Expr} {a : Str} {env : PySem.Env} {w : Sem Value} (h : recvOk o = true) : attributeBase o a env w = w := by
  unfold attributeBase
  split
  · cases h
  · rfl
theorem ix_plain {b : Expr} (h : isSlice b = false) : PlainIx b := by
  intro o i
  cases b <;> first | rfl | cases h
theorem noStar_E {n : Nat} {x : Expr} {e : E} (h : cE I n x = some e) : isStar x = false := by
  cases x <;> try rfl
  cases n <;> simp only [cE] at h <;> cases h
theorem noStar_Es : ∀ {n : Nat} {xs : List Expr} {es : List E}, cEs I n xs = some es → ∀ x ∈ xs, isStar x = false
  | 0, _, _, h => by simp only [cEs] at h; cases h
  | n + 1, [], _, _ => fun x hx => by cases hx
  | n + 1, a :: xs, es, h => by
    simp only [cEs] at h
    rw [Option.bind_eq_some_iff] at h
    obtain ⟨e, h1, h2⟩ := h
    rw [Option.map_eq_some_iff] at h2
    obtain ⟨r, h3, _⟩ := h2
    intro x hx
    rcases List.mem_cons.mp hx with rfl | hx
    · exact noStar_E h1
    · exact noStar_Es h3 x hx
theorem cEs_len : ∀ {n : Nat} {xs : List Expr} {es : List E}, cEs I n xs = some es → es.length = xs.length
  | 0, _, _, h => by simp only [cEs] at h; cases h
  | n + 1, [], _, h => by simp only [cEs] at h; cases h; rfl
  | n + 1, a :: xs, es, h => by
    simp only [cEs] at h
    rw [Option.bind_eq_some_iff] at h
    obtain ⟨e, h1, h2⟩ := h
    rw [Option.map_eq_some_iff] at h2
    obtain ⟨r, h3, rfl⟩ := h2
    rw [List.length_cons, List.length_cons, cEs_len h3]
theorem cKs_len : ∀ {n : Nat} {xs : List Keyword} {es : List E}, cKs I n xs = some es → es.length = xs.length
  | 0, _, _, h => by simp only [cKs] at h; cases h
  | n + 1, [], _, h => by simp only [cKs] at h; cases h; rfl
  | n + 1, ⟨_, a, _⟩ :: xs, es, h => by
    simp only [cKs] at h
    rw [Option.bind_eq_some_iff] at h
    obtain ⟨e, h1, h2⟩ := h
    rw [Option.map_eq_some_iff] at h2
    obtain ⟨r, h3, rfl⟩ := h2
    rw [List.length_cons, List.length_cons, cKs_len h3]
theorem kw_facts {pos : Pos} {env : PySem.Env} : ∀ {kws : List Keyword} {ks : List Str}, kwNames kws = some ks →
    (backToKw pos (keywordEach kws env)).all (·.1.isSome) = true ∧ (backToKw pos (keywordEach kws env)).filterMap (·.1) = ks ∧ (backToKw pos (keywordEach kws env)).any (·.1.isNone) = false
  | [], ks, h => by simp only [kwNames] at h; cases h; exact ⟨rfl, rfl, rfl⟩
  | ⟨none, _, _⟩ :: r, ks, h => by simp only [kwNames] at h; cases h
  | ⟨some y, e, p⟩ :: r, ks, h => by
    simp only [kwNames, Option.map_eq_some_iff] at h
    obtain ⟨l, h1, rfl⟩ := h
    obtain ⟨a, b, d⟩ := kw_facts (pos := pos) (env := env) h1
    refine ⟨?_, ?_, ?_⟩
    · show (true && _) = true
      rw [Bool.true_and]; exact a
    · show y :: (backToKw pos (keywordEach r env)).filterMap (·.1) = y :: l
      rw [b]
    · show (false || _) = false
      rw [Bool.false_or]; exact d
/-- both readings -/
def Both (c : Cfg) (F : Fn) (X : Cx) (x : Expr) (e : E) : Prop := PE X x (SemE c F e) ∧ PT X x (SemT c F e)
/-- the plain test -/
theorem Both.plain {x : Expr} {e : E} (h : PE X x (SemE c F e)) (he : ∀ whole, isTrue x X.env whole = (do let v ← whole; standAt x.pos; holding [v] (truthy v))) : Both c F X x e := ⟨h, tst_val h he⟩
theorem tst_ite {t a b : Expr} {et ea eb : E} {pos : Pos} (ht : PT X t (SemT c F et)) (ha : PT X a (SemT c F ea)) (hb : PT X b (SemT c F eb)) : PT X (.IfExp t a b pos) (SemT c F (.ite et ea eb)) := by
  refine ⟨fun pins s σ H Q I ⟨w, S, env, bb, S', R, RE, hv, k⟩ => ?_⟩
  simp only [ev] at hv
  refine PyProof.Rows.isTrue_IfExp (thn (ht.run pins s σ H (fun kk H1 => if kk = true then SemT c F ea σ H1 Q else SemT c F eb σ H1 Q) I ?_) fun d s1 ⟨H1, I1, q1⟩ => ?_)
  · refine SemT.bind (k := fun kk S1 => match kk with | true => ev F ea env S1 | false => ev F eb env S1) R RE hv fun kk S1 w1 H1 le1 R1 RE1 h1 => ?_
    cases kk with
    | true => rw [if_pos rfl]; exact ⟨w1, S1, env, bb, S', R1, RE1, h1, fun w2 H2 le2 R2 => k w2 H2 (le1.trans le2) R2⟩
    | false => rw [if_neg (by decide)]; exact ⟨w1, S1, env, bb, S', R1, RE1, h1, fun w2 H2 le2 R2 => k w2 H2 (le1.trans le2) R2⟩
  · cases d with
    | true => exact ha.run pins s1 σ H1 Q I1 q1
    | false => exact hb.run pins s1 σ H1 Q I1 q1
end
section
variable (c : Cfg) (F : Fn)
/-- all that is read with fuel n keeps its reading -/
structure AllOk (n : Nat) : Prop where
  e : ∀ (I : Info) (x : Expr) (e : E), cE I n x = some e → ∀ X : Cx, Good c F I X → Both c F X x e
  es : ∀ (I : Info) (xs : List Expr) (es : List E), cEs I n xs = some es → ∀ X : Cx, Good c F I X → PA X xs (SemA c F es)
  ts : ∀ (I : Info) (xs : List Expr) (es : List E), cEs I n xs = some es → xs.length ≤ 1 → ∀ X : Cx, Good c F I X → PTs X xs (SemTs c F es)
  pr : ∀ (I : Info) (ks : List (Option Expr)) (vs : List Expr) (es : List E), cPairs I n ks vs = some es → ∀ (X : Cx) (pos : Pos), Good c F I X → PPs X pos ks vs (trsOf c F es)
  ks : ∀ (I : Info) (xs : List Keyword) (es : List E), cKs I n xs = some es → ∀ X : Cx, Good c F I X → PK X xs (SemA c F es)
  b : ∀ (I : Info) (op : PySem.BoolOp) (xs : List Expr) (e : E), cBool I n op xs = some e → ∀ (X : Cx) (pos : Pos), Good c F I X → PE X (.BoolOp op xs pos) (SemE c F e) ∧ PW X (.BoolOp op xs pos) (SemT c F e)
  cmp : ∀ (I : Info) (a : Expr) (ops : List CmpOp) (bs : List Expr) (e : E), cCmp I n a ops bs = some e → ∀ (X : Cx) (pos : Pos), Good c F I X → Both c F X (.Compare a ops bs pos) e
  sub : ∀ (I : Info) (a b : Expr) (e : E), cSub I n a b = some e → ∀ (X : Cx) (pos : Pos), Good c F I X → PE X (.Subscript a b pos) (SemE c F e)
  part : ∀ (I : Info) (o : Option Expr) (es : List E), cPart I n o = some es → ∀ X : Cx, Good c F I X → PO X o (SemP c F es)
  call : ∀ (I : Info) (f : Expr) (args : List Expr) (kws : List Keyword) (pos : Pos) (e : E), cCall I n f args kws pos = some e → ∀ X : Cx, Good c F I X → PE X (.Call f args kws pos) (SemE c F e)
  iter : ∀ (I : Info) (tg it : Expr) (k : IK) (es : List E), cIter I n tg it = some (k, es) → ∀ X : Cx, Good c F I X → PI X tg it (SemI c F k es) ∧ ∀ x, foldedSetIterable it X.env x = pure x
  comp : ∀ (I : Info) (elt : Expr) (gs : List Comprehension) (scope : Scope) (pos : Pos) (e : E), cComp I n elt gs scope pos = some e → ∀ X : Cx, Good c F I X → PE X (.ListComp elt gs scope pos) (SemE c F e) ∧ ∀ (i : Nat) (y : Str) (py spos : Pos), X.N[i]? = some y → X.env.scope.names.lookup y = some .local → swapsWith (.ListComp elt gs scope pos) (some (.Name y py)) spos.line X.env = pure true → PS X (.Assign [.Name y py] (.ListComp elt gs scope pos) spos) (tAsg (SemE c F e) (gName i))
  p : ∀ (I : Info) (tg : Expr) (p : P), cP I n tg = some p → ∀ X : Cx, Good c F I X → PG X tg (SemG c p)
  ps : ∀ (I : Info) (tgs : List Expr) (ps : List P), cPs I n tgs = some ps → ∀ X : Cx, Good c F I X → PGs X tgs (SemGs c ps) ∧ ps.length = tgs.length
theorem allOk_zero : AllOk c F 0 where
  e := fun I x e h => by cases x <;> simp only [cE] at h <;> cases h
  es := fun I x e h => by simp only [cEs] at h; cases h
  ts := fun I x e h => by simp only [cEs] at h; cases h
  pr := fun I x y e h => by simp only [cPairs] at h; cases h
  ks := fun I x e h => by simp only [cKs] at h; cases h
  b := fun I x y e h => by simp only [cBool] at h; cases h
  cmp := fun I x y z e h => by simp only [cCmp] at h; cases h
  sub := fun I x y e h => by simp only [cSub] at h; cases h
  part := fun I x e h => by simp only [cPart] at h; cases h
  call := fun I x y z w e h => by simp only [cCall] at h; cases h
  iter := fun I x y z e h => by simp only [cIter] at h; cases h
  comp := fun I x y z w e h => by simp only [cComp] at h; cases h
  p := fun I x e h => by simp only [cP] at h; cases h
  ps := fun I x e h => by simp only [cPs] at h; cases h
end
section
variable {c : Cfg} {F : Fn} {n : Nat}
theorem ob {α β : Type} {o : Option α} {f : α → Option β} {b : β} (h : o.bind f = some b) : ∃ a, o = some a ∧ f a = some b := Option.bind_eq_some_iff.mp h
theorem om {α β : Type} {o : Option α} {f : α → β} {b : β} (h : o.map f = some b) : ∃ a, o = some a ∧ f a = b := Option.map_eq_some_iff.mp h
theorem ok_name {I : Info} {y : Str} {p : Pos} {e : E} (h : cName I y = some e) {X : Cx} (G : Good c F I X) : Both c F X (.Name y p) e := by
  refine .plain ?_ (fun _ => rfl)
  unfold cName at h
  split at h
  · rename_i i hi
    cases h
    obtain ⟨h1, h2, h3, h4⟩ := slot_ok G hi
    exact sem_var (pe_var h1 h2 h3 h4)
  · split at h
    · rename_i hg
      obtain ⟨g1, g2⟩ := gl_ok G hg
      split at h
      · rename_i d hd
        cases h
        obtain ⟨v, u, m1, m2, m3⟩ := G.gc _ _ hd
        exact sem_con (pe_glob g1 m1 m2 g2) m3
      · split at h
        · rename_i hb
          obtain ⟨t, h1, rfl⟩ := om h
          obtain ⟨h2, h3⟩ := tyName_ok h1
          refine sem_con (v := .ty t) (pe_bltn g1 (G.bf _ hb) h3 rfl ?_ g2) fun w => by simp only [RelD]
          rw [h2]
          have := List.mem_of_find?_eq_some (show tyNames.find? _ = some t from h1)
          simp only [tyNames, List.mem_cons, List.not_mem_nil, or_false] at this
          rcases this with rfl | rfl | rfl | rfl | rfl | rfl <;> decide +kernel
        · cases h
    · cases h
theorem ok_const {k : Const} {j : Nat} {p : Pos} {e : E} (h : cConst k = some e) {X : Cx} : Both c F X (.Constant k j p) e := by
  refine .plain ?_ (fun _ => rfl)
  cases k <;> simp only [cConst] at h <;> cases h
  · exact sem_con pe_non fun w => by simp only [RelD]
  · exact sem_con pe_bl fun w => by simp only [RelD]
  · exact sem_con pe_int fun w => by simp only [RelD]
  · exact sem_con pe_str fun w => by simp only [RelD]
theorem ok_e (A : AllOk c F n) (I : Info) (x : Expr) (e : E) (h : cE I (n + 1) x = some e) (X : Cx) (G : Good c F I X) : Both c F X x e := by
  cases x <;> simp only [cE] at h <;> try (cases h; done)
  case Name y p => exact ok_name h G
  case Constant k j p => exact ok_const h
  case Tuple es k p =>
    obtain ⟨l, h1, rfl⟩ := om h
    exact .plain (sem_tup (A.es I es l h1 X G)) (fun _ => rfl)
  case List es p =>
    obtain ⟨l, h1, rfl⟩ := om h
    refine .plain ?_ (fun _ => rfl)
    split
    · exact sem_nlst (A.es I es l h1 X G)
    · exact sem_lst (A.es I es l h1 X G)
  case BinOp a op b p =>
    refine .plain ?_ (fun _ => rfl)
    split at h
    · cases op <;> simp only at h <;> try (cases h; done)
      obtain ⟨x, h2, h⟩ := ob h
      obtain ⟨y, h3, rfl⟩ := om h
      exact sem_nadd (A.e I a x h2 X G).1 (A.e I b y h3 X G).1
    · obtain ⟨o, h1, h⟩ := ob h
      obtain ⟨x, h2, h⟩ := ob h
      obtain ⟨y, h3, rfl⟩ := om h
      rw [← bopOf_ok h1]
      exact sem_bin G.K (A.e I a x h2 X G).1 (A.e I b y h3 X G).1
  case Dict keys values p =>
    split at h
    · rename_i hc
      rw [Bool.and_eq_true] at hc
      have k1 := List.isEmpty_iff.mp hc.1
      have k2 := List.isEmpty_iff.mp hc.2
      subst k1 k2
      split at h
      · cases h
      · cases h
        exact .plain sem_edict (fun _ => rfl)
    split at h
    · rename_i hc
      simp only [Bool.and_eq_true, decide_eq_true_iff, Bool.not_eq_true'] at hc
      obtain ⟨⟨⟨c1, c2⟩, c3⟩, c4⟩ := hc
      obtain ⟨l, h1, rfl⟩ := om h
      split
      · exact .plain (sem_ndict (A.pr I keys values l h1 X p G) c1 c2 (fun z => by rw [z] at c3; cases c3) c4) (fun _ => rfl)
      · exact .plain (sem_fdict (A.pr I keys values l h1 X p G) c1 c2 (fun z => by rw [z] at c3; cases c3) c4) (fun _ => rfl)
    · cases h
  case UnaryOp op a p =>
    cases op <;> simp only at h <;> try (cases h; done)
    · obtain ⟨x, h1, rfl⟩ := om h
      exact ⟨sem_not (A.e I a x h1 X G).1, tst_not (A.e I a x h1 X G).2⟩
    · obtain ⟨x, h1, rfl⟩ := om h
      exact .plain (sem_neg (A.e I a x h1 X G).1) (fun _ => rfl)
  case Compare a ops bs p => exact A.cmp I a ops bs e h X p G
  case BoolOp op es p =>
    obtain ⟨h1, h2⟩ := A.b I op es e h X p G
    exact ⟨h1, h2.pt⟩
  case IfExp t a b p =>
    obtain ⟨x, h1, h⟩ := ob h
    obtain ⟨y, h2, h⟩ := ob h
    obtain ⟨z, h3, rfl⟩ := om h
    exact ⟨sem_ite (A.e I t x h1 X G).2 (A.e I a y h2 X G).1 (A.e I b z h3 X G).1, tst_ite (A.e I t x h1 X G).2 (A.e I a y h2 X G).2 (A.e I b z h3 X G).2⟩
  case Subscript a b p => exact .plain (A.sub I a b e h X p G) (fun _ => rfl)
  case Call f args kws p => exact .plain (A.call I f args kws p e h X G) (fun _ => rfl)
  case ListComp elt gs scope p => exact .plain (A.comp I elt gs scope p e h X G).1 (fun _ => rfl)
theorem ok_es (A : AllOk c F n) (I : Info) (xs : List Expr) (es : List E) (h : cEs I (n + 1) xs = some es) (X : Cx) (G : Good c F I X) : PA X xs (SemA c F es) := by
  cases xs with
  | nil => simp only [cEs] at h; cases h; exact sem_nil
  | cons a xs =>
    have hs := noStar_Es h
    simp only [cEs] at h
    obtain ⟨x, h1, h⟩ := ob h
    obtain ⟨l, h2, rfl⟩ := om h
    exact sem_cons (A.e I a x h1 X G).1 (A.es I xs l h2 X G) (star_cons (hs a List.mem_cons_self))
theorem ok_pr (A : AllOk c F n) (I : Info) (ks : List (Option Expr)) (vs : List Expr) (es : List E) (h : cPairs I (n + 1) ks vs = some es) (X : Cx) (pos : Pos) (G : Good c F I X) : PPs X pos ks vs (trsOf c F es) := by
  match ks, vs, h with
  | [], [], h => simp only [cPairs] at h; cases h; exact pps_nil
  | some k :: ks, v :: vs, h =>
    simp only [cPairs] at h
    obtain ⟨x, h1, h⟩ := ob h
    obtain ⟨y, h2, h⟩ := ob h
    obtain ⟨l, h3, rfl⟩ := om h
    exact pps_cons (A.e I k x h1 X G).1 (A.e I v y h2 X G).1 (A.pr I ks vs l h3 X pos G)
  | none :: ks, v :: vs, h => simp only [cPairs] at h; cases h
  | [], _ :: _, h => simp only [cPairs] at h; cases h
  | _ :: _, [], h => simp only [cPairs] at h; cases h
theorem ok_ks (A : AllOk c F n) (I : Info) (xs : List Keyword) (es : List E) (h : cKs I (n + 1) xs = some es) (X : Cx) (G : Good c F I X) : PK X xs (SemA c F es) := by
  cases xs with
  | nil => simp only [cKs] at h; cases h; exact sem_knil
  | cons a xs =>
    obtain ⟨nm, ex, p⟩ := a
    simp only [cKs] at h
    obtain ⟨x, h1, h⟩ := ob h
    obtain ⟨l, h2, rfl⟩ := om h
    exact sem_kcons (A.e I ex x h1 X G).1 (A.ks I xs l h2 X G)
theorem ok_b (A : AllOk c F n) (I : Info) (op : PySem.BoolOp) (xs : List Expr) (e : E) (h : cBool I (n + 1) op xs = some e) (X : Cx) (pos : Pos) (G : Good c F I X) : PE X (.BoolOp op xs pos) (SemE c F e) ∧ PW X (.BoolOp op xs pos) (SemT c F e) := by
  match xs, h with
  | [a], h =>
    simp only [cBool] at h
    obtain ⟨h1, h2⟩ := A.e I a e h X G
    refine ⟨pe_one h1, ?_⟩
    cases op
    · exact pw_and1 h2
    · exact pw_or1 h2
  | a :: b :: es, h =>
    simp only [cBool] at h
    obtain ⟨x, h1, h⟩ := ob h
    obtain ⟨y, h2, h⟩ := om h
    obtain ⟨a1, a2⟩ := A.e I a x h1 X G
    obtain ⟨b1, b2⟩ := A.b I op (b :: es) y h2 X pos G
    cases op
    · simp only at h
      subst h
      exact ⟨sem_and a1 b1, tst_and (tb := fun _ _ _ => True) a2 b2⟩
    · simp only at h
      subst h
      exact ⟨sem_or a1 b1, tst_or a2 b2⟩
  | [], h => simp only [cBool] at h; cases h
theorem dict_ok {I : Info} {b : Expr} {kvs : List (Str × D)} (h : dictOf I b = some kvs) {X : Cx} (G : Good c F I X) : ∃ ad, KD c X ad kvs ∧ PE X b (tC (.ref ad)) ∧ ∀ op, behindInMarks op b = false := by
  cases b <;> simp only [dictOf] at h <;> try (cases h; done)
  rename_i y p
  split at h
  · rename_i hg
    obtain ⟨g1, g2⟩ := gl_ok G hg
    obtain ⟨ad, m1, m2⟩ := G.gd _ _ h
    exact ⟨ad, m2, pe_glob g1 m1 rfl g2, fun _ => rfl⟩
  · cases h
end
end MP

/-! MP9b: the steps of AllOk. -/
namespace MP
open PySem L2
section
variable {c : Cfg} {F : Fn} {X : Cx} {ea : E} {a e : Expr} {pos : Pos}
theorem cin_imp {kvs : List (Str × D)} {ad : Addr} (D : KD c X ad kvs) {σ : St} {H : Hp} {Q : VK} (h : SemE c F (.cin false kvs ea) σ H Q) :
    tOp (fun x y H Q => ∃ (z : Str) (r : Option Value), x = .str z ∧ y = .ref ad ∧ PySem.W.nsIn X.K ad z = some r ∧ Q (.bl r.isSome) H) (SemE c F ea) (tC (.ref ad)) σ H Q := by
  obtain ⟨w, S, env, d, S', R, RE, hv, k⟩ := h
  simp only [ev] at hv
  refine SemE.bind (es := ea) R RE hv fun d1 S1 w1 H1 v1 le1 R1 r1 RE1 h1 => ?_
  cases d1 <;> (try simp only at h1) <;> try (cases h1; done)
  rename_i z
  simp only [RelD] at r1
  obtain ⟨r, h2, h3⟩ := D.get z
  have k' := k w1 H1 (.bl r.isSome) le1
  cases q : lookS z kvs with
  | none =>
    rw [q] at h3 h1
    cases h1
    rw [show r = none from h3] at h2 k'
    exact ⟨z, none, r1, rfl, h2, k' R1 (by simp only [RelD]; rfl)⟩
  | some dd =>
    rw [q] at h3 h1
    obtain ⟨u, v, h3, _⟩ := h3
    cases h1
    rw [h3] at h2 k'
    exact ⟨z, some u, r1, rfl, h2, k' R1 (by simp only [RelD]; rfl)⟩
theorem cnin_imp {kvs : List (Str × D)} {ad : Addr} (D : KD c X ad kvs) {σ : St} {H : Hp} {Q : VK} (h : SemE c F (.cin true kvs ea) σ H Q) :
    tOp (fun x y H Q => ∃ (z : Str) (r : Option Value), x = .str z ∧ y = .ref ad ∧ PySem.W.nsIn X.K ad z = some r ∧ Q (.bl (!r.isSome)) H) (SemE c F ea) (tC (.ref ad)) σ H Q := by
  obtain ⟨w, S, env, d, S', R, RE, hv, k⟩ := h
  simp only [ev] at hv
  refine SemE.bind (es := ea) R RE hv fun d1 S1 w1 H1 v1 le1 R1 r1 RE1 h1 => ?_
  cases d1 <;> (try simp only at h1) <;> try (cases h1; done)
  rename_i z
  simp only [RelD] at r1
  obtain ⟨r, h2, h3⟩ := D.get z
  have k' := k w1 H1 (.bl (!r.isSome)) le1
  cases q : lookS z kvs with
  | none =>
    rw [q] at h3 h1
    cases h1
    rw [show r = none from h3] at h2 k'
    exact ⟨z, none, r1, rfl, h2, k' R1 (by simp only [RelD]; rfl)⟩
  | some dd =>
    rw [q] at h3 h1
    obtain ⟨u, v, h3, _⟩ := h3
    cases h1
    rw [h3] at h2 k'
    exact ⟨z, some u, r1, rfl, h2, k' R1 (by simp only [RelD]; rfl)⟩
theorem both_cin {kvs : List (Str × D)} {ad : Addr} (D : KD c X ad kvs) (ha : PE X a (SemE c F ea)) (hd : PE X e (tC (.ref ad))) (hm : behindInMarks .In e = false) : Both c F X (.Compare a [.In] [e] pos) (.cin false kvs ea) := by
  obtain ⟨es, n, K⟩ := D.dict
  exact ⟨PE.imp (pe_cmpR (op_in_kd K) ha hd hm) fun σ H Q h => cin_imp D h, PT.imp (pt_cmpR (op_in_kd K) ha hd hm) fun σ H Q h => cin_imp D (SemE.test h)⟩
theorem both_cnin {kvs : List (Str × D)} {ad : Addr} (D : KD c X ad kvs) (ha : PE X a (SemE c F ea)) (hd : PE X e (tC (.ref ad))) (hm : behindInMarks .NotIn e = false) : Both c F X (.Compare a [.NotIn] [e] pos) (.cin true kvs ea) := by
  obtain ⟨es, n, K⟩ := D.dict
  exact ⟨PE.imp (pe_cmpR (op_notIn_kd K) ha hd hm) fun σ H Q h => cnin_imp D h, PT.imp (pt_cmpR (op_notIn_kd K) ha hd hm) fun σ H Q h => cnin_imp D (SemE.test h)⟩
theorem tgt_consG {x : Expr} {xs : List Expr} {p : P} {ps : List P} (h : PGs X (x :: xs) (gCons (SemG c p) (SemGs c ps))) : PGs X (x :: xs) (SemGs c (p :: ps)) :=
  PGs.imp h fun vs σ H Q ⟨w, S, env, ds, env', R, RE, rd, hb, k⟩ => by
    cases ds with
    | nil => simp only [bindPs] at hb; cases hb
    | cons d ds =>
      obtain ⟨v, r, rfl, r1, r2⟩ := rd.cons_inv
      simp only [bindPs] at hb
      cases q : bindP p d env with
      | none => rw [q] at hb; cases hb
      | some env1 =>
        rw [q] at hb
        simp only [Option.bind_some] at hb
        refine ⟨v, r, rfl, w, S, env, d, env1, R, RE, r1, q, fun w1 σ1 H1 g1 R1 RE1 n1 => ⟨w1, S, env1, ds, env', R1, RE1, r2.mono g1.le, hb, fun w2 σ2 H2 g2 R2 RE2 n2 => k w2 σ2 H2 (g1.trans g2) R2 RE2 fun j hj => ?_⟩⟩
        simp only [slotsPs, List.mem_append, not_or] at hj
        rw [n2 j hj.2, n1 j hj.1]
theorem ae_len : ∀ {es : List Expr} {env : PySem.Env}, (assignEach es env).length = es.length
  | [], _ => rfl
  | e :: es, env => by
    cases e <;> exact congrArg (· + 1) ae_len
theorem ae_star : ∀ {es : List Expr} {env : PySem.Env}, (assignEach es env).findIdx? (·.1) = starAt es
  | [], _ => rfl
  | e :: es, env => by
    have ih := ae_star (es := es) (env := env)
    cases e <;> first
      | (show ((true, _) :: assignEach es env).findIdx? (·.1) = some 0
         rw [List.findIdx?_cons]; rfl)
      | (show ((false, _) :: assignEach es env).findIdx? (·.1) = (starAt es).map (· + 1)
         rw [List.findIdx?_cons, ← ih]; rfl)
end
section
variable {c : Cfg} {F : Fn} {n : Nat}
theorem ok_cmp (A : AllOk c F n) (I : Info) (a : Expr) (ops : List CmpOp) (bs : List Expr) (e : E) (h : cCmp I (n + 1) a ops bs = some e) (X : Cx) (pos : Pos) (G : Good c F I X) : Both c F X (.Compare a ops bs pos) e := by
  match ops, bs, h with
  | [op], [b], h =>
    simp only [cCmp] at h
    split at h
    · rename_i kvs hd
      obtain ⟨ad, K, hb, hm⟩ := dict_ok hd G
      split at h
      · obtain ⟨x, h1, rfl⟩ := om h
        exact both_cin K (A.e I a x h1 X G).1 hb (hm _)
      · obtain ⟨x, h1, rfl⟩ := om h
        exact both_cnin K (A.e I a x h1 X G).1 hb (hm _)
      · cases h
    · split at h
      · cases h
      · rename_i hm
        obtain ⟨o, h1, h⟩ := ob h
        obtain ⟨x, h2, h⟩ := ob h
        obtain ⟨y, h3, rfl⟩ := om h
        have ho := ccOf_ok h1
        subst ho
        have hm' := Bool.eq_false_iff.mpr hm
        exact ⟨sem_cmp G.K G.hu (A.e I a x h2 X G).1 (A.e I b y h3 X G).1 hm', tst_cmp G.K G.hu (A.e I a x h2 X G).1 (A.e I b y h3 X G).1 hm'⟩
  | [op, op'], [b, cc], h =>
    simp only [cCmp] at h
    split at h
    · cases h
    · rename_i hm
      obtain ⟨o, h1, h⟩ := ob h
      obtain ⟨o', h1', h⟩ := ob h
      obtain ⟨x, h2, h⟩ := ob h
      obtain ⟨y, h3, h⟩ := ob h
      obtain ⟨z, h4, rfl⟩ := om h
      have ho := ccOf_ok h1
      subst ho
      have ho' := ccOf_ok h1'
      subst ho'
      have hm' := Bool.eq_false_iff.mpr hm
      exact ⟨sem_chain G.K G.hu (A.e I a x h2 X G).1 (A.e I b y h3 X G).1 (A.e I cc z h4 X G).1 hm', tst_chain G.K G.hu (A.e I a x h2 X G).1 (A.e I b y h3 X G).1 (A.e I cc z h4 X G).1 hm'⟩
  | [], [], h => simp only [cCmp] at h; cases h
  | [], _ :: _, h => simp only [cCmp] at h; cases h
  | [_], [], h => simp only [cCmp] at h; cases h
  | [_], _ :: _ :: _, h => simp only [cCmp] at h; cases h
  | [_, _], [], h => simp only [cCmp] at h; cases h
  | [_, _], [_], h => simp only [cCmp] at h; cases h
  | [_, _], _ :: _ :: _ :: _, h => simp only [cCmp] at h; cases h
  | _ :: _ :: _ :: _, _, h => simp only [cCmp] at h; cases h
theorem ok_sub (A : AllOk c F n) (I : Info) (a b : Expr) (e : E) (h : cSub I (n + 1) a b = some e) (X : Cx) (pos : Pos) (G : Good c F I X) : PE X (.Subscript a b pos) (SemE c F e) := by
  by_cases hsl : isSlice b = false
  · have hb := ix_plain hsl
    have h' : (match dictOf I a with
      | some kvs => (cE I n b).map (.cget kvs)
      | none => (cE I n a).bind fun x => (cE I n b).map fun y => .ix x y) = some e := by
      cases b <;> first | (simp only [cSub] at h; exact h) | cases hsl
    clear h
    split at h'
    · rename_i kvs hd
      obtain ⟨ad, K, ha, hm⟩ := dict_ok hd G
      obtain ⟨x, h1, rfl⟩ := om h'
      exact sem_cget K (A.e I b x h1 X G).1 ha hb
    · obtain ⟨x, h1, h⟩ := ob h'
      obtain ⟨y, h2, rfl⟩ := om h
      exact sem_ix G.K G.hu (A.e I a x h1 X G).1 (A.e I b y h2 X G).1 hb
  · cases b <;> try exact absurd rfl hsl
    rename_i lo hi st p2
    simp only [cSub] at h
    split at h
    · obtain ⟨x, h1, rfl⟩ := om h
      exact sem_rev G.K (A.e I a x h1 X G).1
    · obtain ⟨x, h1, h⟩ := ob h
      obtain ⟨l, h2, h⟩ := ob h
      obtain ⟨u, h3, rfl⟩ := om h
      exact sem_sl G.K (A.e I a x h1 X G).1 (A.part I _ l h2 X G) (A.part I _ u h3 X G)
    · cases h
theorem ok_part (A : AllOk c F n) (I : Info) (o : Option Expr) (es : List E) (h : cPart I (n + 1) o = some es) (X : Cx) (G : Good c F I X) : PO X o (SemP c F es) := by
  cases o with
  | none => simp only [cPart] at h; cases h; exact part_none
  | some x =>
    simp only [cPart] at h
    obtain ⟨y, h1, rfl⟩ := om h
    exact part_some (A.e I x y h1 X G).1
theorem ok_p (A : AllOk c F n) (I : Info) (tg : Expr) (p : P) (h : cP I (n + 1) tg = some p) (X : Cx) (G : Good c F I X) : PG X tg (SemG c p) := by
  cases tg <;> try (simp only [cP] at h; cases h; done)
  case Name y pp =>
    simp only [cP] at h
    obtain ⟨i, h1, h⟩ := ob h
    split at h
    · rename_i hl
      cases h
      obtain ⟨g1, g2, _, _⟩ := slot_ok G h1
      simp only [Bool.or_eq_true, Bool.and_eq_true, decide_eq_true_iff] at hl
      have hs := G.sc
      rcases hl with hl | ⟨ht, hl⟩
      · have hl' : X.env.scope.names.lookup y = some .local := by rw [hs]; exact hl
        exact tgt_name (pg_name G.nd g1 (.inl hl') (.inr hl'))
      · have hl' : X.env.scope.names.lookup y = some .cell := by rw [hs]; exact hl
        exact tgt_name (pg_name G.nd g1 (.inr hl') (.inl (G.topf ht y)))
    · cases h
  case Tuple es k pp =>
    simp only [cP] at h
    split at h
    · rename_i hs
      obtain ⟨ps, h1, rfl⟩ := om h
      obtain ⟨g1, g2⟩ := A.ps I es ps h1 X G
      exact tgt_tup G.K G.calm g1 ae_len g2 (by rw [ae_star, hs])
    · rename_i i hs
      split at h
      · rename_i hi
        obtain ⟨ps, h1, rfl⟩ := om h
        obtain ⟨g1, g2⟩ := A.ps I es ps h1 X G
        exact tgt_star G.K G.calm g1 ae_len g2 (by rw [ae_star, hs]) hi
      · cases h
theorem ok_ps (A : AllOk c F n) (I : Info) (tgs : List Expr) (ps : List P) (h : cPs I (n + 1) tgs = some ps) (X : Cx) (G : Good c F I X) : PGs X tgs (SemGs c ps) ∧ ps.length = tgs.length := by
  cases tgs with
  | nil => simp only [cPs] at h; cases h; exact ⟨tgt_nil, rfl⟩
  | cons t ts =>
    simp only [cPs] at h
    obtain ⟨p, h1, h⟩ := ob h
    obtain ⟨qs, h2, rfl⟩ := om h
    obtain ⟨g1, g2⟩ := A.ps I ts qs h2 X G
    have g0 := A.p I _ p h1 X G
    refine ⟨?_, congrArg (· + 1) g2⟩
    cases t
    case Starred e sp => exact tgt_consG (MPS.pgs_starred g0 g1)
    all_goals exact tgt_cons g0 g1 rfl
theorem ok_ts (A : AllOk c F n) (I : Info) (xs : List Expr) (es : List E) (h : cEs I (n + 1) xs = some es) (hl : xs.length ≤ 1) (X : Cx) (G : Good c F I X) : PTs X xs (SemTs c F es) := by
  match xs, h, hl with
  | [], h, _ => simp only [cEs] at h; cases h; exact tsts_none
  | [t], h, _ =>
    simp only [cEs] at h
    obtain ⟨x, h1, h⟩ := ob h
    obtain ⟨l, h2, rfl⟩ := om h
    cases n with
    | zero => simp only [cEs] at h2; cases h2
    | succ m =>
      simp only [cEs] at h2; cases h2
      exact tsts_one (A.e I t x h1 X G).2
  | _ :: _ :: _, _, hl => simp only [List.length_cons] at hl; omega
theorem gl_iter {I : Info} {y : Str} {k : IK} (h : iterName I y = some k) {X : Cx} (G : Good c F I X) : Gl X y ∧ X.mg y = none ∧ (k = .range ∧ y = ("range" : Str) ∨ k = .zip ∧ y = ("zip" : Str) ∨ k = .enum ∧ y = ("enumerate" : Str)) := by
  unfold iterName at h
  split at h
  · rename_i hg
    simp only [Bool.and_eq_true] at hg
    obtain ⟨⟨hg, hb⟩, _⟩ := hg
    refine ⟨(gl_ok G hg).1, G.bf _ hb, ?_⟩
    split at h
    · rename_i e; cases h; exact .inl ⟨rfl, e⟩
    · split at h
      · rename_i e; cases h; exact .inr (.inl ⟨rfl, e⟩)
      · split at h
        · rename_i e; cases h; exact .inr (.inr ⟨rfl, e⟩)
        · cases h
  · cases h
theorem two_of {α : Type} {l : List α} (h : l.length = 2) : ∃ a b, l = [a, b] := by
  match l, h with
  | [a, b], _ => exact ⟨a, b, rfl⟩
theorem one_of {α : Type} {l : List α} (h : l.length = 1) : ∃ a, l = [a] := by
  match l, h with
  | [a], _ => exact ⟨a, rfl⟩
theorem pure_set {e : Expr} (h : isSet e = false) {env : PySem.Env} (x : Value) : foldedSetIterable e env x = pure x := by
  cases e <;> first | rfl | cases h
theorem ok_iter (A : AllOk c F n) (I : Info) (tg it : Expr) (k : IK) (es : List E) (h : cIter I (n + 1) tg it = some (k, es)) (X : Cx) (G : Good c F I X) : PI X tg it (SemI c F k es) ∧ ∀ x, foldedSetIterable it X.env x = pure x := by
  by_cases hc : ∃ y p args kws pos, it = .Call (.Name y p) args kws pos
  · obtain ⟨y, p, args, kws, pos, rfl⟩ := hc
    refine ⟨?_, fun _ => rfl⟩
    simp only [cIter] at h
    split at h
    · obtain ⟨xs, h1, h⟩ := om h
      cases h
      obtain ⟨g1, g2, g3⟩ := gl_iter ‹iterName I y = some IK.range› G
      rcases g3 with ⟨_, rfl⟩ | ⟨e, _⟩ | ⟨e, _⟩
      · obtain ⟨x, rfl⟩ := one_of (cEs_len h1)
        exact sem_range1 g1 g2 (A.es I _ _ h1 X G) (star_cons (noStar_Es h1 _ List.mem_cons_self))
      · cases e
      · cases e
    · obtain ⟨xs, h1, h⟩ := om h
      cases h
      obtain ⟨g1, g2, g3⟩ := gl_iter ‹iterName I y = some IK.range› G
      rcases g3 with ⟨_, rfl⟩ | ⟨e, _⟩ | ⟨e, _⟩
      · obtain ⟨x, y, rfl⟩ := two_of (cEs_len h1)
        have s2 := star_cons (es := []) (env := X.env) (noStar_Es h1 _ (List.mem_cons_of_mem _ List.mem_cons_self))
        refine sem_range2 g1 g2 (A.es I _ _ h1 X G) ?_ s2
        rw [star_cons (noStar_Es h1 _ List.mem_cons_self), s2]; rfl
      · cases e
      · cases e
    · obtain ⟨xs, h1, h⟩ := om h
      cases h
      obtain ⟨g1, g2, g3⟩ := gl_iter ‹iterName I y = some IK.zip› G
      rcases g3 with ⟨e, _⟩ | ⟨_, rfl⟩ | ⟨e, _⟩
      · cases e
      · obtain ⟨x, y, rfl⟩ := two_of (cEs_len h1)
        exact sem_zip G.K g1 g2 (A.es I _ _ h1 X G) (star_cons (noStar_Es h1 _ List.mem_cons_self)) (star_any fun e' he' => noStar_Es h1 e' (List.mem_cons_of_mem _ he'))
      · cases e
    · obtain ⟨xs, h1, h⟩ := om h
      cases h
      obtain ⟨g1, g2, g3⟩ := gl_iter ‹iterName I y = some IK.enum› G
      rcases g3 with ⟨e, _⟩ | ⟨e, _⟩ | ⟨_, rfl⟩
      · cases e
      · cases e
      · obtain ⟨x, rfl⟩ := one_of (cEs_len h1)
        exact sem_enum G.K g1 g2 (A.es I _ _ h1 X G) (star_cons (noStar_Es h1 _ List.mem_cons_self))
    · cases h
    · obtain ⟨x, h1, h⟩ := om h
      cases h
      exact sem_seq G.K (A.e I _ x h1 X G).1
  · have h' : (if isSet it then none else (cE I n it).map fun x => (IK.seq, [x])) = some (k, es) := by
      cases it <;> try (simp only [cIter] at h; exact h)
      rename_i f args kws pos
      cases f <;> try (simp only [cIter] at h; exact h)
      exact absurd ⟨_, _, _, _, _, rfl⟩ hc
    split at h'
    · cases h'
    · rename_i hs
      obtain ⟨x, h1, h⟩ := om h'
      cases h
      exact ⟨sem_seq G.K (A.e I _ x h1 X G).1, pure_set (Bool.eq_false_iff.mpr hs)⟩
theorem ok_comp (A : AllOk c F n) (I : Info) (elt : Expr) (gs : List Comprehension) (scope : Scope) (pos : Pos) (e : E) (h : cComp I (n + 1) elt gs scope pos = some e) (X : Cx) (G : Good c F I X) : PE X (.ListComp elt gs scope pos) (SemE c F e) ∧ ∀ (i : Nat) (y : Str) (py spos : Pos), X.N[i]? = some y → X.env.scope.names.lookup y = some .local → swapsWith (.ListComp elt gs scope pos) (some (.Name y py)) spos.line X.env = pure true → PS X (.Assign [.Name y py] (.ListComp elt gs scope pos) spos) (tAsg (SemE c F e) (gName i)) := by
  simp only [cComp] at h
  split at h
  · rename_i tg iter ifs asy
    split at h
    case isFalse => cases h
    rename_i h0
    subst h0
    obtain ⟨p, h1, h⟩ := ob h
    obtain ⟨⟨k, its⟩, h2, h⟩ := ob h
    obtain ⟨cs, h3, h⟩ := ob h
    obtain ⟨x, h4, h⟩ := ob h
    split at h
    · rename_i hb
      cases h
      simp only [Bool.and_eq_true, decide_eq_true_iff] at hb
      obtain ⟨hb, hl⟩ := hb
      obtain ⟨i1, i2⟩ := A.iter I tg iter k its h2 X G
      have B := blkOk_by hb
      rw [← G.N, ← G.sc] at B
      have hg := fun (s : Shared) (H : Hp) (C : Addr) (cl : List (Str × Addr)) (fp : List Addr) => A.p _ tg p h1 _ (G.blk s H scope C cl fp)
      have ht := fun (s : Shared) (H : Hp) (C : Addr) (cl : List (Str × Addr)) (fp : List Addr) => A.ts _ ifs cs h3 hl _ (G.blk s H scope C cl fp)
      have he := fun (s : Shared) (H : Hp) (C : Addr) (cl : List (Str × Addr)) (fp : List Addr) => (A.e _ elt x h4 _ (G.blk s H scope C cl fp)).1
      have how : ((slotsP p).map fun i => (X.N.getD i Str.empty, i)).map (·.2) = slotsP p := by
        rw [List.map_map]
        exact List.map_id' _
      refine ⟨sem_comp G.calm G.nd i1 B hg ht he i2 how, fun i y py spos hy hyl hsw => ?_⟩
      have q := ps_setLc (i := i) (spos := spos) G.calm G.nd hy hyl hsw i1 B hg ht he i2
      rw [how] at q
      exact PS.imp q fun D σ H h => comp_imp h
    · cases h
  · cases h
end
end MP

/-! MP9c: calls; AllOk for all. -/
namespace MP
open PySem L2
section
variable {c : Cfg} {F : Fn} {n : Nat}
theorem few_ok {cpos : Pos} {env : PySem.Env} {xs : List Expr} (h : ∀ e ∈ xs, isStar e = false) (hl : xs.length < 29) : ((backTo cpos (starEach xs env)).all (fun x => !x.1) && (backToKw cpos (keywordEach [] env)).all (fun x => x.1.isSome)
      && decide (xs.length + ([] : List Keyword).length + (if ([] : List Keyword).isEmpty then 0 else 1) < 30)) = true := by
  rw [star_all h]
  show (true && true && decide (xs.length + 0 + 0 < 30)) = true
  have : decide (xs.length + 0 + 0 < 30) = true := by rw [decide_eq_true_iff]; omega
  rw [this]; rfl
theorem setArg_ok {I : Info} {y : Str} {args : List Expr} {a : Expr} (h : setArg I y args = some a) : ∃ (z : Str) (p q : Pos), args = [.Call (.Name z p) [a] [] q] ∧ y = ("sorted" : Str) ∧ z = ("set" : Str) ∧ I.gl z = true ∧ I.slot z = none ∧ I.bf.contains z = true := by
  unfold setArg at h
  split at h
  · split at h
    · rename_i hh
      cases h
      exact ⟨_, _, _, rfl, hh⟩
    · cases h
  · cases h
theorem ok_call (A : AllOk c F n) (I : Info) (f : Expr) (args : List Expr) (kws : List Keyword) (pos : Pos) (e : E) (h : cCall I (n + 1) f args kws pos = some e) (X : Cx) (G : Good c F I X) : PE X (.Call f args kws pos) (SemE c F e) := by
  cases f <;> try (simp only [cCall] at h; cases h; done)
  case Name y p =>
    simp only [cCall] at h
    split at h
    · -- no keywords
      split at h
      · rename_i i hi
        obtain ⟨g1, g2, g3, g4⟩ := slot_ok G hi
        split at h
        · cases h
        · obtain ⟨xs, h1, rfl⟩ := om h
          exact sem_callv G.fv g1 g2 (A.es I _ xs h1 X G) g3 g4 (star_cons (noStar_Es h1 _ List.mem_cons_self)) (star_any fun e' he' => noStar_Es h1 e' (List.mem_cons_of_mem _ he'))
      · split at h
        · rename_i hg
          obtain ⟨g1, g2⟩ := gl_ok G hg
          split at h
          · rename_i i hi
            obtain ⟨m1, m2⟩ := G.fn _ _ hi
            obtain ⟨xs, h1, rfl⟩ := om h
            cases args with
            | nil =>
              have := cEs_len h1
              cases xs with
              | nil => exact sem_call0 m2 g1 m1 g2
              | cons _ _ => cases this
            | cons a es => exact sem_call m2 g1 m1 (A.es I _ xs h1 X G) g2 (star_cons (noStar_Es h1 _ List.mem_cons_self)) (star_any fun e' he' => noStar_Es h1 e' (List.mem_cons_of_mem _ he'))
          · split at h
            · rename_i hb
              split at h
              · rename_i a ha
                obtain ⟨xs, h2, rfl⟩ := om h
                obtain ⟨z, pz, qz, rfl, rfl, rfl, z1, z2, z3⟩ := setArg_ok ha
                exact sem_sset G.K G.calm g1 (G.bf _ hb) (gl_ok G z1).1 (G.bf _ z3) (A.es I _ xs h2 X G) (star_cons (noStar_Es h2 _ List.mem_cons_self))
              · obtain ⟨b, h1, h⟩ := ob h
                obtain ⟨e1, e2⟩ := bltOf_ok h1
                split at h
                · cases h
                · obtain ⟨xs, h2, rfl⟩ := om h
                  have hm := G.bf _ hb
                  subst e1
                  exact sem_blt G.K G.calm G.gds G.hu2 G.sm e2 g1 hm (A.es I _ xs h2 X G) (star_cons (noStar_Es h2 _ List.mem_cons_self)) (star_any fun e' he' => noStar_Es h2 e' (List.mem_cons_of_mem _ he'))
            · cases h
        · cases h
    · split at h
      · cases h
      · split at h
        · rename_i hg
          obtain ⟨g1, g2⟩ := gl_ok G hg
          obtain ⟨⟨i, m, ks⟩, h1, h⟩ := ob h
          obtain ⟨m1, m2⟩ := G.fk _ _ _ _ h1
          split at h
          · cases h
          · split at h
            · rename_i hh
              obtain ⟨h3, h4, h5⟩ := hh
              obtain ⟨xs, h6, h⟩ := ob h
              obtain ⟨zs, h7, rfl⟩ := om h
              obtain ⟨k1, k2, k3⟩ := kw_facts (pos := pos) (env := X.env) h5
              refine sem_callk m2 g1 m1 (A.es I _ xs h6 X G) (A.ks I _ zs h7 X G) (by rw [cEs_len h6]; exact h3) (by rw [cKs_len h7]; exact h4) k1 k2 g2 (star_cons (noStar_Es h6 _ List.mem_cons_self)) ?_
              rw [star_any (noStar_Es h6), k3]; rfl
            · cases h
        · cases h
  case Attribute o m apos =>
    simp only [cCall] at h
    split at h
    · rename_i hh
      simp only [Bool.and_eq_true, decide_eq_true_iff] at hh
      obtain ⟨⟨h1, h2⟩, h3⟩ := hh
      have hline : (apos.endLine == pos.line) = true := beq_iff_eq.mpr h3
      split at h
      · split at h
        · obtain ⟨mm, h4, h⟩ := ob h
          obtain ⟨x, h5, rfl⟩ := om h
          obtain ⟨t, t1, rfl⟩ := mthOf0_ok h4
          exact sem_mth0 G.K t1 (A.e I o x h5 X G).1 (recv_ok h1) hline
        · obtain ⟨mm, h4, h⟩ := ob h
          obtain ⟨x, h5, h⟩ := ob h
          obtain ⟨xs, h6, rfl⟩ := om h
          obtain ⟨t, t1, rfl⟩ := mthOf_ok h4
          exact sem_mth G.K t1 (A.e I o x h5 X G).1 (A.es I _ xs h6 X G) (recv_ok h1) (few_ok (noStar_Es h6) h2) hline (star_cons (noStar_Es h6 _ List.mem_cons_self)) (star_any fun e' he' => noStar_Es h6 e' (List.mem_cons_of_mem _ he'))
      · cases h
    · cases h
theorem allOk : ∀ n : Nat, AllOk c F n
  | 0 => allOk_zero c F
  | n + 1 =>
    have A := allOk n
    { e := ok_e A, es := ok_es A, ts := ok_ts A, pr := ok_pr A, ks := ok_ks A, b := ok_b A, cmp := ok_cmp A, sub := ok_sub A, part := ok_part A, call := ok_call A, iter := ok_iter A, comp := ok_comp A, p := ok_p A, ps := ok_ps A }
end
end MP

/-! MP10: statements and defs from the text. -/
namespace MP
open PySem L2
def isTup : Expr → Bool
  | .Tuple _ _ _ => true
  | _ => false
def isStarE : Expr → Bool
  | .Starred _ _ => true
  | _ => false
/-- the store within a comprehension's own turn (name = [..]) -/
def swB (I : Info) (y : Str) (py pos : Pos) (scope : Scope) : Bool := decide (I.sc.names.lookup y = some .local) && (py.line == pos.line) && !(scope.names.any fun (n, k) => n == y && (k == .local || k == .cell))
def parOk (I : Info) (x y : Str) (px py : Pos) (a b : Expr) : Bool := decide (I.sc.names.lookup x = some .local) && decide (I.sc.names.lookup y = some .local) && decide (py.line = px.line) && !decide (x = y) && !isStarE a && !isStarE b && !([a, b].all (foldedForSure 8)) && !([a, b].all (constantsAlone 8))
def cAsg (I : Info) (n : Nat) (tg v : Expr) : Option SA := match tg with
  | .Name y py => (match v with
    | .ListComp elt gs scope pos => if swB I y py pos scope then (cComp I n elt gs scope pos).bind fun e => (I.slot y).map fun i => .asg (.name i) e else none
    | v => if isComp v then none else (cE I n v).bind fun e => (cP I n (.Name y py)).map fun p => .asg p e)
  | .Subscript o i _ => if isComp v || isSlice i then none else (cE I n v).bind fun e => (cE I n o).bind fun x => (cE I n i).map fun y => .setIx e x y
  | .Tuple ts k pt => (match ts, v with
    | [.Name x px, .Name y py], .Tuple [a, b] _ _ => if parOk I x y px py a b then (I.slot x).bind fun i => (I.slot y).bind fun j => (cE I n a).bind fun ea => (cE I n b).map fun eb => .par i j ea eb else none
    | ts, v => if isTup v || isComp v then none else (cE I n v).bind fun e => (cP I n (.Tuple ts k pt)).map fun p => .asg p e)
  | _ => none
mutual
def cS (I : Info) : Nat → Stmt → Option SA
  | 0, _ => none
  | n + 1, .Assign tgs v _ => (match tgs with
    | [tg] => cAsg I n tg v
    | _ => none)
  | n + 1, .Expr e _ => if isComp e then none else (cE I n e).map .expr
  | n + 1, .Return o _ => (match o with
    | some e => (cE I n e).map .ret
    | none => some .retN)
  | n + 1, .If t a b _ => (cE I n t).bind fun x => (cSs I n a).bind fun y => (cSs I n b).map fun z => .ifs x y z
  | n + 1, .For tg it body orelse _ => (match orelse with
    | [] => (cP I n tg).bind fun p => (cIter I n tg it).bind fun k => (cSs I n body).map fun b => .for_ p k.1 k.2 b
    | _ => none)
  | n + 1, .While t body orelse _ => (match orelse with
    | [] => (cE I n t).bind fun x => (cSs I n body).map fun b => .while_ x b
    | _ => none)
  | n + 1, .Pass _ => some .pass
  | n + 1, .Break _ => some .brk
  | n + 1, .Continue _ => some .cont
  | n + 1, _ => none
def cSs (I : Info) : Nat → List Stmt → Option (List SA)
  | 0, _ => none
  | n + 1, [] => some []
  | n + 1, s :: r => (cS I n s).bind fun x => (cSs I n r).map fun y => x :: y
end
section
variable {c : Cfg} {F : Fn} {I : Info} {X : Cx}
theorem sw_plain {v : Expr} (h : isComp v = false) {t : Option Expr} {l : Nat} {env : PySem.Env} : swapsWith v t l env = pure false := by
  cases v <;> first | rfl | cases h
theorem sws_plain {tg v : Expr} (h : isComp v = false) {l : Nat} {env : PySem.Env} : swapsWithSole [tg] v l env = pure false := sw_plain h
theorem swst_tup {ts : List Expr} {k : Nat} {pt : Pos} {v : Expr} (h : isTup v = false) {env : PySem.Env} : swappedStores [.Tuple ts k pt] v env = pure none := by
  cases v <;> first | rfl | cases h
theorem swst_other {tg v : Expr} (h : isTup tg = false) (h2 : ∀ es p, tg ≠ .List es p) {env : PySem.Env} : swappedStores [tg] v env = pure none := by
  cases tg <;> first | rfl | exact (Bool.noConfusion (show true = false from h)) | exact absurd rfl (h2 _ _)
theorem par_ok {x y : Str} {px py pt pt2 : Pos} {k k2 : Nat} {a b : Expr} {env : PySem.Env} (hk : env.scope.kind = .function) (h : parOk I x y px py a b = true) (hs : env.scope = I.sc) :
    swappedStores [.Tuple [.Name x px, .Name y py] k pt] (.Tuple [a, b] k2 pt2) env = pure (some [x, y]) ∧ x ≠ y ∧ env.scope.names.lookup x = some .local ∧ env.scope.names.lookup y = some .local := by
  unfold parOk at h
  simp only [Bool.and_eq_true, decide_eq_true_iff, Bool.not_eq_true', decide_eq_false_iff_not] at h
  obtain ⟨⟨⟨⟨⟨⟨⟨h1, h2⟩, h3⟩, h4⟩, h5⟩, h6⟩, h7⟩, h8⟩ := h
  refine ⟨?_, h4, by rw [hs]; exact h1, by rw [hs]; exact h2⟩
  have kx : env.kindOf x = some .local := by show env.scope.names.lookup x = _; rw [hs]; exact h1
  have ky : env.kindOf y = some .local := by show env.scope.names.lookup y = _; rw [hs]; exact h2
  have hb : env.blockKind = .function := by unfold Env.blockKind; rw [hk]; rfl
  have hst : ([a, b].any fun | .Starred .. => true | _ => false) = false := by
    cases a <;> cases b <;> first | rfl | exact (Bool.noConfusion (show true = false from h5)) | exact (Bool.noConfusion (show true = false from h6))
  have hxy : (x == y) = false := beq_eq_false_iff_ne.mpr h4
  have hyx : (y == x) = false := beq_eq_false_iff_ne.mpr (Ne.symm h4)
  unfold swappedStores
  simp only [hb, hst, kx, ky, h7, h8, List.length_cons, List.length_nil]
  simp [List.filterMap, kx, ky, Expr.pos, h3, hst, List.eraseDups, List.eraseDupsBy, List.eraseDupsBy.loop, hxy, hyx]
  intro hh
  exfalso
  simp only [List.any_cons, List.any_nil, Bool.or_false, Bool.or_eq_false_iff] at hst
  rcases hh with hh | hh
  · exact Bool.noConfusion (hh.symm.trans hst.1)
  · exact Bool.noConfusion (hh.symm.trans hst.2)
structure TopX (X : Cx) : Prop where
  kind : X.env.scope.kind = .function
  pass : PassesOwn (model X.prog X.w) X.A X.env X.xe
theorem par_ne {x y : Str} {i j : Nat} {N : List Str} (hx : N[i]? = some x) (hy : N[j]? = some y) (h : x ≠ y) : i ≠ j := by
  rintro rfl
  rw [hx] at hy
  exact h (Option.some.inj hy)
theorem sub_plain {o i : Expr} {p : Pos} {env : PySem.Env} (h : isSlice i = false) : ∀ v, assign (.Subscript o i p) env v = (do
      let ov ← holding [v] (eval o env)
      let iv ← holding [v, ov] (eval i env)
      standAt p
      holding [v, ov, iv] (setItem ov iv v)
      release [v, ov, iv] []) := by
  intro v
  cases i <;> first | rfl | exact (Bool.noConfusion (show true = false from h))
theorem asg_ok {n : Nat} {tg v : Expr} {sa : SA} (h : cAsg I n tg v = some sa) {pos : Pos} (G : Good c F I X) (T : TopX X) : PS X (.Assign [tg] v pos) (SemS c (ex F sa)) := by
  have A := allOk (c := c) (F := F) n
  cases tg <;> try (simp only [cAsg] at h; cases h; done)
  case Name y py =>
    by_cases hc : ∃ elt gs scope p, v = .ListComp elt gs scope p
    · obtain ⟨elt, gs, scope, p, rfl⟩ := hc
      simp only [cAsg] at h
      split at h
      · rename_i hb
        unfold swB at hb
        simp only [Bool.and_eq_true, decide_eq_true_iff, Bool.not_eq_true'] at hb
        obtain ⟨⟨hb1, hb2⟩, hb3⟩ := hb
        obtain ⟨e, h1, h⟩ := ob h
        obtain ⟨i, h2, rfl⟩ := om h
        obtain ⟨g1, g2, _, _⟩ := slot_ok G h2
        have hl : X.env.scope.names.lookup y = some .local := by rw [G.sc]; exact hb1
        exact asg_name ((A.comp I elt gs scope p e h1 X G).2 i y py pos g1 hl (sw_true T.kind hl hb2 hb3))
      · cases h
    · have h' : (if isComp v then none else (cE I n v).bind fun e => (cP I n (.Name y py)).map fun p => SA.asg p e) = some sa := by
        cases v <;> first | (simp only [cAsg] at h; exact h) | exact absurd ⟨_, _, _, _, rfl⟩ hc
      split at h'
      · cases h'
      · rename_i hv
        obtain ⟨e, h1, h⟩ := ob h'
        obtain ⟨p, h2, rfl⟩ := om h
        exact sem_asg (tg := .Name y py) (ps_asg (A.e I v e h1 X G).1 (A.p I _ p h2 X G) (sws_plain (Bool.eq_false_iff.mpr hv)) rfl)
  case Subscript o i p =>
    simp only [cAsg] at h
    split at h
    · cases h
    · rename_i hv
      simp only [Bool.or_eq_true, not_or, Bool.not_eq_true] at hv
      obtain ⟨e, h1, h⟩ := ob h
      obtain ⟨x, h2, h⟩ := ob h
      obtain ⟨y, h3, rfl⟩ := om h
      exact sem_setIx (A.e I v e h1 X G).1 (A.e I o x h2 X G).1 (A.e I i y h3 X G).1 (sws_plain hv.1) rfl (sub_plain hv.2)
  case Tuple ts k pt =>
    simp only [cAsg] at h
    split at h
    · split at h
      · rename_i hp
        obtain ⟨p1, p2, p3, p4⟩ := par_ok T.kind hp G.sc
        obtain ⟨i, h1, h⟩ := ob h
        obtain ⟨j, h2, h⟩ := ob h
        obtain ⟨ea, h3, h⟩ := ob h
        obtain ⟨eb, h4, rfl⟩ := om h
        obtain ⟨g1, _, _, _⟩ := slot_ok G h1
        obtain ⟨g2, _, _, _⟩ := slot_ok G h2
        refine sem_par (ps_par G.calm G.nd g1 g2 (par_ne g1 g2 p2) p3 p4 ?_ p1 rfl)
        exact sem_cons (A.e I _ ea h3 X G).1 (sem_cons (A.e I _ eb h4 X G).1 sem_nil (star_cons (noStar_E h4))) (star_cons (noStar_E h3))
      · cases h
    · split at h
      · cases h
      · rename_i hv
        simp only [Bool.or_eq_true, not_or, Bool.not_eq_true] at hv
        obtain ⟨e, h1, h⟩ := ob h
        obtain ⟨p, h2, rfl⟩ := om h
        exact sem_asg (tg := .Tuple ts k pt) (ps_asg (A.e I v e h1 X G).1 (A.p I _ p h2 X G) (sws_plain hv.2) (swst_tup hv.1))
end
section
variable (c : Cfg) (F : Fn)
structure AllS (n : Nat) : Prop where
  s : ∀ (I : Info) (st : Stmt) (sa : SA), cS I n st = some sa → ∀ X : Cx, Good c F I X → TopX X → PS X st (SemS c (ex F sa))
  ss : ∀ (I : Info) (st : List Stmt) (sa : List SA), cSs I n st = some sa → ∀ X : Cx, Good c F I X → TopX X → PSs X st (SemS c (exs F sa))
end
theorem allS {c : Cfg} {F : Fn} : ∀ n : Nat, AllS c F n
  | 0 => ⟨fun I st sa h => (by simp only [cS] at h; cases h), fun I st sa h => (by simp only [cSs] at h; cases h)⟩
  | n + 1 => by
    have B := allS (c := c) (F := F) n
    have A := allOk (c := c) (F := F) n
    refine ⟨fun I st sa h X G T => ?_, fun I st sa h X G T => ?_⟩
    · cases st <;> try (simp only [cS] at h; cases h; done)
      case Assign tgs v pos =>
        simp only [cS] at h
        split at h
        · exact asg_ok h G T
        · cases h
      case Expr e pos =>
        simp only [cS] at h
        split at h
        · cases h
        · rename_i hv
          obtain ⟨x, h1, rfl⟩ := om h
          exact sem_expr (A.e I e x h1 X G).1 (sw_plain (Bool.eq_false_iff.mpr hv))
      case Return o pos =>
        simp only [cS] at h
        split at h
        · obtain ⟨x, h1, rfl⟩ := om h
          exact sem_ret (A.e I _ x h1 X G).1
        · cases h; exact sem_retN
      case If t a b pos =>
        simp only [cS] at h
        obtain ⟨x, h1, h⟩ := ob h
        obtain ⟨y, h2, h⟩ := ob h
        obtain ⟨z, h3, rfl⟩ := om h
        exact sem_ifs (A.e I t x h1 X G).2 (B.ss I a y h2 X G T) (B.ss I b z h3 X G T)
      case For tg it body orelse pos =>
        simp only [cS] at h
        split at h
        · obtain ⟨p, h1, h⟩ := ob h
          obtain ⟨⟨k, its⟩, h2, h⟩ := ob h
          obtain ⟨b, h3, rfl⟩ := om h
          obtain ⟨i1, i2⟩ := A.iter I tg it k its h2 X G
          exact sem_for T.pass G.calm i1 (A.p I tg p h1 X G) (B.ss I body b h3 X G T) i2
        · cases h
      case While t body orelse pos =>
        simp only [cS] at h
        split at h
        · obtain ⟨x, h1, h⟩ := ob h
          obtain ⟨b, h3, rfl⟩ := om h
          exact sem_while T.pass (A.e I t x h1 X G).2 (B.ss I body b h3 X G T)
        · cases h
      case Pass => simp only [cS] at h; cases h; exact sem_pass
      case Break => simp only [cS] at h; cases h; exact sem_brk
      case Continue => simp only [cS] at h; cases h; exact sem_cont
    · cases st with
      | nil => simp only [cSs] at h; cases h; exact sem_snil
      | cons s r =>
        simp only [cSs] at h
        obtain ⟨x, h1, h⟩ := ob h
        obtain ⟨y, h2, rfl⟩ := om h
        exact sem_scons (B.s I s x h1 X G T) (B.ss I r y h2 X G T)
end MP

/-! MP11: a table of defs; each keeps the plain machine's promise. -/
namespace MP
open PySem L2

/-! ### constants of the module -/
mutual
def relDB (K : PySem.W.Frag) (fad : Nat → Addr) : D → Value → Bool
  | .non, .none => true
  | .bl b, .bool e => b == e
  | .int i, .int j _ => decide (i = j)
  | .str x, .str y _ => decide (x = y)
  | .ty n, .type m => decide (n = m)
  | .fn i, .ref a => decide (fad i = a)
  | .tup xs, .ref a => (match K.lookup a with
    | some ⟨.type t, _, .seq its _, _⟩ => decide (t = "tuple") && decide (its.size ≤ sizeLine) && relDBs K fad xs its.toList
    | _ => false)
  | _, _ => false
def relDBs (K : PySem.W.Frag) (fad : Nat → Addr) : List D → List Value → Bool
  | [], [] => true
  | d :: ds, u :: us => relDB K fad d u && relDBs K fad ds us
  | _, _ => false
end
mutual
theorem relDB_ok {c : Cfg} : ∀ (d : D) (u : Value), relDB c.K c.fad d u = true → ∃ v, RelV v u ∧ ∀ w, RelD c w d v
  | .non, u, h => by
    cases u <;> simp only [relDB] at h <;> try (cases h; done)
    exact ⟨.non, rfl, fun w => by simp only [RelD]⟩
  | .bl b, u, h => by
    cases u <;> simp only [relDB] at h <;> try (cases h; done)
    rw [← eq_of_beq h]
    exact ⟨.bl b, rfl, fun w => by simp only [RelD]⟩
  | .int i, u, h => by
    cases u <;> simp only [relDB] at h <;> try (cases h; done)
    rw [← of_decide_eq_true h]
    exact ⟨.int i, ⟨_, rfl⟩, fun w => by simp only [RelD]⟩
  | .str x, u, h => by
    cases u <;> simp only [relDB] at h <;> try (cases h; done)
    rw [← of_decide_eq_true h]
    exact ⟨.str x, ⟨_, rfl⟩, fun w => by simp only [RelD]⟩
  | .ty n, u, h => by
    cases u <;> simp only [relDB] at h <;> try (cases h; done)
    rw [← of_decide_eq_true h]
    exact ⟨.ty n, rfl, fun w => by simp only [RelD]⟩
  | .fn i, u, h => by
    cases u <;> simp only [relDB] at h <;> try (cases h; done)
    rw [← of_decide_eq_true h]
    exact ⟨.ref (c.fad i), rfl, fun w => by simp only [RelD]⟩
  | .tup xs, u, h => by
    cases u <;> simp only [relDB] at h <;> try (cases h; done)
    rename_i a
    split at h
    · rename_i t od its n sl q
      simp only [Bool.and_eq_true, decide_eq_true_iff] at h
      obtain ⟨⟨rfl, h2⟩, h3⟩ := h
      obtain ⟨vs, r, k⟩ := relDBs_ok xs its.toList h3
      exact ⟨.ref a, rfl, fun w => by simp only [RelD]; exact ⟨a, vs, rfl, .inr ⟨_, its, n, q, rfl, rfl, h2, r⟩, k w⟩⟩
    · cases h
  | .lst _, u, h => by cases u <;> simp only [relDB] at h <;> cases h
  | .scr _, u, h => by cases u <;> simp only [relDB] at h <;> cases h
  | .ref _, u, h => by cases u <;> simp only [relDB] at h <;> cases h
  | .dct _ _, u, h => by cases u <;> simp only [relDB] at h <;> cases h
theorem relDBs_ok {c : Cfg} : ∀ (ds : List D) (us : List Value), relDBs c.K c.fad ds us = true → ∃ vs, Vals vs us ∧ ∀ w, RelDs c w ds vs
  | [], us, h => by
    cases us <;> simp only [relDBs] at h <;> try (cases h; done)
    exact ⟨[], .nil, fun w => .nil⟩
  | d :: ds, us, h => by
    cases us <;> simp only [relDBs] at h <;> try (cases h; done)
    rename_i u us
    simp only [Bool.and_eq_true] at h
    obtain ⟨v, r1, k1⟩ := relDB_ok d u h.1
    obtain ⟨vs, r2, k2⟩ := relDBs_ok ds us h.2
    exact ⟨v :: vs, .cons r1 r2, fun w => .cons (k1 w) (k2 w)⟩
end

/-! ### the table -/
structure DefT where
  nm : Str
  qual : Str
  params : Arguments
  body : List Stmt
  scope : Scope
  N : List Str
  ps : List Str
  mt : List Pos
  kn : Option (Nat × List Str)
  fd : FD
structure Glob where
  fn : List (Str × Nat)
  fk : List (Str × Nat × Nat × List Str)
  fv : List Nat
  gc : List (Str × D)
  gd : List (Str × List (Str × D))
  bf : List Str
def infoOf (g : Glob) (d : DefT) : Info := ⟨d.N, d.scope, true, d.mt, g.fn, g.fk, g.fv, g.gc, g.gd, g.bf⟩
def fadOf (K : PySem.W.Frag) (ds : List DefT) (i : Nat) : Addr := match ds[i]? with
  | some d => He.ga K d.nm
  | none => 0
def cfgOf (K : PySem.W.Frag) (ds : List DefT) : Cfg := ⟨K, fadOf K ds⟩
/-- what is checked of the table itself -/
def tabOk (g : Glob) (ds : List DefT) : Bool :=
  (g.fn.all fun p => match ds[p.2]? with
    | some d => decide (d.nm = p.1) && d.kn.isNone
    | none => false) &&
  (g.fk.all fun p => match ds[p.2.1]? with
    | some d => decide (d.nm = p.1) && decide (d.kn = some p.2.2)
    | none => false) &&
  (g.fv.all fun i => match ds[i]? with
    | some d => d.kn.isNone
    | none => false) &&
  (ds.all fun d => decide (d.fd.ps = d.ps.length) && decide (d.fd.ns = d.N.length))
structure KDm (K : PySem.W.Frag) (W : World) (c : Cfg) (a : Addr) (kvs : List (Str × D)) : Prop where
  dict : ∃ es n, KDict K W a es n
  get : ∀ z : Str, ∃ r, PySem.W.nsIn K a z = some r ∧ match lookS z kvs with
    | none => r = none
    | some d => ∃ u v, r = some u ∧ RelV v u ∧ ∀ w, RelD c w d v
structure Fc (W : World) (K : PySem.W.Frag) (mg : Str → Option Value) (g : Glob) (ds : List DefT) : Prop where
  fun_ : ∀ (i : Nat) (d : DefT), ds[i]? = some d → ∃ fd, FunD K d.nm d.qual d.params d.body d.scope [] [] (He.ga K d.nm) fd
  mgf : ∀ (i : Nat) (d : DefT), ds[i]? = some d → mg d.nm = some (.ref (He.ga K d.nm))
  gc : ∀ x d, g.gc.lookup x = some d → ∃ u, mg x = some u ∧ relDB K (fadOf K ds) d u = true
  gd : ∀ x kvs, g.gd.lookup x = some kvs → ∃ ad, mg x = some (.ref ad) ∧ KDm K W (cfgOf K ds) ad kvs
  bf : ∀ x, g.bf.contains x = true → mg x = none
  sm : ∃ o, K.lookup sysModules = some o
/-- how a def's parameters are bound -/
def BindT (d : DefT) : Prop := match d.kn with
  | none => ∀ (kV doc pm : Value) (an : Option Addr) (cdv ct : Value) (us : List Value), us.length = d.ps.length → bindArgs (PySem.W.fnOf d.nm d.qual d.params d.body d.scope .none kV doc pm an cdv ct) ⟨us, []⟩ = pure (d.ps.zip us)
  | some (n, ks) => ∀ (kV doc pm : Value) (an : Option Addr) (cdv ct : Value) (us ws : List Value), us.length = n → ws.length = ks.length → bindArgs (PySem.W.fnOf d.nm d.qual d.params d.body d.scope .none kV doc pm an cdv ct) ⟨us, ks.zip ws⟩ = pure (d.ps.zip (us ++ ws))
structure DefOk (g : Glob) (d : DefT) : Prop where
  sc : FnScope d.N d.ps d.scope
  bind : BindT d
  comp : ∃ n, cSs (infoOf g d) n d.body = some d.fd.body
theorem FunD.kbn {K : PySem.W.Frag} {x qual : Str} {params : Arguments} {body : List Stmt} {scope : Scope} {f : Addr} {fd : FuncData} {ps ks : List Str} {n : Nat} (F : FunD K x qual params body scope [] [] f fd)
    (h : ∀ (kV doc pm : Value) (an : Option Addr) (cdv ct : Value) (us ws : List Value), us.length = n → ws.length = ks.length → bindArgs (PySem.W.fnOf x qual params body scope .none kV doc pm an cdv ct) ⟨us, ks.zip ws⟩ = pure (ps.zip (us ++ ws))) : KBn K fd ps n ks (fun us ws => us ++ ws) (fun us ws => us ++ ws) := by
  obtain ⟨oc, od, dV, kV, doc, pm, an, cdv, ct, osl, rfl, lk, hcd, hD, hK⟩ := F.ex
  rcases hD with ⟨_, rfl⟩ | ⟨e, _⟩
  · exact ⟨fun s us ws _ h1 h2 => .of_eq (h kV doc pm an cdv ct us ws h1 h2), fun r1 r2 => r1.append r2⟩
  · exact absurd rfl e
theorem lookup_mem {α β : Type} [BEq α] [LawfulBEq α] {x : α} {b : β} : ∀ {l : List (α × β)}, l.lookup x = some b → (x, b) ∈ l
  | [], h => by cases h
  | (y, c) :: r, h => by
    rw [List.lookup_cons] at h
    split at h
    · rename_i e
      cases h
      rw [eq_of_beq e]
      exact List.mem_cons_self
    · exact List.mem_cons_of_mem _ (lookup_mem h)
theorem startE_rel {c : Cfg} {w : Wd} {ds : List D} {vs : List V} {N : List Str} (r : RelDs c w ds vs) : RelEnv c w (startE ds N.length) (L2.start N vs) := by
  unfold startE L2.start
  have hl := r.length
  refine ⟨by simp [hl], fun i d h => ?_⟩
  by_cases hi : i < ds.length
  · rw [List.getElem?_append_left (by simpa using hi), List.getElem?_map] at h
    obtain ⟨d', h1, h2⟩ := Option.map_eq_some_iff.mp h
    cases h2
    obtain ⟨v, h3, h4⟩ := r.get h1
    exact ⟨v, by rw [List.getElem?_append_left (by simpa [← hl] using hi), List.getElem?_map, h3]; rfl, h4⟩
  · rw [List.getElem?_append_right (by simpa using Nat.le_of_not_lt hi)] at h
    obtain ⟨_, h⟩ := List.mem_replicate.mp (List.mem_of_getElem? h)
    cases h
section
variable {P : Program} {W : World} {K : PySem.W.Frag} {mg : Str → Option Value} {base : Heap} {g : Glob} {ds : List DefT}
theorem all_at {α : Type} {l : List α} {p : α → Bool} (h : l.all p = true) {a : α} (m : a ∈ l) : p a = true := List.all_eq_true.mp h a m
/-- THE TABLE'S LAW: each def keeps the plain machine's promise -/
theorem fn_all (C : Fc W K mg g ds) (ht : tabOk g ds = true) (hd : ∀ (i : Nat) (d : DefT), ds[i]? = some d → DefOk g d) :
    ∀ (n i : Nat) (d : DefT) (fd : FuncData), ds[i]? = some d → FunD K d.nm d.qual d.params d.body d.scope [] [] (He.ga K d.nm) fd →
      FnG P W K mg base n (He.ga K d.nm) fd d.ps (spOf (cfgOf K ds) (callAt (ds.map (·.fd)) n i)) := by
  unfold tabOk at ht
  simp only [Bool.and_eq_true] at ht
  obtain ⟨⟨⟨t1, t2⟩, t3⟩, t4⟩ := ht
  intro n
  induction n with
  | zero =>
    intro i d fd hi F
    refine ⟨fun vs H Q E ⟨w, S, es, dd, S', _, _, h, _⟩ => ?_, fun A outer s H args us vs Q E _ _ _ _ ⟨w, S, es, dd, S', _, _, h, _⟩ => ?_⟩ <;> (simp only [callAt] at h; cases h)
  | succ n ih =>
    intro i d fd hi F
    have hm : d ∈ ds := List.mem_of_getElem? hi
    have D := hd i d hi
    have q4 := all_at t4 hm
    simp only [Bool.and_eq_true, decide_eq_true_iff] at q4
    obtain ⟨q4, q5⟩ := q4
    have hT : (ds.map (·.fd))[i]? = some d.fd := by rw [List.getElem?_map, hi]; rfl
    obtain ⟨m, hcomp⟩ := D.comp
    refine fnG_of F D.sc (fun vs H Q E ⟨w, S, es, dd, S', _, r, h, _⟩ => ?_) (fun cdv A outer s H vs Q E ⟨hr, hkb⟩ ⟨w, S, es, dd, S', R, r, h, k⟩ => ?_)
    · simp only [callAt, hT] at h
      split at h
      · rename_i e
        rw [← r.length, e, q4]
      · cases h
    · refine ⟨SemS (cfgOf K ds) (exs (callAt (ds.map (·.fd)) n) d.fd.body), PSs.nox ?_, ?_⟩
      · have fnC : ∀ (j : Nat) (d' : DefT), ds[j]? = some d' → ∃ fd', FunD K d'.nm d'.qual d'.params d'.body d'.scope [] [] (He.ga K d'.nm) fd' ∧ FnG P W K mg base n ((cfgOf K ds).fad j) fd' d'.ps (spOf (cfgOf K ds) (callAt (ds.map (·.fd)) n j)) ∧ (cfgOf K ds).fad j = He.ga K d'.nm := by
          intro j d' hj
          obtain ⟨fd', F'⟩ := C.fun_ j d' hj
          have e : (cfgOf K ds).fad j = He.ga K d'.nm := by show fadOf K ds j = _; unfold fadOf; rw [hj]
          exact ⟨fd', F', by rw [e]; exact ih j d' fd' hj F', e⟩
        refine (allS m).ss (infoOf g d) d.body d.fd.body hcomp _ ?_ ⟨D.sc.kind, PassesOwn.never⟩
        have mkC : ∀ (j : Nat) (d' : DefT), ds[j]? = some d' → d'.kn = none → Callee (cfgOf K ds) (callAt (ds.map (·.fd)) n) (Cx.nox (cxOf CX0 P W K mg base d.N d.qual d.scope (He.ga K d.nm) cdv A outer s H E)) j := by
          intro j d' hj hk
          obtain ⟨fd', F', ok, e⟩ := fnC j d' hj
          refine ⟨by rw [e]; exact F'.kp, n, fd', d'.ps, hr, ok, ?_⟩
          have b := (hd j d' hj).bind
          unfold BindT at b
          rw [hk] at b
          exact FunD.bindsN F' b
        refine ⟨rfl, rfl, D.sc.nd, rfl, ?_, rfl, fun _ _ => rfl, C.bf, ?_, ?_, ?_, ?_, ?_, ?_, hr.2, ?_⟩
        · exact Nat.lt_of_le_of_lt (Nat.le_trans (Nat.add_le_add_left (by omega : 65 ≤ 16 * n + 200) _) (Nat.le_of_eq (Nat.add_assoc _ _ _).symm)) hr.1.un
        · intro x dd' hx
          obtain ⟨u, m1, m2⟩ := C.gc x dd' hx
          obtain ⟨v, m3, m4⟩ := relDB_ok (c := cfgOf K ds) dd' u m2
          exact ⟨v, u, m1, m3, m4⟩
        · intro x kvs hx
          obtain ⟨ad, m1, m2⟩ := C.gd x kvs hx
          exact ⟨ad, m1, ⟨m2.dict, m2.get⟩⟩
        · intro x j hx
          have z := all_at t1 (lookup_mem hx)
          simp only at z
          split at z
          · rename_i d' hj
            simp only [Bool.and_eq_true, decide_eq_true_iff, Option.isNone_iff_eq_none] at z
            obtain ⟨z1, z2⟩ := z
            subst z1
            refine ⟨?_, mkC j d' hj z2⟩
            have e : (cfgOf K ds).fad j = He.ga K d'.nm := by show fadOf K ds j = _; unfold fadOf; rw [hj]
            rw [e]
            exact C.mgf j d' hj
          · cases z
        · intro x j m' ks hx
          have z := all_at t2 (lookup_mem hx)
          simp only at z
          split at z
          · rename_i d' hj
            simp only [Bool.and_eq_true, decide_eq_true_iff] at z
            obtain ⟨z1, z2⟩ := z
            subst z1
            obtain ⟨fd', F', ok, e⟩ := fnC j d' hj
            refine ⟨by rw [e]; exact C.mgf j d' hj, by rw [e]; exact F'.kp, n, fd', d'.ps, hr, ok, ?_⟩
            have b := (hd j d' hj).bind
            unfold BindT at b
            rw [z2] at b
            exact FunD.kbn F' b
          · cases z
        · intro f hf
          have z := all_at t3 hf
          split at z
          · rename_i d' hj
            exact mkC f d' hj (Option.isNone_iff_eq_none.mp z)
          · cases z
        · exact Nat.lt_of_le_of_lt (Nat.le_trans (Nat.add_le_add_left (by omega : 70 ≤ 16 * n + 200) _) (Nat.le_of_eq (Nat.add_assoc _ _ _).symm)) hr.1.un
        · obtain ⟨o, ho⟩ := C.sm
          exact ⟨o, hkb _ _ ho⟩
      · simp only [callAt, hT] at h
        split at h
        · rename_i e
          refine ⟨w, S, startE es d.fd.ns, R, by rw [q5]; exact startE_rel r, ?_⟩
          split at h
          · rename_i env' S1 q
            cases h
            rw [q]
            exact fun w' σ' H' g' R' _ => k w' H' _ g' R' (by simp only [RelD])
          · rename_i dd1 S1 q
            cases h
            rw [q]
            exact fun w' H' v g' R' r' => k w' H' v g' R' r'
          · cases h
        · cases h
end
end MP

/-! MP12: what the head tells of the table; the law's end. -/
namespace MP
open PySem L2 PySem.Calls
def entB (K : PySem.W.Frag) (fad : Nat → Addr) : List DictEntry → List (Str × D) → Bool
  | [], [] => true
  | e :: es, (k, d) :: r => (match e.key with
    | .str x _ => decide (x = k)
    | _ => false) && relDB K fad d e.val && entB K fad es r
  | _, _ => false
def dicB (K : PySem.W.Frag) (fad : Nat → Addr) (a : Addr) (kvs : List (Str × D)) : Bool := match K.lookup a with
  | some ⟨_, _, .dict es _, _⟩ => entB K fad es.toList kvs
  | _ => false
theorem entB_ok {c : Cfg} : ∀ {es : List DictEntry} {kvs : List (Str × D)}, entB c.K c.fad es kvs = true → es.any (·.refKey) = false ∧ ∀ z : Str, match lookS z kvs with
    | none => es.find? (·.key.isStr z) = none
    | some d => ∃ e v, es.find? (·.key.isStr z) = some e ∧ RelV v e.val ∧ ∀ w, RelD c w d v
  | [], [], _ => ⟨rfl, fun z => rfl⟩
  | [], _ :: _, h => by simp only [entB] at h; cases h
  | _ :: _, [], h => by simp only [entB] at h; cases h
  | e :: es, (k, d) :: r, h => by
    simp only [entB, Bool.and_eq_true] at h
    obtain ⟨⟨h1, h2⟩, h3⟩ := h
    obtain ⟨i1, i2⟩ := entB_ok h3
    split at h1
    · rename_i x t hk
      have h1 := of_decide_eq_true h1
      subst h1
      refine ⟨?_, fun z => ?_⟩
      · rw [List.any_cons, i1, Bool.or_false]
        unfold DictEntry.refKey
        rw [hk]
      · unfold lookS
        rw [List.find?_cons]
        by_cases hz : z = x
        · subst hz
          have e1 : e.key.isStr z = true := by rw [hk]; simp [Value.isStr]
          rw [if_pos rfl, e1]
          obtain ⟨v, r1, r2⟩ := relDB_ok d e.val h2
          exact ⟨e, v, rfl, r1, r2⟩
        · have e1 : e.key.isStr z = false := by rw [hk]; simp [Value.isStr]; exact fun q => hz q.symm
          rw [if_neg hz, e1]
          exact i2 z
    · cases h1
theorem dicB_ok {c : Cfg} {a : Addr} {kvs : List (Str × D)} (h : dicB c.K c.fad a kvs = true) (z : Str) : ∃ r, PySem.W.nsIn c.K a z = some r ∧ match lookS z kvs with
    | none => r = none
    | some d => ∃ u v, r = some u ∧ RelV v u ∧ ∀ w, RelD c w d v := by
  unfold dicB at h
  unfold PySem.W.nsIn
  split at h
  · rename_i oc od es n sl q
    rw [q]
    obtain ⟨h1, h2⟩ := entB_ok h
    have h3 := h2 z
    cases e : lookS z kvs with
    | none =>
      rw [e] at h3
      refine ⟨none, ?_, rfl⟩
      show (match es.toList.find? (·.key.isStr z) with
        | some e => some (some e.val)
        | none => if es.toList.any (·.refKey) then none else some none) = _
      rw [show es.toList.find? (·.key.isStr z) = none from h3]
      simp only [h1]
      rfl
    | some d =>
      rw [e] at h3
      obtain ⟨en, v, h4, h5, h6⟩ := h3
      refine ⟨some en.val, ?_, en.val, v, rfl, h5, h6⟩
      show (match es.toList.find? (·.key.isStr z) with
        | some e => some (some e.val)
        | none => if es.toList.any (·.refKey) then none else some none) = _
      rw [h4]
  · cases h
/-! ### the Hook -/
def ddOf (d : DefT) : He.DefD := ⟨(d.nm, none), d.nm, d.qual, d.params, d.body, d.scope, [], []⟩
def tabsOf (g : Glob) : List He.Tab := g.gd.map fun p => (fun K => He.ga K p.1, p.2.map (·.1))
def chk (g : Glob) (ds : List DefT) (K : PySem.W.Frag) : Bool :=
  (ds.all fun d => He.eqO (PySem.W.nsIn K mainGlobals d.nm) (some (some (.ref (He.ga K d.nm))))) &&
  (g.gc.all fun p => match PySem.W.nsIn K mainGlobals p.1 with
    | some (some u) => relDB K (fadOf K ds) p.2 u
    | _ => false) &&
  (g.gd.all fun p => He.eqO (PySem.W.nsIn K mainGlobals p.1) (some (some (.ref (He.ga K p.1)))) && dicB K (fadOf K ds) (He.ga K p.1) p.2) &&
  ((g.bf.all fun x => He.eqO (PySem.W.nsIn K mainGlobals x) (some none)) && (K.lookup sysModules).isSome)
def obsM (g : Glob) (ds : List DefT) (K : PySem.W.Frag) : He.AlT × Bool := (He.obsT [] (ds.map ddOf) (tabsOf g) K, chk g ds K)
def valM (g : Glob) (ds : List DefT) (w : World) : He.AlT × Bool := (He.valT (ds.map ddOf) (tabsOf g) w, true)
def SaysM (g : Glob) (ds : List DefT) (w : World) (K : PySem.W.Frag) : Prop := obsM g ds K = valM g ds w
def obsMG (n : Nat) (g : Glob) (ds : List DefT) (gt : Addr → Option Obj) : He.AlT × Bool := obsM g ds (He.frG gt (sysModules :: He.asD gt n))
def hookM (n : Nat) (g : Glob) (ds : List DefT) : PySem.W.Hook where
  α := He.AlT × Bool
  obs := fun s => obsMG n g ds s.heap.get?
  val := fun w => valM g ds w
  says := fun w h => ∃ K : PySem.W.Frag, K.In h ∧ SaysM g ds w K
  of := fun _ _ e => ⟨_, He.frG_in, e⟩
  keeps := fun _ _ _ ⟨K, hK, c⟩ k => ⟨K, PySem.W.Frag.In.keeps hK k, c⟩
def obM (n : Nat) (g : Glob) (ds : List DefT) (s : PySem.W.SharedT) : He.AlT × Bool := obsMG n g ds (HandSHeadRun.getT s)
theorem obM_eq (n : Nat) (g : Glob) (ds : List DefT) (s : PySem.W.SharedT) : obM n g ds s = (hookM n g ds).obs s.abs := by
  have e : HandSHeadRun.getT s = s.abs.heap.get? := funext fun a => HandSHeadRun.getT_eq s a
  show obsMG n g ds (HandSHeadRun.getT s) = obsMG n g ds s.abs.heap.get?
  rw [e]
theorem facts {g : Glob} {ds : List DefT} {W : World} {K : PySem.W.Frag} {h : Heap} {mg : Str → Option Value} (X : K.In h) (G : h.Ns mainGlobals mg) (c : SaysM g ds W K) : Fc W K mg g ds := by
  have c1 : He.SaysT [] (ds.map ddOf) (tabsOf g) W K := congrArg (fun z : He.AlT × Bool => z.1) c
  have c2 : chk g ds K = true := congrArg (fun z : He.AlT × Bool => z.2) c
  unfold chk at c2
  simp only [Bool.and_eq_true] at c2
  obtain ⟨⟨⟨k1, k2⟩, k3⟩, k4, k5⟩ := c2
  refine ⟨fun i d hi => ?_, fun i d hi => ?_, fun x d hx => ?_, fun x kvs hx => ?_, fun x hx => ?_, Option.isSome_iff_exists.mp k5⟩
  · exact c1.d.def_ i (d := ddOf d) (by rw [List.getElem?_map, hi]; rfl)
  · exact PySem.W.mg_of X G (He.eqO_ok (all_at k1 (List.mem_of_getElem? hi)))
  · have z := all_at k2 (lookup_mem hx)
    simp only at z
    split at z
    · rename_i u q
      exact ⟨u, PySem.W.mg_of X G q, z⟩
    · cases z
  · have hm := lookup_mem hx
    have z := all_at k3 hm
    simp only [Bool.and_eq_true] at z
    refine ⟨He.ga K x, PySem.W.mg_of X G (He.eqO_ok z.1), ?_, fun y => dicB_ok (c := cfgOf K ds) z.2 y⟩
    obtain ⟨i, hi⟩ := List.getElem?_of_mem hm
    exact c1.tab i (t := (fun K => He.ga K x, kvs.map (·.1))) (by unfold tabsOf; rw [List.getElem?_map, hi]; rfl)
  · have z := all_at k4 (List.contains_iff_mem.mp hx)
    exact PySem.W.mg_none_of X G (He.eqO_ok z)
/-! ### the law -/
theorem law_end {l : PySem.W.OpenLaw} {q : Program} {loose : List Str} {XP : (Str → Option Value) → Heap → Prop} {d : DefRec} {g : Glob} {ds : List DefT} {m n i : Nat} {dt : DefT} {x : Str}
    (hn : l.most = some 63) (hdf : d.params.defaults = []) (hr : Room n callerA) (hnm : d.name = dt.nm) (hi : ds[i]? = some dt) (hps : dt.ps = [x]) (hk : dt.kn = none) (ht : tabOk g ds = true) (hd : ∀ (i : Nat) (d : DefT), ds[i]? = some d → DefOk g d)
    (law : ∀ ns : List Int, ns.length ≤ 63 → ∃ S, callAt (ds.map (·.fd)) n i [.scr ns] [] = .ok (.bl true) S) :
    PySem.W.WalkO q loose XP (hookM m g ds).says l.row.toRowW d [] (fun f vs => PySem.call f vs) := by
  refine walk_ofG (l := l) (n := 63) (k := n) (x := x) hn (by decide) hdf hr ?_
  intro w mg fa h Y G hmg
  obtain ⟨K, KX, c⟩ := Y
  have C := facts KX G c
  obtain ⟨fd, F⟩ := C.fun_ i dt hi
  have e := C.mgf i dt hi
  rw [hnm] at hmg
  have e2 := hmg.symm.trans e
  cases e2
  refine ⟨K, fd, spOf (cfgOf K ds) (callAt (ds.map (·.fd)) n i), KX, fun s u => ?_, fun H a ns hl hO hS => ?_, fun base hb hns => ?_⟩
  · have b := (hd i dt hi).bind
    unfold BindT at b
    rw [hk, hps] at b
    exact FunD.bindsA (ps := [x]) F b s [u] rfl
  · obtain ⟨S, hS'⟩ := law ns hl
    refine ⟨⟨[], H⟩, [], [.scr ns], .bl true, S, ⟨fun a o h => h, rfl, fun l a o h => by simp at h, fun i j a h => by simp at h⟩, .cons (by simp only [RelD]; exact ⟨a, rfl, hS⟩) .nil, hS', fun w' H' v _ _ r => ?_⟩
    simpa only [RelD] using r
  · have C' := facts hb hns c
    rw [← hps]
    exact fn_all C' ht hd n i dt fd hi F
end MP

set_option exponentiation.threshold 5000
/-! LK: plain laws of the plain machine; what all the laws' texts share. -/
namespace MP
open PySem L2

/-! ### data -/
mutual
def dat0B : D → Bool
  | .non => true | .bl _ => true | .int _ => true
  | .str x => PyData.strOk x
  | .tup xs => dats0B xs
  | .lst xs => dats0B xs
  | _ => false
def dats0B : List D → Bool
  | [] => true
  | x :: xs => dat0B x && dats0B xs
end
/-! data, empty dicts among them -/
mutual
def datB : D → Bool
  | .non => true | .bl _ => true | .int _ => true
  | .str _ => true
  | .tup xs => datsB xs
  | .lst xs => datsB xs
  | .dct _ xs => datsB xs
  | .emp => true
  | _ => false
def datsB : List D → Bool
  | [] => true
  | x :: xs => datB x && datsB xs
end
mutual
def dep : D → Nat
  | .tup xs => deps xs + 1
  | .lst xs => deps xs + 1
  | .dct _ xs => deps xs + 1
  | _ => 0
def deps : List D → Nat
  | [] => 0
  | x :: xs => max (dep x) (deps xs)
end
mutual
def eqB : D → D → Bool
  | .non, .non => true
  | .bl a, .bl b => a == b
  | .bl a, .int j => (if a then 1 else 0) == j
  | .int i, .bl b => i == (if b then 1 else 0)
  | .int i, .int j => i == j
  | .str x, .str y => x == y
  | .tup xs, .tup ys => eqsB xs ys
  | .lst xs, .lst ys => eqsB xs ys
  | _, _ => false
def eqsB : List D → List D → Bool
  | [], [] => true
  | x :: xs, y :: ys => eqB x y && eqsB xs ys
  | _, _ => false
end
mutual
theorem toPy_dat : ∀ d : D, dat0B d = true → ∃ p, toPy d = some p ∧ p.canLay0 = true ∧ p.depth = dep d
  | .non, _ => ⟨.none, rfl, rfl, rfl⟩
  | .bl b, _ => ⟨.bool b, rfl, rfl, rfl⟩
  | .int i, _ => ⟨.int i, rfl, rfl, rfl⟩
  | .str x, h => ⟨.str x, rfl, h, rfl⟩
  | .tup xs, h => by
    obtain ⟨ps, h1, h2, h3⟩ := toPys_dat xs (by simpa only [dat0B] using h)
    exact ⟨.tuple ps, by simp only [toPy, h1]; rfl, by simpa only [PyData.canLay0] using h2, by simp only [PyData.depth, dep, h3]⟩
  | .lst xs, h => by
    obtain ⟨ps, h1, h2, h3⟩ := toPys_dat xs (by simpa only [dat0B] using h)
    exact ⟨.list ps, by simp only [toPy, h1]; rfl, by simpa only [PyData.canLay0] using h2, by simp only [PyData.depth, dep, h3]⟩
  | .scr _, h => by simp only [dat0B] at h; cases h
  | .ref _, h => by simp only [dat0B] at h; cases h
  | .fn _, h => by simp only [dat0B] at h; cases h
  | .ty _, h => by simp only [dat0B] at h; cases h
  | .dct _ _, h => by simp only [dat0B] at h; cases h
  | .emp, h => by simp only [dat0B] at h; cases h
theorem toPys_dat : ∀ d : List D, dats0B d = true → ∃ p, toPys d = some p ∧ PyData.canLayAll0 p = true ∧ PyData.depthAll p = deps d
  | [], _ => ⟨[], rfl, rfl, rfl⟩
  | x :: xs, h => by
    simp only [dats0B, Bool.and_eq_true] at h
    obtain ⟨p, h1, h2, h3⟩ := toPy_dat x h.1
    obtain ⟨ps, k1, k2, k3⟩ := toPys_dat xs h.2
    exact ⟨p :: ps, by simp only [toPys, h1, k1]; rfl, by simp only [PyData.canLayAll0, h2, k2]; rfl, by simp only [PyData.depthAll, deps, h3, k3]⟩
end
mutual
theorem eqB_ok : ∀ (a b : D) (p q : PyData), toPy a = some p → toPy b = some q → PyData.eqv p q = eqB a b
  | a, b, p, q, h1, h2 => by
    cases a <;> simp only [toPy] at h1 <;> try (cases h1; done)
    all_goals cases b <;> simp only [toPy] at h2 <;> try (cases h2; done)
    all_goals try (rw [Option.map_eq_some_iff] at h1; obtain ⟨p', h1, rfl⟩ := h1)
    all_goals try (rw [Option.map_eq_some_iff] at h2; obtain ⟨q', h2, rfl⟩ := h2)
    all_goals try cases h1
    all_goals try cases h2
    all_goals simp only [PyData.eqv, eqB]
    all_goals try exact eqsB_ok _ _ _ _ h1 h2
theorem eqsB_ok : ∀ (a b : List D) (p q : List PyData), toPys a = some p → toPys b = some q → PyData.eqvAll p q = eqsB a b
  | [], [], p, q, h1, h2 => by simp only [toPys] at h1 h2; cases h1; cases h2; rfl
  | [], b :: bs, p, q, h1, h2 => by
    simp only [toPys] at h1 h2; cases h1
    rw [Option.bind_eq_some_iff] at h2
    obtain ⟨z, _, h2⟩ := h2
    rw [Option.map_eq_some_iff] at h2
    obtain ⟨r, _, rfl⟩ := h2
    rfl
  | a :: as, [], p, q, h1, h2 => by
    simp only [toPys] at h1 h2; cases h2
    rw [Option.bind_eq_some_iff] at h1
    obtain ⟨z, _, h1⟩ := h1
    rw [Option.map_eq_some_iff] at h1
    obtain ⟨r, _, rfl⟩ := h1
    rfl
  | a :: as, b :: bs, p, q, h1, h2 => by
    simp only [toPys] at h1 h2
    rw [Option.bind_eq_some_iff] at h1 h2
    obtain ⟨z, z1, h1⟩ := h1
    obtain ⟨y, y1, h2⟩ := h2
    rw [Option.map_eq_some_iff] at h1 h2
    obtain ⟨r, r1, rfl⟩ := h1
    obtain ⟨t, t1, rfl⟩ := h2
    simp only [PyData.eqvAll, eqsB, eqB_ok a b z y z1 y1, eqsB_ok as bs r t r1 t1]
end
theorem eqG_dat {a b : D} (ha : dat0B a = true) (hb : dat0B b = true) (da : dep a ≤ 64) (db : dep b ≤ 64) : eqG a b = some (eqB a b) := by
  obtain ⟨p, p1, p2, p3⟩ := toPy_dat a ha
  obtain ⟨q, q1, q2, q3⟩ := toPy_dat b hb
  unfold eqG SeqAt.shaped
  rw [p1, q1]
  simp only [Option.bind_some]
  rw [p2, q2, p3, q3, decide_eq_true da, decide_eq_true db, eqB_ok a b p q p1 q1]
  rfl
theorem eqD_dat {a b : D} (ha : dat0B a = true) (hb : dat0B b = true) (da : dep a ≤ 64) (db : dep b ≤ 64) : eqD a b = some (eqB a b) := by
  unfold eqD
  split
  · simp only [eqB]
  · rename_i xs
    cases xs <;> rfl
  · exact eqG_dat ha hb da db
theorem eqD_int (i j : Int) : eqD (.int i) (.int j) = some (i == j) := eqD_dat rfl rfl (Nat.zero_le _) (Nat.zero_le _)
theorem datsB_ints : ∀ ns : List Int, dats0B (ns.map D.int) = true
  | [] => rfl
  | n :: ns => by simp only [List.map_cons, dats0B, dat0B, datsB_ints ns]; rfl
theorem deps_ints : ∀ ns : List Int, deps (ns.map D.int) = 0
  | [] => rfl
  | n :: ns => by simp only [List.map_cons, deps, dep, deps_ints ns]; rfl
theorem eqD_ints_nil (ns : List Int) : eqD (.lst (ns.map .int)) (.lst []) = some ns.isEmpty := by
  rw [eqD_dat (by simp only [dat0B]; exact datsB_ints ns) rfl (by simp only [dep, deps_ints]; decide) (by decide)]
  cases ns <;> rfl

/-! ### the machine by rows -/
theorem callAt_at {T : List FD} {n f : Nat} {d : FD} {ds : List D} {S : Store} (h : T[f]? = some d) (hl : ds.length = d.ps) : callAt T (n + 1) f ds S = match exs (callAt T n) d.body (startE ds d.ns) S with
    | .nx _ S' => .ok .non S'
    | .rt r S' => .ok r S'
    | _ => .bad := by
  simp only [callAt, h, hl, if_true] <;> (generalize exs (callAt T n) d.body (startE ds d.ns) S = o; cases o <;> rfl)

/-! ### the hand: a list of digits and a seed, picks -/
abbrev P61 : Int := 2305843009213693951
structure Hand (S : Store) (l m : Nat) (xs : List Int) (seed : Int) : Prop where
  ne : l ≠ m
  h : S[l]? = some (.lst [.ref m, .int seed])
  g : S[m]? = some (.lst (xs.map .int))
  lo : 0 ≤ seed
  hi : seed < P61
  len : xs.length ≤ 63
def HandOk (S : Store) (l m : Nat) : Prop := ∃ xs seed, Hand S l m xs seed
/-- all else stands as it stood -/
structure Still (l m : Nat) (S S' : Store) : Prop where
  len : S'.length = S.length
  el : ∀ j : Nat, j ≠ l → j ≠ m → S'[j]? = S[j]?
theorem Still.refl {l m : Nat} {S : Store} : Still l m S S := ⟨rfl, fun _ _ _ => rfl⟩
theorem Still.trans {l m : Nat} {S S1 S2 : Store} (a : Still l m S S1) (b : Still l m S1 S2) : Still l m S S2 := ⟨b.len.trans a.len, fun j h k => (b.el j h k).trans (a.el j h k)⟩
theorem Still.set {l m k : Nat} {S : Store} {o : Ob} (h : k = l ∨ k = m) : Still l m S (S.set k o) := ⟨List.length_set, fun j a b => List.getElem?_set_ne (by rcases h with h | h <;> omega)⟩
theorem Hand.lt {S : Store} {l m : Nat} {xs : List Int} {seed : Int} (H : Hand S l m xs seed) : l < S.length ∧ m < S.length := ⟨(List.getElem?_eq_some_iff.mp H.h).1, (List.getElem?_eq_some_iff.mp H.g).1⟩
theorem Hand.digits {S : Store} {l m : Nat} {xs ys : List Int} {seed : Int} (H : Hand S l m xs seed) (h : ys.length ≤ 63) : Hand (S.set m (.lst (ys.map .int))) l m ys seed :=
  ⟨H.ne, by rw [List.getElem?_set_ne (Ne.symm H.ne)]; exact H.h, List.getElem?_set_self H.lt.2, H.lo, H.hi, h⟩
theorem Hand.seeds {S : Store} {l m : Nat} {xs : List Int} {seed z : Int} (H : Hand S l m xs seed) (h0 : 0 ≤ z) (h1 : z < P61) : Hand (S.set l (.lst [.ref m, .int z])) l m xs z :=
  ⟨H.ne, List.getElem?_set_self H.lt.1, by rw [List.getElem?_set_ne H.ne]; exact H.g, h0, h1, H.len⟩
/-- the store grows -/
theorem Hand.more {S : Store} {l m : Nat} {xs : List Int} {seed : Int} (H : Hand S l m xs seed) (Z : List Ob) : Hand (S ++ Z) l m xs seed :=
  ⟨H.ne, by rw [List.getElem?_append_left H.lt.1]; exact H.h, by rw [List.getElem?_append_left H.lt.2]; exact H.g, H.lo, H.hi, H.len⟩
def bPick : List SA := [
  .while_ (.and (.cmp .ne (.ix (.var 0) (.con (.int 0))) (.lst [])) (.cmp .eq (.ix (.ix (.var 0) (.con (.int 0))) (.con (.int 0))) (.con (.int 0)))) [.expr (.mth .pop1 (.ix (.var 0) (.con (.int 0))) [.con (.int 0)])],
  .ifs (.cmp .ne (.ix (.var 0) (.con (.int 0))) (.lst [])) [.asg (.name 2) (.bin .mod (.ix (.ix (.var 0) (.con (.int 0))) (.con (.int 0))) (.var 1)), .setIx (.bin .fdiv (.ix (.ix (.var 0) (.con (.int 0))) (.con (.int 0))) (.var 1)) (.ix (.var 0) (.con (.int 0))) (.con (.int 0)), .ret (.var 2)] [],
  .setIx (.bin .mod (.bin .add (.bin .mul (.ix (.var 0) (.con (.int 1))) (.con (.int 3935559000370003))) (.con (.int 2691343689449507))) (.con (.int 2305843009213693951))) (.var 0) (.con (.int 1)),
  .asg (.name 3) (.bin .fdiv (.ix (.var 0) (.con (.int 1))) (.con (.int 65537))),
  .ret (.bin .mod (.bin .fdiv (.bin .mod (.bin .mul (.var 3) (.bin .add (.bin .mod (.var 3) (.con (.int 8191))) (.con (.int 3)))) (.con (.int 2305843009213693921))) (.con (.int 4099))) (.var 1))]
section
variable {F : Fn} {env : Env} {S : Store} {l m : Nat} {xs : List Int} {seed : Int}
theorem atI_0 {α : Type} (x : α) (r : List α) : atI (x :: r) 0 = some x := by
  unfold atI ixN
  rw [if_pos (by omega), if_pos (by simp only [List.length_cons]; omega)]
  rfl
theorem atI_1 {α : Type} (x y : α) (r : List α) : atI (x :: y :: r) 1 = some y := by
  unfold atI ixN
  rw [if_pos (by omega), if_pos (by simp only [List.length_cons]; omega)]
  rfl
theorem hand_0 (H : Hand S l m xs seed) (h0 : env[0]? = some (some (.ref l))) : ev F (.ix (.var 0) (.con (.int 0))) env S = .ok (.ref m) S := by
  simp only [ev, h0, Res.bind_ok, deref, H.h, ixD, atI_0]
  rfl
theorem hand_1 (H : Hand S l m xs seed) (h0 : env[0]? = some (some (.ref l))) : ev F (.ix (.var 0) (.con (.int 1))) env S = .ok (.int seed) S := by
  simp only [ev, h0, Res.bind_ok, deref, H.h, ixD, atI_1]
  rfl
theorem hand_00 {x : Int} {ys : List Int} (H : Hand S l m (x :: ys) seed) (h0 : env[0]? = some (some (.ref l))) : ev F (.ix (.ix (.var 0) (.con (.int 0))) (.con (.int 0))) env S = .ok (.int x) S := by
  have h := hand_0 (F := F) H h0
  generalize E.ix (.var 0) (.con (.int 0)) = e at h ⊢
  simp only [ev, h, Res.bind_ok, deref, H.g, ixD, List.map_cons, atI_0]
  rfl
theorem hand_ne (H : Hand S l m xs seed) (h0 : env[0]? = some (some (.ref l))) : ev F (.cmp .ne (.ix (.var 0) (.con (.int 0))) (.lst [])) env S = .ok (.bl (!xs.isEmpty)) S := by
  have h := hand_0 (F := F) H h0
  generalize E.ix (.var 0) (.con (.int 0)) = e at h ⊢
  simp only [ev, evs, h, Res.bind_ok, deref, H.g, List.length_nil, Nat.zero_le, if_true, cmpD, eqD_ints_nil]
  rfl
theorem pick_cond (H : Hand S l m xs seed) (h0 : env[0]? = some (some (.ref l))) : ev F (.and (.cmp .ne (.ix (.var 0) (.con (.int 0))) (.lst [])) (.cmp .eq (.ix (.ix (.var 0) (.con (.int 0))) (.con (.int 0))) (.con (.int 0)))) env S = .ok (.bl (match xs with | [] => false | x :: _ => x == 0)) S := by
  have h := hand_ne (F := F) H h0
  cases xs with
  | nil =>
    generalize E.cmp .ne (.ix (.var 0) (.con (.int 0))) (.lst []) = e at h ⊢
    simp only [ev, h, Res.bind_ok, List.isEmpty_nil, Bool.not_true]
  | cons x ys =>
    have h2 := hand_00 (F := F) H h0
    generalize E.cmp .ne (.ix (.var 0) (.con (.int 0))) (.lst []) = e at h ⊢
    generalize E.ix (.ix (.var 0) (.con (.int 0))) (.con (.int 0)) = e2 at h2 ⊢
    simp only [ev, h, h2, Res.bind_ok, List.isEmpty_cons, Bool.not_false, deref, cmpD, eqD_int]
    rfl
theorem pick_loop : ∀ (xs : List Int) (fuel : Nat) (S : Store), Hand S l m xs seed → env[0]? = some (some (.ref l)) → xs.length < fuel →
    ∃ S' ys, loopW (ev F (.and (.cmp .ne (.ix (.var 0) (.con (.int 0))) (.lst [])) (.cmp .eq (.ix (.ix (.var 0) (.con (.int 0))) (.con (.int 0))) (.con (.int 0))))) (exs F [.expr (.mth .pop1 (.ix (.var 0) (.con (.int 0))) [.con (.int 0)])]) fuel env S = .nx env S' ∧ Hand S' l m ys seed ∧ Still l m S S'
  | xs, 0, S, H, h0, hf => absurd hf (Nat.not_lt_zero _)
  | xs, n + 1, S, H, h0, hf => by
    have hc := pick_cond (F := F) H h0
    cases xs with
    | nil =>
      refine ⟨S, [], ?_, H, .refl⟩
      simp only [loopW, hc]
    | cons x ys =>
      by_cases hx : x = 0
      · subst hx
        have hl : ys.length ≤ 63 := by have := H.len; simp only [List.length_cons] at this; omega
        have H' : Hand (S.set m (.lst (ys.map .int))) l m ys seed := H.digits hl
        obtain ⟨S', zs, e, H2, st⟩ := pick_loop ys n _ H' h0 (by simp only [List.length_cons] at hf; omega)
        refine ⟨S', zs, ?_, H2, (Still.set (.inr rfl)).trans st⟩
        have hb : exs F [.expr (.mth .pop1 (.ix (.var 0) (.con (.int 0))) [.con (.int 0)])] env S = .nx env (S.set m (.lst (ys.map .int))) := by
          have h := hand_0 (F := F) H h0
          generalize E.ix (.var 0) (.con (.int 0)) = e at h ⊢
          have hz : (D.int 0 :: ys.map D.int).length ≤ LIM := by simp only [List.length_cons, List.length_map]; show ys.length + 1 ≤ 100000; omega
          have hi : ixN (D.int 0 :: ys.map D.int).length 0 = some 0 := by
            unfold ixN
            rw [if_pos (by omega), if_pos (by simp only [List.length_cons]; omega)]
            rfl
          simp only [exs, ex, ev, evs, h, Res.bind_ok, deref, H.g, List.map_cons, mty, mthD, isMut, mthM, hz, hi, if_true, Out.of, Out.then, Option.bind_some, List.getElem?_cons_zero, Option.map_some, List.eraseIdx_cons_zero]
          rfl
        have e0 : ((0 : Int) == 0) = true := rfl
        simp only [loopW, hc, e0, hb]
        exact e
      · refine ⟨S, x :: ys, ?_, H, .refl⟩
        simp only [loopW, hc, beq_eq_false_iff_ne.mpr hx]
theorem nat_lt_pow {i : Int} (h0 : 0 ≤ i) (h1 : i < 2305843009213693952 * 2305843009213693952) : i.natAbs < 2 ^ 4096 := by
  have h2 : i.natAbs < 2 ^ 122 := by
    have : (2 : Nat) ^ 122 = 2305843009213693952 * 2305843009213693952 := by decide
    omega
  exact Nat.lt_of_lt_of_le h2 (Nat.pow_le_pow_right (by decide) (by decide))
theorem mulOk_w {i j : Int} (h0 : 0 ≤ i) (h1 : i < 2305843009213693952 * 2305843009213693952) (k0 : 0 ≤ j) (k1 : j < 2305843009213693952 * 2305843009213693952) : mulOk i j = true := by
  unfold mulOk
  rw [decide_eq_true (nat_lt_pow h0 h1), decide_eq_true (nat_lt_pow k0 k1)]
  rfl
/-- PICK: a number below many -/
theorem pick_ok {T : List FD} {p n : Nat} (hT : T[p]? = some ⟨2, 4, bPick⟩) (H : HandOk S l m) {k : Int} (k0 : 0 < k) (k1 : k ≤ 1000000) :
    ∃ i S', callAt T (n + 1) p [.ref l, .int k] S = .ok (.int i) S' ∧ 0 ≤ i ∧ i < k ∧ HandOk S' l m ∧ Still l m S S' := by
  obtain ⟨xs, seed, H⟩ := H
  rw [callAt_at hT rfl]
  generalize callAt T n = F
  obtain ⟨S1, ys, e, H1, st⟩ := pick_loop (F := F) (env := startE [.ref l, .int k] 4) xs WN S H rfl (by have := H.len; show _ < 100000; omega)
  have k2 : k.natAbs < 2 ^ 4096 := nat_lt_pow (by omega) (by omega)
  have hne := hand_ne (F := F) (env := startE [.ref l, .int k] 4) H1 rfl
  have w1 : ex F (.while_ (.and (.cmp .ne (.ix (.var 0) (.con (.int 0))) (.lst [])) (.cmp .eq (.ix (.ix (.var 0) (.con (.int 0))) (.con (.int 0))) (.con (.int 0)))) [.expr (.mth .pop1 (.ix (.var 0) (.con (.int 0))) [.con (.int 0)])]) (startE [.ref l, .int k] 4) S = .nx (startE [.ref l, .int k] 4) S1 := by
    simp only [ex]
    exact e
  cases ys with
  | cons x ys =>
    have h00 := hand_00 (F := F) (env := startE [.ref l, .int k] 4) H1 rfl
    have hd := H1.digits (ys := x / k :: ys) H1.len
    have s1 : ex F (.asg (.name 2) (.bin .mod (.ix (.ix (.var 0) (.con (.int 0))) (.con (.int 0))) (.var 1))) (startE [.ref l, .int k] 4) S1 = .nx [some (.ref l), some (.int k), some (.int (x % k)), none] S1 := by
      generalize E.ix (.ix (.var 0) (.con (.int 0))) (.con (.int 0)) = e2 at h00 ⊢
      have h1 : (startE [.ref l, .int k] 4)[1]? = some (some (.int k)) := rfl
      simp only [ex, ev, h00, Res.bind_ok, h1, deref, binD, if_pos k0, opt, Out.of]
      rfl
    have h0' : ([some (.ref l), some (.int k), some (.int (x % k)), none] : Env)[0]? = some (some (.ref l)) := rfl
    have h1' : ([some (.ref l), some (.int k), some (.int (x % k)), none] : Env)[1]? = some (some (.int k)) := rfl
    have h2' : ([some (.ref l), some (.int k), some (.int (x % k)), none] : Env)[2]? = some (some (.int (x % k))) := rfl
    have s2 : ex F (.setIx (.bin .fdiv (.ix (.ix (.var 0) (.con (.int 0))) (.con (.int 0))) (.var 1)) (.ix (.var 0) (.con (.int 0))) (.con (.int 0))) [some (.ref l), some (.int k), some (.int (x % k)), none] S1 = .nx [some (.ref l), some (.int k), some (.int (x % k)), none] (S1.set m (.lst ((x / k :: ys).map .int))) := by
      have g0 := hand_0 (F := F) H1 h0'
      have g00 := hand_00 (F := F) H1 h0'
      have hi : ixN (D.int x :: ys.map D.int).length 0 = some 0 := by
        unfold ixN
        rw [if_pos (by omega), if_pos (by simp only [List.length_cons]; omega)]
        rfl
      generalize E.ix (.ix (.var 0) (.con (.int 0))) (.con (.int 0)) = e2 at g00 ⊢
      generalize E.ix (.var 0) (.con (.int 0)) = e1 at g0 ⊢
      simp only [ex, ev, g0, g00, Res.bind_ok, h1', deref, binD, if_pos (And.intro k0 k2), opt, Out.of, setIxD, H1.g, List.map_cons, hi, Option.map_some, List.set_cons_zero]
    have s3 : ex F (.ret (.var 2)) [some (.ref l), some (.int k), some (.int (x % k)), none] (S1.set m (.lst ((x / k :: ys).map .int))) = .rt (.int (x % k)) (S1.set m (.lst ((x / k :: ys).map .int))) := by
      simp only [ex, ev, h2', Out.of]
    refine ⟨x % k, S1.set m (.lst ((x / k :: ys).map .int)), ?_, Int.emod_nonneg _ (by omega), Int.emod_lt_of_pos _ k0, ⟨_, _, hd⟩, st.trans (Still.set (.inr rfl))⟩
    have i1 : ex F (.ifs (.cmp .ne (.ix (.var 0) (.con (.int 0))) (.lst [])) [.asg (.name 2) (.bin .mod (.ix (.ix (.var 0) (.con (.int 0))) (.con (.int 0))) (.var 1)), .setIx (.bin .fdiv (.ix (.ix (.var 0) (.con (.int 0))) (.con (.int 0))) (.var 1)) (.ix (.var 0) (.con (.int 0))) (.con (.int 0)), .ret (.var 2)] []) (startE [.ref l, .int k] 4) S1 = .rt (.int (x % k)) (S1.set m (.lst ((x / k :: ys).map .int))) := by
      generalize SA.setIx (.bin .fdiv (.ix (.ix (.var 0) (.con (.int 0))) (.con (.int 0))) (.var 1)) (.ix (.var 0) (.con (.int 0))) (.con (.int 0)) = a2 at s2 ⊢
      generalize SA.asg (.name 2) (.bin .mod (.ix (.ix (.var 0) (.con (.int 0))) (.con (.int 0))) (.var 1)) = a1 at s1 ⊢
      generalize E.cmp .ne (.ix (.var 0) (.con (.int 0))) (.lst []) = c1 at hne ⊢
      simp only [ex, hne, Out.of, List.isEmpty_cons, Bool.not_false, exs, s1, s2, Out.then]
      simp only [ev, h2']
    have all : exs F bPick (startE [.ref l, .int k] 4) S = .rt (.int (x % k)) (S1.set m (.lst ((x / k :: ys).map .int))) := by
      unfold bPick
      simp only [exs, w1, i1, Out.then]
    show (match exs F bPick (startE [.ref l, .int k] 4) S with | Out.nx _ S' => Res.ok D.non S' | Out.rt r S' => Res.ok r S' | _ => Res.bad) = _
    rw [all]
  | nil =>
    have h1 : ev F (.ix (.var 0) (.con (.int 1))) (startE [.ref l, .int k] 4) S1 = .ok (.int seed) S1 := hand_1 H1 rfl
    have i1 : ex F (.ifs (.cmp .ne (.ix (.var 0) (.con (.int 0))) (.lst [])) [.asg (.name 2) (.bin .mod (.ix (.ix (.var 0) (.con (.int 0))) (.con (.int 0))) (.var 1)), .setIx (.bin .fdiv (.ix (.ix (.var 0) (.con (.int 0))) (.con (.int 0))) (.var 1)) (.ix (.var 0) (.con (.int 0))) (.con (.int 0)), .ret (.var 2)] []) (startE [.ref l, .int k] 4) S1 = .nx (startE [.ref l, .int k] 4) S1 := by
      generalize E.cmp .ne (.ix (.var 0) (.con (.int 0))) (.lst []) = c1 at hne ⊢
      simp only [ex, hne, Out.of, List.isEmpty_nil, Bool.not_true, exs]
    have b0 := H1.lo
    have b1 : seed < 2305843009213693951 := H1.hi
    have m1 : mulOk seed 3935559000370003 = true := mulOk_w b0 (by omega) (by omega) (by omega)
    have z0 : 0 ≤ (seed * 3935559000370003 + 2691343689449507) % 2305843009213693951 := Int.emod_nonneg _ (by decide)
    have z1 : (seed * 3935559000370003 + 2691343689449507) % 2305843009213693951 < 2305843009213693951 := Int.emod_lt_of_pos _ (by decide)
    generalize hzz : (seed * 3935559000370003 + 2691343689449507) % 2305843009213693951 = z at z0 z1
    have H2 : Hand (S1.set l (.lst [.ref m, .int z])) l m [] z := H1.seeds z0 z1
    have s1 : ex F (.setIx (.bin .mod (.bin .add (.bin .mul (.ix (.var 0) (.con (.int 1))) (.con (.int 3935559000370003))) (.con (.int 2691343689449507))) (.con (.int 2305843009213693951))) (.var 0) (.con (.int 1))) (startE [.ref l, .int k] 4) S1 = .nx (startE [.ref l, .int k] 4) (S1.set l (.lst [.ref m, .int z])) := by
      have h0 : (startE [.ref l, .int k] 4)[0]? = some (some (.ref l)) := rfl
      have hp : (0 : Int) < 2305843009213693951 := by decide
      have hi : ixN [D.ref m, D.int seed].length 1 = some 1 := rfl
      generalize E.ix (.var 0) (.con (.int 1)) = e1 at h1 ⊢
      simp only [ex, ev, h1, Res.bind_ok, h0, deref, binD, m1, if_true, if_pos hp, opt, Out.of, setIxD, H1.h, hi, Option.map_some, hzz]
      rfl
    have h2 : ev F (.ix (.var 0) (.con (.int 1))) (startE [.ref l, .int k] 4) (S1.set l (.lst [.ref m, .int z])) = .ok (.int z) (S1.set l (.lst [.ref m, .int z])) := hand_1 H2 rfl
    generalize hS2 : S1.set l (.lst [.ref m, .int z]) = S2 at *
    have y0 : 0 ≤ z / 65537 := Int.ediv_nonneg z0 (by decide)
    have y1 : z / 65537 < 2305843009213693951 := by omega
    generalize hyy : z / 65537 = y at y0 y1
    have p65 : (0 : Int) < 65537 ∧ (65537 : Int).natAbs < 2 ^ 4096 := ⟨by decide, nat_lt_pow (by decide) (by decide)⟩
    have s2 : ex F (.asg (.name 3) (.bin .fdiv (.ix (.var 0) (.con (.int 1))) (.con (.int 65537)))) (startE [.ref l, .int k] 4) S2 = .nx [some (.ref l), some (.int k), none, some (.int y)] S2 := by
      generalize E.ix (.var 0) (.con (.int 1)) = e1 at h2 ⊢
      simp only [ex, ev, h2, Res.bind_ok, deref, binD, if_pos p65, opt, Out.of, hyy]
      rfl
    have t0 : 0 ≤ y % 8191 + 3 := by omega
    have t1 : y % 8191 + 3 < 10000 := by omega
    have m2 : mulOk y (y % 8191 + 3) = true := mulOk_w y0 (by omega) t0 (by omega)
    have p40 : (0 : Int) < 4099 ∧ (4099 : Int).natAbs < 2 ^ 4096 := ⟨by decide, nat_lt_pow (by decide) (by decide)⟩
    have p81 : (0 : Int) < 8191 := by decide
    have pp : (0 : Int) < 2305843009213693921 := by decide
    refine ⟨y * (y % 8191 + 3) % 2305843009213693921 / 4099 % k, S2, ?_, Int.emod_nonneg _ (by omega), Int.emod_lt_of_pos _ k0, ⟨_, _, H2⟩, st.trans (by rw [← hS2]; exact Still.set (.inl rfl))⟩
    have s3 : ex F (.ret (.bin .mod (.bin .fdiv (.bin .mod (.bin .mul (.var 3) (.bin .add (.bin .mod (.var 3) (.con (.int 8191))) (.con (.int 3)))) (.con (.int 2305843009213693921))) (.con (.int 4099))) (.var 1))) [some (.ref l), some (.int k), none, some (.int y)] S2 = .rt (.int (y * (y % 8191 + 3) % 2305843009213693921 / 4099 % k)) S2 := by
      have g1 : ([some (.ref l), some (.int k), none, some (.int y)] : Env)[1]? = some (some (.int k)) := rfl
      have g3 : ([some (.ref l), some (.int k), none, some (.int y)] : Env)[3]? = some (some (.int y)) := rfl
      simp only [ex, ev, g1, g3, Res.bind_ok, deref, binD, if_pos p81, m2, if_true, if_pos pp, if_pos p40, if_pos k0, opt, Out.of]
    have all : exs F bPick (startE [.ref l, .int k] 4) S = .rt (.int (y * (y % 8191 + 3) % 2305843009213693921 / 4099 % k)) S2 := by
      unfold bPick
      simp only [exs, w1, i1, s1, s2, s3, Out.then]
    show (match exs F bPick (startE [.ref l, .int k] 4) S with | Out.nx _ S' => Res.ok D.non S' | Out.rt r S' => Res.ok r S' | _ => Res.bad) = _
    rw [all]
theorem ixN_lt {n : Nat} {i : Int} (h0 : 0 ≤ i) (h1 : i < n) : ixN n i = some i.toNat := by
  unfold ixN
  rw [if_pos h0, if_pos h1]
theorem atI_mem {α : Type} {xs : List α} {i : Int} (h0 : 0 ≤ i) (h1 : i < xs.length) : ∃ x, atI xs i = some x ∧ x ∈ xs := by
  unfold atI
  rw [ixN_lt h0 h1]
  have h2 : i.toNat < xs.length := by omega
  exact ⟨xs[i.toNat], List.getElem?_eq_getElem h2, List.getElem_mem h2⟩
def bOf (p : Nat) : List SA := [.ret (.ix (.var 1) (.call p [.var 0, .blt .len [.var 1]]))]
/-- one of a sequence's items, as the machine takes it -/
theorem of_any {T : List FD} {p o n : Nat} (hT : T[p]? = some ⟨2, 4, bPick⟩) (hO : T[o]? = some ⟨2, 2, bOf p⟩) (H : HandOk S l m) {d : D} {k : Nat} (hd : deref S d = d) (hd' : ∀ S', deref S' d = d) (hlen : bltD .len [d] = some (.int k)) (k0 : 0 < k) (k1 : k ≤ 100000) :
    ∃ i S', callAt T (n + 2) o [.ref l, d] S = opt (ixD d (.int i)) S' ∧ 0 ≤ i ∧ i < k ∧ HandOk S' l m ∧ Still l m S S' := by
  obtain ⟨i, S', e, h0, h1, H', st⟩ := pick_ok (n := n) hT H (k := (k : Int)) (by omega) (by omega)
  refine ⟨i, S', ?_, h0, h1, H', st⟩
  rw [callAt_at hO rfl]
  have g0 : (startE [.ref l, d] 2)[0]? = some (some (.ref l)) := rfl
  have g1 : (startE [.ref l, d] 2)[1]? = some (some d) := rfl
  have hex : ex (callAt T (n + 1)) (.ret (.ix (.var 1) (.call p [.var 0, .blt .len [.var 1]]))) (startE [.ref l, d] 2) S = Out.of (opt (ixD d (.int i)) S') fun d S1 => .rt d S1 := by
    simp only [ex, ev, evs, g0, g1, Res.bind_ok, List.map_cons, List.map_nil, hd, hlen, opt, e, hd']
  show (match exs (callAt T (n + 1)) (bOf p) (startE [.ref l, d] 2) S with | Out.nx _ S' => Res.ok D.non S' | Out.rt r S' => Res.ok r S' | _ => Res.bad) = _
  unfold bOf
  simp only [exs]
  rw [hex]
  cases ixD d (.int i) <;> rfl
theorem of_lst {T : List FD} {p o n : Nat} (hT : T[p]? = some ⟨2, 4, bPick⟩) (hO : T[o]? = some ⟨2, 2, bOf p⟩) (H : HandOk S l m) {xs : List D} (k0 : 0 < xs.length) (k1 : xs.length ≤ 100000) :
    ∃ x S', callAt T (n + 2) o [.ref l, .lst xs] S = .ok x S' ∧ x ∈ xs ∧ HandOk S' l m ∧ Still l m S S' := by
  obtain ⟨i, S', e, h0, h1, H', st⟩ := of_any (n := n) hT hO H (d := .lst xs) rfl (fun _ => rfl) rfl k0 k1
  obtain ⟨x, h2, h3⟩ := atI_mem h0 h1
  refine ⟨x, S', ?_, h3, H', st⟩
  rw [e]
  simp only [ixD, h2]
  rfl
theorem of_tup {T : List FD} {p o n : Nat} (hT : T[p]? = some ⟨2, 4, bPick⟩) (hO : T[o]? = some ⟨2, 2, bOf p⟩) (H : HandOk S l m) {xs : List D} (k0 : 0 < xs.length) (k1 : xs.length ≤ 100000) :
    ∃ x S', callAt T (n + 2) o [.ref l, .tup xs] S = .ok x S' ∧ x ∈ xs ∧ HandOk S' l m ∧ Still l m S S' := by
  obtain ⟨i, S', e, h0, h1, H', st⟩ := of_any (n := n) hT hO H (d := .tup xs) rfl (fun _ => rfl) rfl k0 k1
  obtain ⟨x, h2, h3⟩ := atI_mem h0 h1
  refine ⟨x, S', ?_, h3, H', st⟩
  rw [e]
  simp only [ixD, h2]
  rfl
theorem of_str {T : List FD} {p o n : Nat} (hT : T[p]? = some ⟨2, 4, bPick⟩) (hO : T[o]? = some ⟨2, 2, bOf p⟩) (H : HandOk S l m) {z : Str} (k0 : 0 < z.length) (k1 : z.length ≤ 100000) :
    ∃ c S', callAt T (n + 2) o [.ref l, .str z] S = .ok (.str ⟨#[c]⟩) S' ∧ c ∈ z.cps.toList ∧ HandOk S' l m ∧ Still l m S S' := by
  have hz : z.length ≤ LIM := k1
  obtain ⟨i, S', e, h0, h1, H', st⟩ := of_any (n := n) hT hO H (d := .str z) rfl (fun _ => rfl) (by simp only [bltD, if_pos (Nat.le_trans k1 (by decide) : z.length ≤ 10000000)]) k0 k1
  have hl : z.cps.toList.length = z.length := by simp [Str.length]
  obtain ⟨x, h2, h3⟩ := atI_mem (xs := z.cps.toList) h0 (by rw [hl]; exact h1)
  refine ⟨x, S', ?_, h3, H', st⟩
  rw [e]
  simp only [ixD, if_pos hz, h2]
  rfl
def turnF (F : Fn) (p : P) (body : List SA) (x : D) (env : Env) (S : Store) : Out := match bindP p x env with
  | none => .bad
  | some env' => exs F body env' S
theorem ex_for {F : Fn} {p : P} {k : IK} {its : List E} {body : List SA} {env : Env} {S : Store} : ex F (.for_ p k its body) env S = .of (evs F its env S) fun ds S1 => match itD k ds with
    | none => .bad
    | some xs => loopF (turnF F p body) xs env S1 := by
  simp only [ex]
  rfl
theorem ev_comp {F : Fn} {mu : Bool} {p : P} {k : IK} {its cond : List E} {e : E} {env : Env} {S : Store} : ev F (.comp mu p k its cond e) env S = (evs F its env S).bind fun ds S1 => (opt (itD k ds) S1).bind fun xs S1 =>
      (loopC (turnC F p cond e env) xs S1).bind fun ys S2 => if ys.length ≤ LIM then (match mu with
          | true => .ok (.ref S2.length) (S2 ++ [.lst ys])
          | false => .ok (.lst ys) S2) else .bad := by
  rw [ev]
  rfl
/-! the hand is made -/
def bHand : List SA := [
  .asg (.name 1) (.con (.int 23)),
  .for_ (.name 2) .seq [.sl (.var 0) [] [.con (.int 63)]] [.asg (.name 1) (.bin .mod (.bin .add (.bin .add (.bin .mul (.var 1) (.con (.int 6364136223846793))) (.bin .mod (.var 2) (.con (.int 2305843009213693951)))) (.con (.int 31))) (.con (.int 2305843009213693951)))],
  .ret (.nlst [.comp true (.name 2) .seq [.sl (.var 0) [] [.con (.int 63)]] [.cmp .ge (.var 2) (.bin .pow (.con (.int 10)) (.con (.int 18)))] (.var 2), .var 1])]
theorem hand_loop (F : Fn) (s0 : D) : ∀ (ns : List Int) (seed : Int) (z : Option D) (S : Store), 0 ≤ seed → seed < P61 →
    ∃ seed' z', loopF (turnF F (.name 2) [.asg (.name 1) (.bin .mod (.bin .add (.bin .add (.bin .mul (.var 1) (.con (.int 6364136223846793))) (.bin .mod (.var 2) (.con (.int 2305843009213693951)))) (.con (.int 31))) (.con (.int 2305843009213693951)))]) (ns.map .int) [some s0, some (.int seed), z] S = .nx [some s0, some (.int seed'), z'] S ∧ 0 ≤ seed' ∧ seed' < P61
  | [], seed, z, S, h0, h1 => ⟨seed, z, rfl, h0, h1⟩
  | x :: ns, seed, z, S, h0, h1 => by
    have h1' : seed < 2305843009213693951 := h1
    have hm : mulOk seed 6364136223846793 = true := mulOk_w h0 (by omega) (by decide) (by decide)
    have hp : (0 : Int) < 2305843009213693951 := by decide
    obtain ⟨s', z', e, q⟩ := hand_loop F s0 ns ((seed * 6364136223846793 + x % 2305843009213693951 + 31) % 2305843009213693951) (some (.int x)) S (Int.emod_nonneg _ (by decide)) (Int.emod_lt_of_pos _ (by decide))
    refine ⟨s', z', ?_, q⟩
    have g1 : ([some s0, some (.int seed), some (.int x)] : Env)[1]? = some (some (.int seed)) := rfl
    have g2 : ([some s0, some (.int seed), some (.int x)] : Env)[2]? = some (some (.int x)) := rfl
    have step : exs F [.asg (.name 1) (.bin .mod (.bin .add (.bin .add (.bin .mul (.var 1) (.con (.int 6364136223846793))) (.bin .mod (.var 2) (.con (.int 2305843009213693951)))) (.con (.int 31))) (.con (.int 2305843009213693951)))] [some s0, some (.int seed), some (.int x)] S
        = .nx [some s0, some (.int ((seed * 6364136223846793 + x % 2305843009213693951 + 31) % 2305843009213693951)), some (.int x)] S := by
      simp only [exs, ex, ev, g1, g2, Res.bind_ok, deref, binD, hm, if_true, if_pos hp, opt, Out.of]
      rfl
    have b : bindP (.name 2) (.int x) [some s0, some (.int seed), z] = some [some s0, some (.int seed), some (.int x)] := rfl
    have t : turnF F (.name 2) [.asg (.name 1) (.bin .mod (.bin .add (.bin .add (.bin .mul (.var 1) (.con (.int 6364136223846793))) (.bin .mod (.var 2) (.con (.int 2305843009213693951)))) (.con (.int 31))) (.con (.int 2305843009213693951)))] (.int x) [some s0, some (.int seed), z] S = .nx [some s0, some (.int ((seed * 6364136223846793 + x % 2305843009213693951 + 31) % 2305843009213693951)), some (.int x)] S := by unfold turnF; rw [b]; exact step
    simp only [List.map_cons, loopF, t]
    exact e
theorem hand_digits (F : Fn) (env : Env) : ∀ (ns : List Int) (S : Store), 2 < env.length → ∃ ds : List Int, loopC (turnC F (.name 2) [.cmp .ge (.var 2) (.bin .pow (.con (.int 10)) (.con (.int 18)))] (.var 2) env) (ns.map .int) S = .ok (ds.map .int) S ∧ ds.length ≤ ns.length
  | [], S, h => ⟨[], rfl, Nat.le_refl _⟩
  | x :: ns, S, h => by
    obtain ⟨ds, e, hl⟩ := hand_digits F env ns S h
    have hp : (0 : Int) ≤ 18 ∧ (18 : Int) ≤ 1000 ∧ (10 : Int).natAbs < 2 ^ 64 := by decide
    have b : bindP (.name 2) (.int x) (wipeE env (slotsP (.name 2))) = some ((env.set 2 none).set 2 (some (.int x))) := by
      simp only [bindP, slotsP, wipeE, List.length_set, if_pos h]
    have g2 : ((env.set 2 none).set 2 (some (.int x)))[2]? = some (some (.int x)) := List.getElem?_set_self (by rw [List.length_set]; exact h)
    generalize (env.set 2 none).set 2 (some (.int x)) = env2 at b g2
    have c : evs F [.cmp .ge (.var 2) (.bin .pow (.con (.int 10)) (.con (.int 18)))] env2 S = .ok [.bl (decide ((10 : Int) ^ (18 : Int).toNat ≤ x))] S := by
      simp only [evs, ev, g2, Res.bind_ok, deref, binD, if_pos hp, opt, cmpD, Option.map_some]
    by_cases hx : (10 : Int) ^ (18 : Int).toNat ≤ x
    · rw [decide_eq_true hx] at c
      refine ⟨x :: ds, ?_, by simp only [List.length_cons]; omega⟩
      have t : turnC F (.name 2) [.cmp .ge (.var 2) (.bin .pow (.con (.int 10)) (.con (.int 18)))] (.var 2) env (.int x) S = .ok (some (.int x)) S := by
        unfold turnC
        rw [b]
        simp only [c, Res.bind_ok, ev, g2]
      simp only [List.map_cons, loopC, t, e, Res.bind_ok]
    · rw [decide_eq_false hx] at c
      refine ⟨ds, ?_, by simp only [List.length_cons]; omega⟩
      have t : turnC F (.name 2) [.cmp .ge (.var 2) (.bin .pow (.con (.int 10)) (.con (.int 18)))] (.var 2) env (.int x) S = .ok none S := by
        unfold turnC
        rw [b]
        simp only [c, Res.bind_ok]
      simp only [List.map_cons, loopC, t, e, Res.bind_ok]
theorem hand_ok {T : List FD} {p n : Nat} (hT : T[p]? = some ⟨1, 3, bHand⟩) (ns : List Int) (hn : ns.length ≤ 63) :
    ∃ S', callAt T (n + 1) p [.scr ns] [] = .ok (.ref 1) S' ∧ HandOk S' 1 0 ∧ S'.length = 2 := by
  have hc : cutD ns none (some 63) = ns := by
    refine cut_whole ⟨rfl, ?_⟩
    show (if (63 : Int) < 0 then ((63 : Int) + (ns.length : Int)).toNat else min (63 : Int).toNat ns.length) = ns.length
    rw [if_neg (by decide)]
    exact Nat.min_eq_right hn
  rw [callAt_at hT rfl]
  generalize callAt T n = F
  have g0 : ∀ a b : Option D, ([some (.scr ns), a, b] : Env)[0]? = some (some (.scr ns)) := fun _ _ => rfl
  have hs : ∀ (a b : Option D) (S : Store), evs F [.sl (.var 0) [] [.con (.int 63)]] [some (.scr ns), a, b] S = .ok [.lst (ns.map .int)] S := fun a b S => by
    simp only [evs, ev, g0, Res.bind_ok, partD, opt, deref, slD, hc]
  obtain ⟨seed, z, e1, s0, s1⟩ := hand_loop F (.scr ns) ns 23 none [] (by decide) (by decide)
  obtain ⟨ds, e2, hl⟩ := hand_digits F [some (.scr ns), some (.int seed), z] ns [] (by show 2 < 3; decide)
  refine ⟨[.lst (ds.map .int), .lst [.ref 0, .int seed]], ?_, ⟨ds, seed, by decide, rfl, rfl, s0, s1, Nat.le_trans hl hn⟩, rfl⟩
  have w1 : ex F (.asg (.name 1) (.con (.int 23))) (startE [.scr ns] 3) [] = .nx [some (.scr ns), some (.int 23), none] [] := rfl
  have w2 : ex F (.for_ (.name 2) .seq [.sl (.var 0) [] [.con (.int 63)]] [.asg (.name 1) (.bin .mod (.bin .add (.bin .add (.bin .mul (.var 1) (.con (.int 6364136223846793))) (.bin .mod (.var 2) (.con (.int 2305843009213693951)))) (.con (.int 31))) (.con (.int 2305843009213693951)))]) [some (.scr ns), some (.int 23), none] [] = .nx [some (.scr ns), some (.int seed), z] [] := by
    rw [ex_for, hs]
    exact e1
  have hz : (ds.map D.int).length ≤ LIM := by rw [List.length_map]; show _ ≤ 100000; omega
  have w3 : ex F (.ret (.nlst [.comp true (.name 2) .seq [.sl (.var 0) [] [.con (.int 63)]] [.cmp .ge (.var 2) (.bin .pow (.con (.int 10)) (.con (.int 18)))] (.var 2), .var 1])) [some (.scr ns), some (.int seed), z] [] = .rt (.ref 1) [.lst (ds.map .int), .lst [.ref 0, .int seed]] := by
    have cc : ev F (.comp true (.name 2) .seq [.sl (.var 0) [] [.con (.int 63)]] [.cmp .ge (.var 2) (.bin .pow (.con (.int 10)) (.con (.int 18)))] (.var 2)) [some (.scr ns), some (.int seed), z] [] = .ok (.ref 0) [.lst (ds.map .int)] := by
      rw [ev_comp, hs]
      simp only [Res.bind_ok, itD, opt, e2, if_pos hz, List.nil_append, List.length_nil]
    have g1 : ([some (.scr ns), some (.int seed), z] : Env)[1]? = some (some (.int seed)) := rfl
    generalize E.comp true (.name 2) .seq [.sl (.var 0) [] [.con (.int 63)]] [.cmp .ge (.var 2) (.bin .pow (.con (.int 10)) (.con (.int 18)))] (.var 2) = ee at cc ⊢
    simp only [ex, ev, evs, cc, g1, Res.bind_ok, Out.of]
    rfl
  have all : exs F bHand (startE [.scr ns] 3) [] = .rt (.ref 1) [.lst (ds.map .int), .lst [.ref 0, .int seed]] := by
    unfold bHand
    simp only [exs, w1, w2, w3, Out.then]
  show (match exs F bHand (startE [.scr ns] 3) [] with | Out.nx _ S' => Res.ok D.non S' | Out.rt r S' => Res.ok r S' | _ => Res.bad) = _
  rw [all]
end
end MP

/-! LK2: expressions that change nothing. -/
namespace MP
open PySem L2
/-- e gives d and changes nothing -/
def Pv (F : Fn) (env : Env) (S : Store) (e : E) (d : D) : Prop := ev F e env S = .ok d S
def Pvs (F : Fn) (env : Env) (S : Store) (es : List E) (ds : List D) : Prop := evs F es env S = .ok ds S
/-- a body gives d and changes nothing -/
def Pb (F : Fn) (env : Env) (S : Store) (b : List SA) (d : D) : Prop := exs F b env S = .rt d S
section
variable {F : Fn} {env : Env} {S : Store} {a b c : E} {d d1 d2 : D} {x y z : Bool}
theorem pvs_nil : Pvs F env S [] [] := by unfold Pvs; simp only [evs]
theorem pvs_cons {e : E} {es : List E} {ds : List D} (h : Pv F env S e d) (k : Pvs F env S es ds) : Pvs F env S (e :: es) (d :: ds) := by
  unfold Pv at h; unfold Pvs at k ⊢
  simp only [evs, h, k, Res.bind_ok]
theorem pvs_1 {e : E} (h : Pv F env S e d) : Pvs F env S [e] [d] := pvs_cons h pvs_nil
theorem pvs_2 {e e' : E} (h : Pv F env S e d1) (k : Pv F env S e' d2) : Pvs F env S [e, e'] [d1, d2] := pvs_cons h (pvs_1 k)
theorem pv_var {i : Nat} (h : env[i]? = some (some d)) : Pv F env S (.var i) d := by unfold Pv; simp only [ev, h]
theorem pv_con : Pv F env S (.con d) d := by unfold Pv; simp only [ev]
theorem pv_tup {es : List E} {ds : List D} (h : Pvs F env S es ds) (hl : ds.length ≤ 100000) : Pv F env S (.tup es) (.tup ds) := by
  unfold Pv; unfold Pvs at h
  have hl : ds.length ≤ LIM := hl
  simp only [ev, h, Res.bind_ok, if_pos hl]
theorem pv_lst {es : List E} {ds : List D} (h : Pvs F env S es ds) (hl : ds.length ≤ 100000) : Pv F env S (.lst es) (.lst ds) := by
  unfold Pv; unfold Pvs at h
  have hl : ds.length ≤ LIM := hl
  simp only [ev, h, Res.bind_ok, if_pos hl]
theorem pv_and (h : Pv F env S a (.bl x)) (k : x = true → Pv F env S b (.bl y)) : Pv F env S (.and a b) (.bl (x && y)) := by
  unfold Pv at *
  cases x with
  | true => simp only [ev, h, Res.bind_ok, k rfl]; rfl
  | false => simp only [ev, h, Res.bind_ok]; rfl
theorem pv_or (h : Pv F env S a (.bl x)) (k : x = false → Pv F env S b (.bl y)) : Pv F env S (.or a b) (.bl (x || y)) := by
  unfold Pv at *
  cases x with
  | false => simp only [ev, h, Res.bind_ok, k rfl]; rfl
  | true => simp only [ev, h, Res.bind_ok]; rfl
theorem pv_not (h : Pv F env S a (.bl x)) : Pv F env S (.not a) (.bl (!x)) := by
  unfold Pv at *
  simp only [ev, h, Res.bind_ok]
theorem pv_ite (h : Pv F env S a (.bl x)) (k1 : x = true → Pv F env S b d) (k2 : x = false → Pv F env S c d) : Pv F env S (.ite a b c) d := by
  unfold Pv at *
  cases x with
  | true => simp only [ev, h, Res.bind_ok, k1 rfl]
  | false => simp only [ev, h, Res.bind_ok, k2 rfl]
theorem pv_call {f : Nat} {es : List E} {ds : List D} (h : Pvs F env S es ds) (k : F f ds S = .ok d S) : Pv F env S (.call f es) d := by
  unfold Pv; unfold Pvs at h
  simp only [ev, h, Res.bind_ok, k]
theorem pv_callk {f : Nat} {es ks : List E} {ds zs : List D} (h : Pvs F env S es ds) (h2 : Pvs F env S ks zs) (k : F f (ds ++ zs) S = .ok d S) : Pv F env S (.callk f es ks) d := by
  unfold Pv; unfold Pvs at h h2
  simp only [ev, h, h2, Res.bind_ok, k]
theorem pv_callv {i f : Nat} {fs : List Nat} {es : List E} {ds : List D} (he : env[i]? = some (some (.fn f))) (hf : f ∈ fs) (h : Pvs F env S es ds) (k : F f ds S = .ok d S) : Pv F env S (.callv i fs es) d := by
  unfold Pv; unfold Pvs at h
  simp only [ev, he, if_pos hf, h, Res.bind_ok, k]
theorem pv_blt {bl : Blt} {es : List E} {ds : List D} (h : Pvs F env S es ds) (k : bltD bl (ds.map (deref S)) = some d) : Pv F env S (.blt bl es) d := by
  unfold Pv; unfold Pvs at h
  simp only [ev, h, Res.bind_ok, k, opt]
theorem pv_bin {o : BOp} (h : Pv F env S a d1) (k : Pv F env S b d2) (r : binD o (deref S d1) (deref S d2) = some d) : Pv F env S (.bin o a b) d := by
  unfold Pv at *
  simp only [ev, h, k, Res.bind_ok, r, opt]
theorem pv_cmp {o : COp} (h : Pv F env S a d1) (k : Pv F env S b d2) (r : cmpD o (deref S d1) (deref S d2) = some x) : Pv F env S (.cmp o a b) (.bl x) := by
  unfold Pv at *
  simp only [ev, h, k, Res.bind_ok, r, opt, Option.map_some]
theorem pv_chain {o o' : COp} {d3 : D} (h : Pv F env S a d1) (k : Pv F env S b d2) (l : Pv F env S c d3) (r : cmpD o (deref S d1) (deref S d2) = some x) (r2 : cmpD o' (deref S d2) (deref S d3) = some y) : Pv F env S (.chain o o' a b c) (.bl (x && y)) := by
  unfold Pv at *
  cases x with
  | true => simp only [ev, h, k, l, Res.bind_ok, r, r2, opt, Option.map_some]; rfl
  | false => simp only [ev, h, k, l, Res.bind_ok, r, opt]; rfl
theorem pv_ix (h : Pv F env S a d1) (k : Pv F env S b d2) (r : ixD (deref S d1) d2 = some d) : Pv F env S (.ix a b) d := by
  unfold Pv at *
  simp only [ev, h, k, Res.bind_ok, r, opt]
theorem pv_sl {lo hi : List E} {dl dh : List D} {l u : Option Int} (h : Pv F env S a d1) (k1 : Pvs F env S lo dl) (k2 : Pvs F env S hi dh) (p1 : partD dl = some l) (p2 : partD dh = some u) (r : slD l u (deref S d1) = some d) : Pv F env S (.sl a lo hi) d := by
  unfold Pv at *; unfold Pvs at k1 k2
  simp only [ev, h, k1, k2, p1, p2, Res.bind_ok, r, opt]
theorem pv_mth {m : Mth} {o : E} {es : List E} {ds : List D} (h : Pv F env S o d1) (hm : mty m (deref S d1) = true) (k : Pvs F env S es ds) (hu : m ≠ .update) (hp : isMut m = false) (r : mthP m (deref S d1) (ds.map (deref S)) = some d) : Pv F env S (.mth m o es) d := by
  unfold Pv at *; unfold Pvs at k
  simp only [ev, h, hm, k, Res.bind_ok, mthD, if_neg hu, hp, r, opt]
theorem pv_cin {ng : Bool} {kvs : List (Str × D)} {w : Str} (h : Pv F env S a (.str w)) : Pv F env S (.cin ng kvs a) (.bl (if ng then (lookS w kvs).isNone else (lookS w kvs).isSome)) := by
  unfold Pv at *
  simp only [ev, h, Res.bind_ok]
theorem pv_cget {kvs : List (Str × D)} {w : Str} (h : Pv F env S a (.str w)) (k : lookS w kvs = some d) : Pv F env S (.cget kvs a) d := by
  unfold Pv at *
  simp only [ev, h, Res.bind_ok, k, opt]
/-- a comprehension whose parts change nothing, no condition: each item mapped -/
theorem loop_map {p : P} {e : E} {g : D → D} : ∀ {xs : List D}, (∀ z ∈ xs, ∃ env', bindP p z (wipeE env (slotsP p)) = some env' ∧ Pv F env' S e (g z)) → loopC (turnC F p [] e env) xs S = .ok (xs.map g) S
  | [], _ => rfl
  | z :: xs, h => by
    obtain ⟨env', h1, h2⟩ := h z List.mem_cons_self
    have t : turnC F p [] e env z S = .ok (some (g z)) S := by
      unfold Pv at h2
      unfold turnC
      rw [h1]
      simp only [evs, Res.bind_ok, h2]
    simp only [loopC, t, Res.bind_ok, loop_map fun z hz => h z (List.mem_cons_of_mem _ hz)]
    rfl
theorem loop_filter {p : P} {cnd e : E} {g : D → D} {t : D → Bool} : ∀ {xs : List D}, (∀ z ∈ xs, ∃ env', bindP p z (wipeE env (slotsP p)) = some env' ∧ Pv F env' S cnd (.bl (t z)) ∧ (t z = true → Pv F env' S e (g z))) → loopC (turnC F p [cnd] e env) xs S = .ok ((xs.filter t).map g) S
  | [], _ => rfl
  | z :: xs, h => by
    obtain ⟨env', h1, h2, h3⟩ := h z List.mem_cons_self
    have ih := loop_filter (g := g) (t := t) fun z hz => h z (List.mem_cons_of_mem _ hz)
    unfold Pv at h2 h3
    cases ht : t z with
    | true =>
      have k : turnC F p [cnd] e env z S = .ok (some (g z)) S := by
        unfold turnC
        rw [h1]
        rw [ht] at h2
        simp only [evs, Res.bind_ok, h2, h3 ht]
      simp only [loopC, k, Res.bind_ok, ih, List.filter_cons_of_pos ht, List.map_cons]
    | false =>
      have k : turnC F p [cnd] e env z S = .ok none S := by
        unfold turnC
        rw [h1]
        rw [ht] at h2
        simp only [evs, Res.bind_ok, h2]
      have hn : ¬ t z = true := by rw [ht]; decide
      simp only [loopC, k, Res.bind_ok, ih, List.filter_cons_of_neg hn]
theorem pv_comp {p : P} {k : IK} {its : List E} {e : E} {ds xs : List D} {g : D → D} (h : Pvs F env S its ds) (hi : itD k ds = some xs) (hl : xs.length ≤ 100000)
    (ht : ∀ z ∈ xs, ∃ env', bindP p z (wipeE env (slotsP p)) = some env' ∧ Pv F env' S e (g z)) : Pv F env S (.comp false p k its [] e) (.lst (xs.map g)) := by
  unfold Pv; unfold Pvs at h
  have hl : (xs.map g).length ≤ LIM := by rw [List.length_map]; exact hl
  rw [ev_comp, h]
  simp only [Res.bind_ok, hi, opt, loop_map ht, if_pos hl]
theorem pv_compF {p : P} {k : IK} {its : List E} {cnd e : E} {ds xs : List D} {g : D → D} {t : D → Bool} (h : Pvs F env S its ds) (hi : itD k ds = some xs) (hl : xs.length ≤ 100000)
    (ht : ∀ z ∈ xs, ∃ env', bindP p z (wipeE env (slotsP p)) = some env' ∧ Pv F env' S cnd (.bl (t z)) ∧ (t z = true → Pv F env' S e (g z))) : Pv F env S (.comp false p k its [cnd] e) (.lst ((xs.filter t).map g)) := by
  unfold Pv; unfold Pvs at h
  have hl : ((xs.filter t).map g).length ≤ LIM := by rw [List.length_map]; exact Nat.le_trans (List.length_filter_le _ _) hl
  rw [ev_comp, h]
  simp only [Res.bind_ok, hi, opt, loop_filter ht, if_pos hl]
/-! bodies -/
theorem pb_ret {r : List SA} (h : Pv F env S a d) : Pb F env S (.ret a :: r) d := by
  unfold Pb; unfold Pv at h
  simp only [exs, ex, h, Out.of, Out.then]
theorem pb_ifs {t f r : List SA} (h : Pv F env S a (.bl x)) (k1 : x = true → Pb F env S t d) (k2 : x = false → exs F f env S = .nx env S ∧ Pb F env S r d) : Pb F env S (.ifs a t f :: r) d := by
  unfold Pb at *; unfold Pv at h
  cases x with
  | true => simp only [exs, ex, h, Out.of, k1 rfl, Out.then]
  | false => simp only [exs, ex, h, Out.of, (k2 rfl).1, Out.then, (k2 rfl).2]
theorem pb_if {t r : List SA} (h : Pv F env S a (.bl x)) (k1 : x = true → Pb F env S t d) (k2 : x = false → Pb F env S r d) : Pb F env S (.ifs a t [] :: r) d :=
  pb_ifs h k1 fun z => ⟨by simp only [exs], k2 z⟩
theorem pb_asg {p : P} {r : List SA} {env' : Env} (h : Pv F env S a d1) (k : bindP p d1 env = some env') (l : Pb F env' S r d) : Pb F env S (.asg p a :: r) d := by
  unfold Pb at *; unfold Pv at h
  simp only [exs, ex, h, Out.of, k, Out.then, l]
theorem pb_par {i j : Nat} {r : List SA} {env' : Env} (h : Pv F env S a d1) (k : Pv F env S b d2) (hi : i < env.length ∧ j < env.length) (he : (env.set i (some d1)).set j (some d2) = env') (l : Pb F env' S r d) : Pb F env S (.par i j a b :: r) d := by
  unfold Pb at *; unfold Pv at h k
  simp only [exs, ex, h, k, Out.of, if_pos hi, he, Out.then, l]
/-- a call whose body changes nothing -/
theorem call_pb {T : List FD} {n f : Nat} {fd : FD} {ds : List D} (h : T[f]? = some fd) (hl : ds.length = fd.ps) (k : Pb (callAt T n) (startE ds fd.ns) S fd.body d) : callAt T (n + 1) f ds S = .ok d S := by
  rw [callAt_at h hl]
  unfold Pb at k
  rw [k]
end
/-! ### data -/
theorem deref_dat {S : Store} {d : D} (h : datB d = true) : deref S d = d := by
  cases d <;> first | rfl | (simp only [datB] at h; cases h)
theorem datsB_mem {xs : List D} (h : datsB xs = true) {d : D} (m : d ∈ xs) : datB d = true := by
  induction xs with
  | nil => cases m
  | cons x xs ih =>
    simp only [datsB, Bool.and_eq_true] at h
    rcases List.mem_cons.mp m with rfl | m
    · exact h.1
    · exact ih h.2 m
def isIntT : D → Bool | .int _ => true | .bl _ => true | _ => false
def isBlT : D → Bool | .bl _ => true | _ => false
def isStrT : D → Bool | .str _ => true | _ => false
def isTupT : D → Bool | .tup _ => true | _ => false
def isLstT : D → Bool | .lst _ => true | _ => false
theorem kit_n (t n : String) (b : Bool) (h : kitB t n = some b) : kitB t n = some b := h
theorem ii_int {d : D} (h : datB d = true) : bltD .isinst [d, .ty "int"] = some (.bl (isIntT d)) := by
  cases d <;> first | (simp only [datB] at h; cases h; done) | kernel_rfl
theorem ii_bool {d : D} (h : datB d = true) : bltD .isinst [d, .ty "bool"] = some (.bl (isBlT d)) := by
  cases d <;> first | (simp only [datB] at h; cases h; done) | kernel_rfl
theorem ii_str {d : D} (h : datB d = true) : bltD .isinst [d, .ty "str"] = some (.bl (isStrT d)) := by
  cases d <;> first | (simp only [datB] at h; cases h; done) | kernel_rfl
theorem ii_tup {d : D} (h : datB d = true) : bltD .isinst [d, .ty "tuple"] = some (.bl (isTupT d)) := by
  cases d <;> first | (simp only [datB] at h; cases h; done) | kernel_rfl
theorem ii_lst {d : D} (h : datB d = true) : bltD .isinst [d, .ty "list"] = some (.bl (isLstT d)) := by
  cases d <;> first | (simp only [datB] at h; cases h; done) | kernel_rfl
end MP

/-! LK3: expressions that draw from the hand. -/
namespace MP
open PySem L2
/-- the hand stands, and all else as in B -/
def HandB (B S : Store) (l m : Nat) : Prop := HandOk S l m ∧ Still l m B S
theorem HandOk.base {S : Store} {l m : Nat} (H : HandOk S l m) : HandB S S l m := ⟨H, Still.refl⟩
theorem HandB.step {B S S' : Store} {l m : Nat} (H : HandB B S l m) (K : HandOk S' l m) (st : Still l m S S') : HandB B S' l m := ⟨K, H.2.trans st⟩
section
variable (B : Store) (l m : Nat) (F : Fn) (env : Env)
/-- at any store with the hand: e gives something of which P holds, the hand stands after it -/
def Hv (e : E) (P : D → Prop) : Prop := ∀ S, HandB B S l m → ∃ d S', ev F e env S = .ok d S' ∧ P d ∧ HandB B S' l m
def Hvs (es : List E) (P : List D → Prop) : Prop := ∀ S, HandB B S l m → ∃ ds S', evs F es env S = .ok ds S' ∧ P ds ∧ HandB B S' l m
def Hb (b : List SA) (P : D → Prop) : Prop := ∀ S, HandB B S l m → ∃ d S', exs F b env S = .rt d S' ∧ P d ∧ HandB B S' l m
end
section
variable {B : Store} {l m : Nat} {F : Fn} {env : Env} {e a b c : E} {P Q A : D → Prop}
theorem hv_pure {d : D} (h : ∀ S, Pv F env S e d) (p : P d) : Hv B l m F env e P := fun S H => ⟨d, S, h S, p, H⟩
theorem Hv.imp (h : Hv B l m F env e P) (k : ∀ d, P d → Q d) : Hv B l m F env e Q := fun S H => by
  obtain ⟨d, S', h1, h2, h3⟩ := h S H
  exact ⟨d, S', h1, k d h2, h3⟩
theorem hvs_nil {P : List D → Prop} (p : P []) : Hvs B l m F env [] P := fun S H => ⟨[], S, by simp only [evs], p, H⟩
theorem hvs_cons {es : List E} {P : List D → Prop} (h : Hv B l m F env e A) (k : ∀ d, A d → Hvs B l m F env es fun ds => P (d :: ds)) : Hvs B l m F env (e :: es) P := fun S H => by
  obtain ⟨d, S1, h1, h2, h3⟩ := h S H
  obtain ⟨ds, S2, k1, k2, k3⟩ := k d h2 S1 h3
  exact ⟨d :: ds, S2, by simp only [evs, h1, k1, Res.bind_ok], k2, k3⟩
theorem hvs_pure {es : List E} {ds : List D} {P : List D → Prop} (h : ∀ S, Pvs F env S es ds) (p : P ds) : Hvs B l m F env es P := fun S H => ⟨ds, S, h S, p, H⟩
theorem hv_tup {es : List E} (h : Hvs B l m F env es fun ds => ds.length ≤ 100000 ∧ P (.tup ds)) : Hv B l m F env (.tup es) P := fun S H => by
  obtain ⟨ds, S1, h1, ⟨h2, h3⟩, h4⟩ := h S H
  have h2' : ds.length ≤ LIM := h2
  exact ⟨.tup ds, S1, by simp only [ev, h1, Res.bind_ok, if_pos h2'], h3, h4⟩
theorem hv_lst {es : List E} (h : Hvs B l m F env es fun ds => ds.length ≤ 100000 ∧ P (.lst ds)) : Hv B l m F env (.lst es) P := fun S H => by
  obtain ⟨ds, S1, h1, ⟨h2, h3⟩, h4⟩ := h S H
  have h2' : ds.length ≤ LIM := h2
  exact ⟨.lst ds, S1, by simp only [ev, h1, Res.bind_ok, if_pos h2'], h3, h4⟩
theorem hv_call {f : Nat} {es : List E} (h : Hvs B l m F env es fun ds => ∀ S, HandB B S l m → ∃ d S', F f ds S = .ok d S' ∧ P d ∧ HandB B S' l m) : Hv B l m F env (.call f es) P := fun S H => by
  obtain ⟨ds, S1, h1, h2, h3⟩ := h S H
  obtain ⟨d, S2, k1, k2, k3⟩ := h2 S1 h3
  exact ⟨d, S2, by simp only [ev, h1, Res.bind_ok, k1], k2, k3⟩
/-- a built-in over what was drawn -/
theorem hv_blt {bl : Blt} {es : List E} (h : Hvs B l m F env es fun ds => ∃ d, (∀ S, bltD bl (ds.map (deref S)) = some d) ∧ P d) : Hv B l m F env (.blt bl es) P := fun S H => by
  obtain ⟨ds, S1, h1, ⟨d, h2, h3⟩, h4⟩ := h S H
  exact ⟨d, S1, by simp only [ev, h1, Res.bind_ok, h2, opt], h3, h4⟩
theorem hv_bin {o : BOp} (h : Hv B l m F env a A) (k : ∀ d1, A d1 → Hv B l m F env b fun d2 => ∃ d, (∀ S, binD o (deref S d1) (deref S d2) = some d) ∧ P d) : Hv B l m F env (.bin o a b) P := fun S H => by
  obtain ⟨d1, S1, h1, h2, h3⟩ := h S H
  obtain ⟨d2, S2, k1, ⟨d, k2, k3⟩, k4⟩ := k d1 h2 S1 h3
  exact ⟨d, S2, by simp only [ev, h1, k1, Res.bind_ok, k2, opt], k3, k4⟩
theorem hv_cmp {o : COp} (h : Hv B l m F env a A) (k : ∀ d1, A d1 → Hv B l m F env b fun d2 => ∃ x, (∀ S, cmpD o (deref S d1) (deref S d2) = some x) ∧ P (.bl x)) : Hv B l m F env (.cmp o a b) P := fun S H => by
  obtain ⟨d1, S1, h1, h2, h3⟩ := h S H
  obtain ⟨d2, S2, k1, ⟨x, k2, k3⟩, k4⟩ := k d1 h2 S1 h3
  exact ⟨.bl x, S2, by simp only [ev, h1, k1, Res.bind_ok, k2, opt, Option.map_some], k3, k4⟩
theorem hv_ite (h : Hv B l m F env c fun d => ∃ x, d = .bl x ∧ (x = true → Hv B l m F env a P) ∧ (x = false → Hv B l m F env b P)) : Hv B l m F env (.ite c a b) P := fun S H => by
  obtain ⟨d, S1, h1, ⟨x, rfl, h2, h3⟩, h4⟩ := h S H
  cases x with
  | true =>
    obtain ⟨d, S2, k1, k2⟩ := h2 rfl S1 h4
    exact ⟨d, S2, by simp only [ev, h1, Res.bind_ok, k1], k2⟩
  | false =>
    obtain ⟨d, S2, k1, k2⟩ := h3 rfl S1 h4
    exact ⟨d, S2, by simp only [ev, h1, Res.bind_ok, k1], k2⟩
theorem hv_mth {mt : Mth} {o : E} {es : List E} (h : Hv B l m F env o fun d1 => (∀ S, mty mt (deref S d1) = true) ∧ Hvs B l m F env es fun ds => ∃ d, (∀ S, mthP mt (deref S d1) (ds.map (deref S)) = some d) ∧ P d) (hu : mt ≠ .update) (hp : isMut mt = false) : Hv B l m F env (.mth mt o es) P := fun S H => by
  obtain ⟨d1, S1, h1, ⟨h2, h3⟩, h4⟩ := h S H
  obtain ⟨ds, S2, k1, ⟨d, k2, k3⟩, k4⟩ := h3 S1 h4
  exact ⟨d, S2, by simp only [ev, h1, h2, k1, Res.bind_ok, mthD, if_neg hu, hp, k2, opt], k3, k4⟩
theorem hloop_map {p : MP.P} {e : E} {G : D → Prop} : ∀ {xs : List D}, (∀ z ∈ xs, ∃ env', bindP p z (wipeE env (slotsP p)) = some env' ∧ Hv B l m F env' e G) → ∀ S, HandB B S l m →
    ∃ ys S', loopC (turnC F p [] e env) xs S = .ok ys S' ∧ ys.length = xs.length ∧ (∀ y ∈ ys, G y) ∧ HandB B S' l m
  | [], _, S, H => ⟨[], S, rfl, rfl, fun _ h => by (cases h), H⟩
  | z :: xs, h, S, H => by
    obtain ⟨env', h1, h2⟩ := h z List.mem_cons_self
    obtain ⟨y, S1, k1, k2, k3⟩ := h2 S H
    obtain ⟨ys, S2, r1, r2, r3, r4⟩ := hloop_map (fun z hz => h z (List.mem_cons_of_mem _ hz)) S1 k3
    have t : turnC F p [] e env z S = .ok (some y) S1 := by
      unfold turnC
      rw [h1]
      simp only [evs, Res.bind_ok, k1]
    refine ⟨y :: ys, S2, by simp only [loopC, t, Res.bind_ok, r1], by rw [List.length_cons, List.length_cons, r2], fun w hw => ?_, r4⟩
    rcases List.mem_cons.mp hw with rfl | hw
    · exact k2
    · exact r3 w hw
theorem hloop_filter {p : MP.P} {cnd e : E} : ∀ {xs : List D}, (∀ z ∈ xs, ∃ env', bindP p z (wipeE env (slotsP p)) = some env' ∧ Hv B l m F env' cnd (fun d => ∃ x, d = .bl x) ∧ ∀ S, Pv F env' S e z) → ∀ S, HandB B S l m →
    ∃ ys S', loopC (turnC F p [cnd] e env) xs S = .ok ys S' ∧ ys.Sublist xs ∧ HandB B S' l m
  | [], _, S, H => ⟨[], S, rfl, .slnil, H⟩
  | z :: xs, h, S, H => by
    obtain ⟨env', h1, h2, h3⟩ := h z List.mem_cons_self
    obtain ⟨y, S1, k1, ⟨x, rfl⟩, k3⟩ := h2 S H
    obtain ⟨ys, S2, r1, r2, r4⟩ := hloop_filter (fun z hz => h z (List.mem_cons_of_mem _ hz)) S1 k3
    cases x with
    | true =>
      have t : turnC F p [cnd] e env z S = .ok (some z) S1 := by
        have h3' : ev F e env' S1 = .ok z S1 := h3 S1
        unfold turnC
        rw [h1]
        simp only [evs, Res.bind_ok, k1, h3']
      exact ⟨z :: ys, S2, by simp only [loopC, t, Res.bind_ok, r1], r2.cons₂ z, r4⟩
    | false =>
      have t : turnC F p [cnd] e env z S = .ok none S1 := by
        unfold turnC
        rw [h1]
        simp only [evs, Res.bind_ok, k1]
      exact ⟨ys, S2, by simp only [loopC, t, Res.bind_ok, r1], r2.cons z, r4⟩
theorem hv_comp {p : MP.P} {k : IK} {its : List E} {e : E} {G : D → Prop} (h : Hvs B l m F env its fun ds => ∃ xs, itD k ds = some xs ∧ xs.length ≤ 100000 ∧ (∀ z ∈ xs, ∃ env', bindP p z (wipeE env (slotsP p)) = some env' ∧ Hv B l m F env' e G) ∧ ∀ ys, ys.length = xs.length → (∀ y ∈ ys, G y) → P (.lst ys)) :
    Hv B l m F env (.comp false p k its [] e) P := fun S H => by
  obtain ⟨ds, S1, h1, ⟨xs, h2, h3, h4, h5⟩, h6⟩ := h S H
  obtain ⟨ys, S2, r1, r2, r3, r4⟩ := hloop_map h4 S1 h6
  have hl : ys.length ≤ LIM := by rw [r2]; exact h3
  exact ⟨.lst ys, S2, by rw [ev_comp, h1]; simp only [Res.bind_ok, h2, opt, r1, if_pos hl], h5 ys r2 r3, r4⟩
theorem hv_compF {p : MP.P} {k : IK} {its : List E} {cnd e : E} (h : Hvs B l m F env its fun ds => ∃ xs, itD k ds = some xs ∧ xs.length ≤ 100000 ∧ (∀ z ∈ xs, ∃ env', bindP p z (wipeE env (slotsP p)) = some env' ∧ Hv B l m F env' cnd (fun d => ∃ x, d = .bl x) ∧ ∀ S, Pv F env' S e z) ∧ ∀ ys : List D, ys.Sublist xs → P (.lst ys)) :
    Hv B l m F env (.comp false p k its [cnd] e) P := fun S H => by
  obtain ⟨ds, S1, h1, ⟨xs, h2, h3, h4, h5⟩, h6⟩ := h S H
  obtain ⟨ys, S2, r1, r2, r4⟩ := hloop_filter h4 S1 h6
  have hl : ys.length ≤ LIM := Nat.le_trans r2.length_le h3
  exact ⟨.lst ys, S2, by rw [ev_comp, h1]; simp only [Res.bind_ok, h2, opt, r1, if_pos hl], h5 ys r2, r4⟩
/-! picks -/
theorem hv_pick {T : List FD} {p n v : Nat} (hT : T[p]? = some ⟨2, 4, bPick⟩) (h0 : env[v]? = some (some (.ref l))) {k : Int} (he : ∀ S, Pv (callAt T (n + 1)) env S e (.int k)) (k0 : 0 < k) (k1 : k ≤ 1000000) (hP : ∀ i : Int, 0 ≤ i → i < k → P (.int i)) :
    Hv B l m (callAt T (n + 1)) env (.call p [.var v, e]) P :=
  hv_call (hvs_pure (ds := [.ref l, .int k]) (fun S => pvs_2 (pv_var h0) (he S)) fun S H => by
    obtain ⟨i, S', e1, e2, e3, e4, st⟩ := pick_ok (n := n) hT H.1 k0 k1
    exact ⟨.int i, S', e1, hP i e2 e3, H.step e4 st⟩)
theorem hv_of {T : List FD} {p o n v : Nat} (hT : T[p]? = some ⟨2, 4, bPick⟩) (hO : T[o]? = some ⟨2, 2, bOf p⟩) (h0 : env[v]? = some (some (.ref l)))
    (h : Hv B l m (callAt T (n + 2)) env e fun d => ∃ xs, (d = .lst xs ∨ d = .tup xs) ∧ 0 < xs.length ∧ xs.length ≤ 100000 ∧ ∀ x ∈ xs, P x) : Hv B l m (callAt T (n + 2)) env (.call o [.var v, e]) P :=
  hv_call (hvs_cons (A := fun d => d = .ref l) (hv_pure (fun S => pv_var h0) rfl) fun d hd => hvs_cons h fun d2 ⟨xs, h1, h2, h3, h4⟩ => hvs_nil fun S H => by
    subst hd
    rcases h1 with rfl | rfl
    · obtain ⟨x, S', e1, e2, e3, st⟩ := of_lst (n := n) hT hO H.1 h2 h3
      exact ⟨x, S', e1, h4 x e2, H.step e3 st⟩
    · obtain ⟨x, S', e1, e2, e3, st⟩ := of_tup (n := n) hT hO H.1 h2 h3
      exact ⟨x, S', e1, h4 x e2, H.step e3 st⟩)
theorem hv_ofS {T : List FD} {p o n v : Nat} (hT : T[p]? = some ⟨2, 4, bPick⟩) (hO : T[o]? = some ⟨2, 2, bOf p⟩) (h0 : env[v]? = some (some (.ref l))) {z : Str} (he : ∀ S, Pv (callAt T (n + 2)) env S e (.str z)) (z0 : 0 < z.length) (z1 : z.length ≤ 100000)
    (hP : ∀ c ∈ z.cps.toList, P (.str ⟨#[c]⟩)) : Hv B l m (callAt T (n + 2)) env (.call o [.var v, e]) P :=
  hv_call (hvs_pure (ds := [.ref l, .str z]) (fun S => pvs_2 (pv_var h0) (he S)) fun S H => by
    obtain ⟨c, S', e1, e2, e3, st⟩ := of_str (n := n) hT hO H.1 z0 z1
    exact ⟨_, S', e1, hP c e2, H.step e3 st⟩)
/-! bodies -/
theorem hb_ret {r : List SA} (h : Hv B l m F env e P) : Hb B l m F env (.ret e :: r) P := fun S H => by
  obtain ⟨d, S1, h1, h2, h3⟩ := h S H
  exact ⟨d, S1, by simp only [exs, ex, h1, Out.of, Out.then], h2, h3⟩
theorem hb_asg {p : MP.P} {r : List SA} (h : Hv B l m F env e A) (k : ∀ d, A d → ∃ env', bindP p d env = some env' ∧ Hb B l m F env' r P) : Hb B l m F env (.asg p e :: r) P := fun S H => by
  obtain ⟨d, S1, h1, h2, h3⟩ := h S H
  obtain ⟨env', k1, k2⟩ := k d h2
  obtain ⟨d2, S2, r1, r2, r3⟩ := k2 S1 h3
  exact ⟨d2, S2, by simp only [exs, ex, h1, Out.of, k1, Out.then, r1], r2, r3⟩
theorem hb_ifT {t r : List SA} (h : ∀ S, Pv F env S c (.bl true)) (k : Hb B l m F env t P) : Hb B l m F env (.ifs c t [] :: r) P := fun S H => by
  obtain ⟨d, S1, h1, h2⟩ := k S H
  have h' : ev F c env S = .ok (.bl true) S := h S
  exact ⟨d, S1, by simp only [exs, ex, h', Out.of, h1, Out.then], h2⟩
theorem hb_ifF {t r : List SA} (h : ∀ S, Pv F env S c (.bl false)) (k : Hb B l m F env r P) : Hb B l m F env (.ifs c t [] :: r) P := fun S H => by
  obtain ⟨d, S1, h1, h2⟩ := k S H
  have h' : ev F c env S = .ok (.bl false) S := h S
  exact ⟨d, S1, by simp only [exs, ex, h', Out.of, h1, Out.then], h2⟩
theorem call_hb {T : List FD} {n f : Nat} {fd : FD} {ds : List D} (h : T[f]? = some fd) (hl : ds.length = fd.ps) (k : Hb B l m (callAt T n) (startE ds fd.ns) fd.body P) {S : Store} (H : HandB B S l m) : ∃ d S', callAt T (n + 1) f ds S = .ok d S' ∧ P d ∧ HandB B S' l m := by
  obtain ⟨d, S1, h1, h2⟩ := k S H
  exact ⟨d, S1, by rw [callAt_at h hl, h1], h2⟩
end
end MP

/-! LK4: expressions that leave things behind them, and change nothing that was there. -/
namespace MP
open PySem L2
section
variable (F : Fn) (env : Env)
/-- at any store: e gives d, the store grows -/
def Gv (e : E) (d : D) : Prop := ∀ S, ∃ Z, ev F e env S = .ok d (S ++ Z)
def Gvs (es : List E) (ds : List D) : Prop := ∀ S, ∃ Z, evs F es env S = .ok ds (S ++ Z)
def Gb (b : List SA) (d : D) : Prop := ∀ S, ∃ Z, exs F b env S = .rt d (S ++ Z)
def Gn (b : List SA) (env' : Env) : Prop := ∀ S, ∃ Z, exs F b env S = .nx env' (S ++ Z)
end
def Gc (F : Fn) (f : Nat) (ds : List D) (d : D) : Prop := ∀ S, ∃ Z, F f ds S = .ok d (S ++ Z)
section
variable {F : Fn} {env env' : Env} {e a b c : E} {d d1 d2 : D} {x y : Bool}
theorem gv_pure (h : ∀ S, Pv F env S e d) : Gv F env e d := fun S => ⟨[], by rw [List.append_nil]; exact h S⟩
theorem gvs_pure {es : List E} {ds : List D} (h : ∀ S, Pvs F env S es ds) : Gvs F env es ds := fun S => ⟨[], by rw [List.append_nil]; exact h S⟩
theorem gb_pure {b : List SA} (h : ∀ S, Pb F env S b d) : Gb F env b d := fun S => ⟨[], by rw [List.append_nil]; exact h S⟩
theorem gvs_cons {es : List E} {ds : List D} (h : Gv F env e d) (k : Gvs F env es ds) : Gvs F env (e :: es) (d :: ds) := fun S => by
  obtain ⟨Z, h1⟩ := h S
  obtain ⟨Y, h2⟩ := k (S ++ Z)
  exact ⟨Z ++ Y, by simp only [evs, h1, h2, Res.bind_ok]; rw [List.append_assoc]⟩
theorem gvs_1 (h : Gv F env e d) : Gvs F env [e] [d] := gvs_cons h (gvs_pure fun _ => pvs_nil)
theorem gv_not (h : Gv F env a (.bl x)) : Gv F env (.not a) (.bl (!x)) := fun S => by
  obtain ⟨Z, h1⟩ := h S
  exact ⟨Z, by simp only [ev, h1, Res.bind_ok]⟩
theorem gv_and (h : Gv F env a (.bl x)) (k : x = true → Gv F env b (.bl y)) : Gv F env (.and a b) (.bl (x && y)) := fun S => by
  obtain ⟨Z, h1⟩ := h S
  cases x with
  | true =>
    obtain ⟨Y, h2⟩ := k rfl (S ++ Z)
    exact ⟨Z ++ Y, by simp only [ev, h1, Res.bind_ok, h2]; rw [List.append_assoc]; rfl⟩
  | false => exact ⟨Z, by simp only [ev, h1, Res.bind_ok]; rfl⟩
theorem gv_or (h : Gv F env a (.bl x)) (k : x = false → Gv F env b (.bl y)) : Gv F env (.or a b) (.bl (x || y)) := fun S => by
  obtain ⟨Z, h1⟩ := h S
  cases x with
  | false =>
    obtain ⟨Y, h2⟩ := k rfl (S ++ Z)
    exact ⟨Z ++ Y, by simp only [ev, h1, Res.bind_ok, h2]; rw [List.append_assoc]; rfl⟩
  | true => exact ⟨Z, by simp only [ev, h1, Res.bind_ok]; rfl⟩
theorem gv_call {f : Nat} {es : List E} {ds : List D} (h : Gvs F env es ds) (k : Gc F f ds d) : Gv F env (.call f es) d := fun S => by
  obtain ⟨Z, h1⟩ := h S
  obtain ⟨Y, h2⟩ := k (S ++ Z)
  exact ⟨Z ++ Y, by simp only [ev, h1, Res.bind_ok, h2]; rw [List.append_assoc]⟩
theorem gv_blt {bl : Blt} {es : List E} {ds : List D} (h : Gvs F env es ds) (k : ∀ S, bltD bl (ds.map (deref S)) = some d) : Gv F env (.blt bl es) d := fun S => by
  obtain ⟨Z, h1⟩ := h S
  exact ⟨Z, by simp only [ev, h1, Res.bind_ok, k, opt]⟩
theorem gv_cmp {o : COp} (h : Gv F env a d1) (k : Gv F env b d2) (r : ∀ S, cmpD o (deref S d1) (deref S d2) = some x) : Gv F env (.cmp o a b) (.bl x) := fun S => by
  obtain ⟨Z, h1⟩ := h S
  obtain ⟨Y, h2⟩ := k (S ++ Z)
  exact ⟨Z ++ Y, by simp only [ev, h1, h2, Res.bind_ok, r, opt, Option.map_some]; rw [List.append_assoc]⟩
theorem gloop_map {p : P} {e : E} {g : D → D} : ∀ {xs : List D}, (∀ z ∈ xs, ∃ env', bindP p z (wipeE env (slotsP p)) = some env' ∧ Gv F env' e (g z)) → ∀ S, ∃ Z, loopC (turnC F p [] e env) xs S = .ok (xs.map g) (S ++ Z)
  | [], _, S => ⟨[], by rw [List.append_nil]; rfl⟩
  | z :: xs, h, S => by
    obtain ⟨env', h1, h2⟩ := h z List.mem_cons_self
    obtain ⟨Z, h3⟩ := h2 S
    obtain ⟨Y, h4⟩ := gloop_map (fun z hz => h z (List.mem_cons_of_mem _ hz)) (S ++ Z)
    have t : turnC F p [] e env z S = .ok (some (g z)) (S ++ Z) := by
      unfold turnC
      rw [h1]
      simp only [evs, Res.bind_ok, h3]
    exact ⟨Z ++ Y, by simp only [loopC, t, Res.bind_ok, h4, List.map_cons]; rw [List.append_assoc]⟩
theorem gv_comp {p : P} {k : IK} {its : List E} {e : E} {ds xs : List D} {g : D → D} (h : ∀ S, Pvs F env S its ds) (hi : itD k ds = some xs) (hl : xs.length ≤ 100000)
    (ht : ∀ z ∈ xs, ∃ env', bindP p z (wipeE env (slotsP p)) = some env' ∧ Gv F env' e (g z)) : Gv F env (.comp false p k its [] e) (.lst (xs.map g)) := fun S => by
  have hl : (xs.map g).length ≤ LIM := by rw [List.length_map]; exact hl
  have h1 : evs F its env S = .ok ds S := h S
  obtain ⟨Z, h2⟩ := gloop_map ht S
  exact ⟨Z, by rw [ev_comp, h1]; simp only [Res.bind_ok, hi, opt, h2, if_pos hl]⟩
/-! bodies -/
theorem gb_ret {r : List SA} (h : Gv F env e d) : Gb F env (.ret e :: r) d := fun S => by
  obtain ⟨Z, h1⟩ := h S
  exact ⟨Z, by simp only [exs, ex, h1, Out.of, Out.then]⟩
theorem gb_if {t r : List SA} (h : Gv F env a (.bl x)) (k1 : x = true → Gb F env t d) (k2 : x = false → Gb F env r d) : Gb F env (.ifs a t [] :: r) d := fun S => by
  obtain ⟨Z, h1⟩ := h S
  cases x with
  | true =>
    obtain ⟨Y, h2⟩ := k1 rfl (S ++ Z)
    exact ⟨Z ++ Y, by simp only [exs, ex, h1, Out.of, h2, Out.then]; rw [List.append_assoc]⟩
  | false =>
    obtain ⟨Y, h2⟩ := k2 rfl (S ++ Z)
    exact ⟨Z ++ Y, by simp only [exs, ex, h1, Out.of, h2, Out.then]; rw [List.append_assoc]⟩
theorem gb_asg {p : P} {r : List SA} (h : Gv F env a d1) (k : bindP p d1 env = some env') (l : Gb F env' r d) : Gb F env (.asg p a :: r) d := fun S => by
  obtain ⟨Z, h1⟩ := h S
  obtain ⟨Y, h2⟩ := l (S ++ Z)
  exact ⟨Z ++ Y, by simp only [exs, ex, h1, Out.of, k, Out.then, h2]; rw [List.append_assoc]⟩
theorem gn_nil : Gn F env [] env := fun S => ⟨[], by rw [List.append_nil]; simp only [exs]⟩
theorem gn_asg {p : P} {r : List SA} {en : Env} (h : Gv F env a d1) (k : bindP p d1 env = some env') (l : Gn F env' r en) : Gn F env (.asg p a :: r) en := fun S => by
  obtain ⟨Z, h1⟩ := h S
  obtain ⟨Y, h2⟩ := l (S ++ Z)
  exact ⟨Z ++ Y, by simp only [exs, ex, h1, Out.of, k, Out.then, h2]; rw [List.append_assoc]⟩
theorem gn_if {t r : List SA} {en : Env} (h : Gv F env a (.bl false)) (l : Gn F env r en) : Gn F env (.ifs a t [] :: r) en := fun S => by
  obtain ⟨Z, h1⟩ := h S
  obtain ⟨Y, h2⟩ := l (S ++ Z)
  exact ⟨Z ++ Y, by simp only [exs, ex, h1, Out.of, h2, Out.then]; rw [List.append_assoc]⟩
/-- a loop all of whose turns go on -/
theorem gloop_all {p : P} {body : List SA} {I : Env → Prop} : ∀ {xs : List D}, (∀ z ∈ xs, ∀ en, I en → ∃ en1 en2, bindP p z en = some en1 ∧ Gn F en1 body en2 ∧ I en2) → ∀ en, I en → ∀ S, ∃ Z en', loopF (turnF F p body) xs en S = .nx en' (S ++ Z) ∧ I en'
  | [], _, en, hI, S => ⟨[], en, by rw [List.append_nil]; rfl, hI⟩
  | z :: xs, h, en, hI, S => by
    obtain ⟨en1, en2, h1, h2, h3⟩ := h z List.mem_cons_self en hI
    obtain ⟨Z, h4⟩ := h2 S
    obtain ⟨Y, en', h5, h6⟩ := gloop_all (fun z hz => h z (List.mem_cons_of_mem _ hz)) en2 h3 (S ++ Z)
    have t : turnF F p body z en S = .nx en2 (S ++ Z) := by
      unfold turnF
      rw [h1]
      exact h4
    exact ⟨Z ++ Y, en', by simp only [loopF, t, h5]; rw [List.append_assoc], h6⟩
/-- a loop: the first bad one ends it -/
theorem gloop_bad {p : P} {body : List SA} {I : Env → Prop} {g : D → Bool} : ∀ {xs : List D}, (∀ z ∈ xs, ∀ en, I en → ∃ en1, bindP p z en = some en1 ∧ (g z = true → ∃ en2, Gn F en1 body en2 ∧ I en2) ∧ (g z = false → Gb F en1 body d)) → xs.all g = false → ∀ en, I en → ∀ S, ∃ Z, loopF (turnF F p body) xs en S = .rt d (S ++ Z)
  | [], _, hb, _, _, _ => by cases hb
  | z :: xs, h, hb, en, hI, S => by
    obtain ⟨en1, h1, h2, h3⟩ := h z List.mem_cons_self en hI
    cases hg : g z with
    | true =>
      obtain ⟨en2, h4, h5⟩ := h2 hg
      obtain ⟨Z, h6⟩ := h4 S
      have hb' : xs.all g = false := by rw [List.all_cons, hg, Bool.true_and] at hb; exact hb
      obtain ⟨Y, h7⟩ := gloop_bad (fun z hz => h z (List.mem_cons_of_mem _ hz)) hb' en2 h5 (S ++ Z)
      have t : turnF F p body z en S = .nx en2 (S ++ Z) := by
        unfold turnF
        rw [h1]
        exact h6
      exact ⟨Z ++ Y, by simp only [loopF, t, h7]; rw [List.append_assoc]⟩
    | false =>
      obtain ⟨Z, h6⟩ := h3 hg S
      have t : turnF F p body z en S = .rt d (S ++ Z) := by
        unfold turnF
        rw [h1]
        exact h6
      exact ⟨Z, by simp only [loopF, t]⟩
/-- a for whose turns may end the body -/
theorem gb_for {p : P} {k : IK} {its : List E} {body r : List SA} {ds xs : List D} {I : Env → Prop} {g : D → Bool} (h : Gvs F env its ds) (hi : itD k ds = some xs) (hI : I env)
    (ht : ∀ z ∈ xs, ∀ en, I en → ∃ en1, bindP p z en = some en1 ∧ (g z = true → ∃ en2, Gn F en1 body en2 ∧ I en2) ∧ (g z = false → Gb F en1 body d)) (hr : xs.all g = true → ∀ en, I en → Gb F en r d) : Gb F env (.for_ p k its body :: r) d := fun S => by
  obtain ⟨Z, h1⟩ := h S
  cases ha : xs.all g with
  | true =>
    obtain ⟨Y, en', h2, h3⟩ := gloop_all (fun z hz en hI => by
      obtain ⟨en1, q1, q2, _⟩ := ht z hz en hI
      obtain ⟨en2, q3, q4⟩ := q2 (List.all_eq_true.mp ha z hz)
      exact ⟨en1, en2, q1, q3, q4⟩) env hI (S ++ Z)
    obtain ⟨X, h4⟩ := hr ha en' h3 (S ++ Z ++ Y)
    exact ⟨Z ++ (Y ++ X), by rw [exs, ex_for, h1]; simp only [Out.of, hi, h2, Out.then]; rw [h4]; simp only [List.append_assoc]⟩
  | false =>
    obtain ⟨Y, h2⟩ := gloop_bad ht ha env hI (S ++ Z)
    exact ⟨Z ++ Y, by rw [exs, ex_for, h1]; simp only [Out.of, hi, h2, Out.then, List.append_assoc]⟩
theorem call_gb {T : List FD} {n f : Nat} {fd : FD} {ds : List D} (h : T[f]? = some fd) (hl : ds.length = fd.ps) (k : Gb (callAt T n) (startE ds fd.ns) fd.body d) : Gc (callAt T (n + 1)) f ds d := fun S => by
  obtain ⟨Z, h1⟩ := k S
  exact ⟨Z, by rw [callAt_at h hl, h1]⟩
theorem call_rt {T : List FD} {n f : Nat} {fd : FD} {ds : List D} {S S' : Store} {r : D} (h : T[f]? = some fd) (hl : ds.length = fd.ps) (k : exs (callAt T n) fd.body (startE ds fd.ns) S = .rt r S') : callAt T (n + 1) f ds S = .ok r S' := by
  rw [callAt_at h hl, k]
end
end MP

/-! LK5: lists of the store beside the hand. -/
namespace MP
open PySem L2
theorem HandOk.more {S : Store} {l m : Nat} (H : HandOk S l m) (Z : List Ob) : HandOk (S ++ Z) l m := by
  obtain ⟨xs, seed, h⟩ := H
  exact ⟨xs, seed, h.more Z⟩
theorem HandOk.lt {S : Store} {l m : Nat} (H : HandOk S l m) : l < S.length ∧ m < S.length := by
  obtain ⟨xs, seed, h⟩ := H
  exact h.lt
theorem HandOk.other {S : Store} {l m j : Nat} {o : Ob} (H : HandOk S l m) (h1 : j ≠ l) (h2 : j ≠ m) : HandOk (S.set j o) l m := by
  obtain ⟨xs, seed, h⟩ := H
  exact ⟨xs, seed, h.ne, by rw [List.getElem?_set_ne h1]; exact h.h, by rw [List.getElem?_set_ne h2]; exact h.g, h.lo, h.hi, h.len⟩
/-- the hand, and a list at j -/
structure ListAt (S : Store) (l m j : Nat) (xs : List D) : Prop where
  hand : HandOk S l m
  lj : S[j]? = some (.lst xs)
  n1 : j ≠ l
  n2 : j ≠ m
theorem ListAt.new {S : Store} {l m : Nat} (H : HandOk S l m) (xs : List D) : ListAt (S ++ [.lst xs]) l m S.length xs :=
  ⟨H.more _, by rw [List.getElem?_append_right (Nat.le_refl _), Nat.sub_self]; rfl, by have := H.lt; omega, by have := H.lt; omega⟩
theorem ListAt.step {S S' : Store} {l m j : Nat} {xs : List D} (L : ListAt S l m j xs) (H : HandB S S' l m) : ListAt S' l m j xs :=
  ⟨H.1, by rw [H.2.el j L.n1 L.n2]; exact L.lj, L.n1, L.n2⟩
theorem ListAt.put {S : Store} {l m j : Nat} {xs : List D} (L : ListAt S l m j xs) (ys : List D) : ListAt (S.set j (.lst ys)) l m j ys :=
  ⟨L.hand.other L.n1 L.n2, List.getElem?_set_self (List.getElem?_eq_some_iff.mp L.lj).1, L.n1, L.n2⟩
theorem ListAt.more {S : Store} {l m j : Nat} {xs : List D} (L : ListAt S l m j xs) (Z : List Ob) : ListAt (S ++ Z) l m j xs :=
  ⟨L.hand.more Z, by rw [List.getElem?_append_left (List.getElem?_eq_some_iff.mp L.lj).1]; exact L.lj, L.n1, L.n2⟩
theorem ListAt.deref {S : Store} {l m j : Nat} {xs : List D} (L : ListAt S l m j xs) : deref S (.ref j) = .lst xs := by
  simp only [MP.deref, L.lj]
section
variable {F : Fn} {env en1 en2 en3 en4 en5 : Env} {S S1 S2 S3 S4 S5 : Store} {a1 a2 a3 a4 a5 : SA} {r : List SA} {x1 x2 e : E} {b t : List SA} {d : D}
theorem exs_nx {a : SA} (h : ex F a env S = .nx en1 S1) : exs F (a :: r) env S = exs F r en1 S1 := by
  simp only [exs, h, Out.then]
theorem exs_ret (h : ev F e env S = .ok d S1) : exs F (.ret e :: r) env S = .rt d S1 := by
  simp only [exs, ex, h, Out.of, Out.then]
theorem exs_0 : exs F [] env S = .nx env S := by simp only [exs]
theorem exs_2 (h1 : ex F a1 env S = .nx en1 S1) (h2 : ex F a2 en1 S1 = .nx en2 S2) : exs F [a1, a2] env S = .nx en2 S2 := by
  simp only [exs, h1, h2, Out.then]
theorem exs_4 (h1 : ex F a1 env S = .nx en1 S1) (h2 : ex F a2 en1 S1 = .nx en2 S2) (h3 : ex F a3 en2 S2 = .nx en3 S3) (h4 : ex F a4 en3 S3 = .nx en4 S4) : exs F [a1, a2, a3, a4] env S = .nx en4 S4 := by
  simp only [exs, h1, h2, h3, h4, Out.then]
theorem ex_orF (c1 : ev F x1 env S = .ok (.bl false) S1) (c2 : ev F x2 env S1 = .ok (.bl false) S2) : ex F (.ifs (.or x1 x2) t []) env S = .nx env S2 := by
  simp only [ex, ev, c1, c2, Res.bind_ok, Out.of, exs]
theorem ex_ifF (c1 : ev F x1 env S = .ok (.bl false) S1) : ex F (.ifs x1 t []) env S = .nx env S1 := by
  simp only [ex, c1, Out.of, exs]
theorem turn_eq {p : P} {x : D} (h : bindP p x env = some en1) : turnF F p b x env S = exs F b en1 S := by
  unfold turnF
  rw [h]
theorem ex_asg {p : P} (h : ev F e env S = .ok d S1) (k : bindP p d env = some en1) : ex F (.asg p e) env S = .nx en1 S1 := by
  simp only [ex, h, Out.of, k]
theorem ev_nlst {es : List E} {ds : List D} (h : evs F es env S = .ok ds S1) (hl : ds.length ≤ 100000) : ev F (.nlst es) env S = .ok (.ref S1.length) (S1 ++ [.lst ds]) := by
  have hl : ds.length ≤ LIM := hl
  simp only [ev, h, Res.bind_ok, if_pos hl]
theorem ex_append {i j : Nat} {xs : List D} (hv : env[i]? = some (some (.ref j))) (a : S[j]? = some (.lst xs)) (he : ev F e env S = .ok d S1) (a1 : S1[j]? = some (.lst xs)) (hl : xs.length < 100000) :
    ex F (.expr (.mth .append (.var i) [e])) env S = .nx env (S1.set j (.lst (xs ++ [d]))) := by
  have hl : xs.length < LIM := hl
  have nu : ¬ (Mth.append = Mth.update) := by decide
  simp only [ex, ev, evs, hv, Res.bind_ok, deref, a, mty, he, mthD, if_neg nu, isMut, a1, mthM, if_pos hl, Out.of]
theorem ex_for_eq {p : P} {k : IK} {its : List E} {body : List SA} {ds xs : List D} (h : evs F its env S = .ok ds S1) (hi : itD k ds = some xs) : ex F (.for_ p k its body) env S = loopF (turnF F p body) xs env S1 := by
  rw [ex_for, h]
  simp only [Out.of, hi]
end
/-- a loop that appends -/
theorem app_loop {F : Fn} {l m j i : Nat} {p : P} {e : E} {g : D → D} {I : Env → Prop} : ∀ {zs : List D}, (∀ z ∈ zs, ∀ en, I en → ∃ en1, bindP p z en = some en1 ∧ en1[i]? = some (some (.ref j)) ∧ (∀ S, Pv F en1 S e (g z)) ∧ I en1) → ∀ (xs : List D) (S : Store) (en : Env), I en → ListAt S l m j xs → xs.length + zs.length ≤ 90000 →
    ∃ (en' : Env) (S' : Store), loopF (turnF F p [.expr (.mth .append (.var i) [e])]) zs en S = .nx en' S' ∧ I en' ∧ ListAt S' l m j (xs ++ zs.map g)
  | [], _, xs, S, en, hI, L, _ => ⟨en, S, rfl, hI, by rw [List.map_nil, List.append_nil]; exact L⟩
  | z :: zs, h, xs, S, en, hI, L, hl => by
    simp only [List.length_cons] at hl
    obtain ⟨en1, h1, h2, h3, h4⟩ := h z List.mem_cons_self en hI
    obtain ⟨en', S', e1, e2, e3⟩ := app_loop (fun y hy => h y (List.mem_cons_of_mem _ hy)) (xs ++ [g z]) (S.set j (.lst (xs ++ [g z]))) en1 h4 (L.put _) (by rw [List.length_append, List.length_singleton]; omega)
    refine ⟨en', S', ?_, e2, by rw [List.map_cons]; rw [List.append_assoc] at e3; exact e3⟩
    have t : turnF F p [.expr (.mth .append (.var i) [e])] z en S = .nx en1 (S.set j (.lst (xs ++ [g z]))) := by
      rw [turn_eq h1]
      exact (exs_nx (ex_append h2 L.lj (h3 S) L.lj (by omega))).trans exs_0
    simp only [loopF, t]
    exact e1
theorem range_it {i : Int} (h0 : 0 ≤ i) (h1 : i ≤ 1000000) : itD .range [.int i] = some ((List.range' 0 i.toNat).map fun (k : Nat) => .int (k : Nat)) := by
  show (if -1000000 ≤ i ∧ i ≤ 1000000 then some (rangeD 0 i) else none) = _
  rw [if_pos (by omega)]
  unfold rangeD
  rw [Int.sub_zero, List.range_eq_range']
  refine congrArg some (List.map_congr_left fun k _ => ?_)
  rw [Int.zero_add]
end MP

/-! LK6: how great data are; what is shown of them. -/
namespace MP
open PySem L2
/-! ### the signs of a shown text -/
def chS (x : Str) : Prop := ∀ c ∈ x.cps.toList, c < 4294967296
theorem chS_app {x y : Str} (h : chS x) (k : chS y) : chS (x ++ y) := fun c hc => by
  rw [PySem.Str.cps_append, Array.toList_append] at hc
  exact (List.mem_append.mp hc).elim (h c) (k c)
theorem chS_lit (s : String) : chS (Str.ofString s) := fun c hc => by
  rw [Str.ofString_eq_toList] at hc
  obtain ⟨d, _, rfl⟩ := List.mem_map.mp (show c ∈ s.toList.map Char.toNat from hc)
  exact d.val.toNat_lt
theorem reprChar_ch {q c : Nat} (hc : c < 4294967296) : ∀ e ∈ Builtin.Str.reprChar q c, e < 4294967296 := by
  have hex : ∀ (w : Nat), ∀ e ∈ (List.replicate (w - ((Nat.toDigits 16 c).map Char.toNat).length) 48 ++ (Nat.toDigits 16 c).map Char.toNat), e < 4294967296 := fun w e he => by
    rcases List.mem_append.mp he with he | he
    · rw [(List.mem_replicate.mp he).2]; decide
    · obtain ⟨d, _, rfl⟩ := List.mem_map.mp he
      exact d.val.toNat_lt
  intro e he
  unfold Builtin.Str.reprChar at he
  dsimp only at he
  repeat' split at he
  all_goals simp only [List.mem_append, List.mem_cons, List.not_mem_nil, or_false] at he
  all_goals first
    | omega
    | (rcases he with he | he
       · omega
       · exact hex _ e (List.mem_append.mpr he))
theorem foldl_ch {q : Nat} : ∀ (l : List Nat) (acc : Array Nat), (∀ c ∈ l, c < 4294967296) → (∀ c ∈ acc.toList, c < 4294967296) → ∀ c ∈ (l.foldl (fun out c => out ++ (Builtin.Str.reprChar q c).toArray) acc).toList, c < 4294967296
  | [], acc, _, h => h
  | x :: r, acc, hl, h => by
    rw [List.foldl_cons]
    refine foldl_ch r _ (fun c hc => hl c (List.mem_cons_of_mem _ hc)) fun c hc => ?_
    rw [Array.toList_append] at hc
    rcases List.mem_append.mp hc with hc | hc
    · exact h c hc
    · exact reprChar_ch (hl x List.mem_cons_self) c (by simpa using hc)
theorem reprText_ch {x : Str} (h : chS x) : chS (reprText x) := by
  have hq : reprQuote x < 4294967296 := by unfold reprQuote; split <;> decide
  intro c hc
  have e : (reprText x).cps.toList = (x.cps.toList.foldl (fun out c => out ++ (Builtin.Str.reprChar (reprQuote x) c).toArray) #[reprQuote x]).toList ++ [reprQuote x] := by
    unfold reprText
    show (Array.push _ _).toList = _
    rw [Array.toList_push, ← Array.foldl_toList]
  rw [e] at hc
  rcases List.mem_append.mp hc with hc | hc
  · exact foldl_ch _ _ h (fun c hc => by simp at hc; rw [hc]; exact hq) c hc
  · rw [List.mem_singleton] at hc
    rw [hc]; exact hq
theorem textFrom_ch : ∀ (ts : List Str) (k : Nat) (acc : Str), chS acc → (∀ t ∈ ts, chS t) → chS (textFrom k acc ts)
  | [], _, _, h, _ => h
  | t :: ts, k, acc, h, ht => by
    unfold textFrom
    refine textFrom_ch ts _ _ (chS_app (chS_app h ?_) (ht t List.mem_cons_self)) fun u hu => ht u (List.mem_cons_of_mem _ hu)
    exact chS_lit _
theorem join_ch {s : Str} (hs : chS s) : ∀ (ts : List Str), (∀ t ∈ ts, chS t) → chS (Str.join s ts)
  | [], _ => fun c hc => by (have h : c ∈ ([] : List Nat) := hc; cases h)
  | [t], ht => ht t List.mem_cons_self
  | t :: u :: r, ht => by
    show chS (t ++ s ++ Str.join s (u :: r))
    exact chS_app (chS_app (ht t List.mem_cons_self) hs) (join_ch hs (u :: r) fun v hv => ht v (List.mem_cons_of_mem _ hv))
/-! ### how great -/
mutual
/-- shape: ints to M, rows to L, signs -/
def shB (M L : Nat) : D → Bool
  | .non => true | .bl _ => true | .emp => true
  | .int i => decide (i.natAbs ≤ M)
  | .str x => x.cps.toList.all fun c => decide (c < 4294967296)
  | .tup xs => decide (xs.length ≤ L) && shsB M L xs
  | .lst xs => decide (xs.length ≤ L) && shsB M L xs
  | .dct ks xs => decide (ks = [.inr ("a" : Str)]) && (decide (xs.length = 1) && shsB M L xs)
  | _ => false
def shsB (M L : Nat) : List D → Bool
  | [] => true
  | x :: xs => shB M L x && shsB M L xs
end
mutual
def wt : D → Nat
  | .str x => x.length
  | .int _ => 64
  | .tup xs => wts xs
  | .lst xs => wts xs
  | .dct _ xs => wts xs + 2
  | _ => 0
def wts : List D → Nat
  | [] => 0
  | x :: xs => wt x + 1 + wts xs
end
mutual
/-- texts of ASCII signs; nl: no list, no dict -/
def asB (nl : Bool) : D → Bool
  | .str x => x.cps.toList.all fun c => decide (c < 128)
  | .tup xs => assB nl xs
  | .lst xs => !nl && assB nl xs
  | .dct _ xs => !nl && assB nl xs
  | .emp => !nl
  | _ => true
def assB (nl : Bool) : List D → Bool
  | [] => true
  | x :: xs => asB nl x && assB nl xs
end
theorem ass_mem {nl : Bool} {xs : List D} (h : assB nl xs = true) {d : D} (m : d ∈ xs) : asB nl d = true := by
  induction xs with
  | nil => cases m
  | cons x xs ih =>
    simp only [assB, Bool.and_eq_true] at h
    rcases List.mem_cons.mp m with rfl | m
    · exact h.1
    · exact ih h.2 m
theorem ass_of {nl : Bool} : ∀ {xs : List D}, (∀ x ∈ xs, asB nl x = true) → assB nl xs = true
  | [], _ => rfl
  | x :: xs, h => by simp only [assB, h x List.mem_cons_self, ass_of fun z hz => h z (List.mem_cons_of_mem _ hz)]; rfl
mutual
theorem as_weak : ∀ d : D, asB true d = true → asB false d = true
  | .non, _ => rfl | .bl _, _ => rfl | .int _, _ => rfl | .emp, _ => rfl
  | .scr _, _ => rfl | .ref _, _ => rfl | .fn _, _ => rfl | .ty _, _ => rfl
  | .dct _ xs, h => by simp only [asB] at h; cases h
  | .str x, h => h
  | .tup xs, h => by simp only [asB] at h ⊢; exact ass_weak xs h
  | .lst xs, h => by simp only [asB] at h; cases h
theorem ass_weak : ∀ d : List D, assB true d = true → assB false d = true
  | [], _ => rfl
  | x :: xs, h => by
    simp only [assB, Bool.and_eq_true] at h ⊢
    exact ⟨as_weak x h.1, ass_weak xs h.2⟩
end
theorem shs_mem {M L : Nat} {xs : List D} (h : shsB M L xs = true) {d : D} (m : d ∈ xs) : shB M L d = true := by
  induction xs with
  | nil => cases m
  | cons x xs ih =>
    simp only [shsB, Bool.and_eq_true] at h
    rcases List.mem_cons.mp m with rfl | m
    · exact h.1
    · exact ih h.2 m
theorem shs_of {M L : Nat} : ∀ {xs : List D}, (∀ x ∈ xs, shB M L x = true) → shsB M L xs = true
  | [], _ => rfl
  | x :: xs, h => by simp only [shsB, h x List.mem_cons_self, shs_of fun z hz => h z (List.mem_cons_of_mem _ hz)]; rfl
mutual
theorem sh_mono {M L M' L' : Nat} (h1 : M ≤ M') (h2 : L ≤ L') : ∀ d : D, shB M L d = true → shB M' L' d = true
  | .non, h => h | .bl _, h => h | .emp, h => h | .str _, h => h
  | .int i, h => by simp only [shB, decide_eq_true_iff] at h ⊢; omega
  | .tup xs, h => by
    simp only [shB, Bool.and_eq_true, decide_eq_true_iff] at h ⊢
    exact ⟨by omega, shs_mono h1 h2 xs h.2⟩
  | .lst xs, h => by
    simp only [shB, Bool.and_eq_true, decide_eq_true_iff] at h ⊢
    exact ⟨by omega, shs_mono h1 h2 xs h.2⟩
  | .scr _, h => h | .ref _, h => h | .fn _, h => h | .ty _, h => h
  | .dct ks xs, h => by
    simp only [shB, Bool.and_eq_true] at h ⊢
    exact ⟨h.1, h.2.1, shs_mono h1 h2 xs h.2.2⟩
theorem shs_mono {M L M' L' : Nat} (h1 : M ≤ M') (h2 : L ≤ L') : ∀ d : List D, shsB M L d = true → shsB M' L' d = true
  | [], _ => rfl
  | x :: xs, h => by
    simp only [shsB, Bool.and_eq_true] at h ⊢
    exact ⟨sh_mono h1 h2 x h.1, shs_mono h1 h2 xs h.2⟩
end
theorem wts_app : ∀ (xs ys : List D), wts (xs ++ ys) = wts xs + wts ys
  | [], ys => by simp [wts]
  | x :: xs, ys => by
    rw [List.cons_append, wts, wts, wts_app xs ys]; omega
theorem wts_mem : ∀ {xs : List D} {x : D}, x ∈ xs → wt x + 1 ≤ wts xs
  | y :: ys, x, h => by
    rw [wts]
    rcases List.mem_cons.mp h with rfl | h
    · omega
    · have := wts_mem h; omega
theorem wts_sub : ∀ {xs ys : List D}, xs.Sublist ys → wts xs ≤ wts ys
  | _, _, .slnil => Nat.le_refl _
  | _, _, .cons a h => by rw [wts]; have := wts_sub h; omega
  | _, _, .cons₂ a h => by rw [wts, wts]; have := wts_sub h; omega
theorem cut_sl {xs : List D} {lo hi : Option Int} : (cutD xs lo hi).Sublist xs := (List.take_sublist _ _).trans (List.drop_sublist _ _)
theorem wts_cut {xs : List D} {lo hi : Option Int} : wts (cutD xs lo hi) ≤ wts xs := wts_sub cut_sl
theorem wts_rev : ∀ xs : List D, wts xs.reverse = wts xs
  | [] => rfl
  | x :: xs => by rw [List.reverse_cons, wts_app, wts_rev xs, wts, wts, wts]; omega
theorem wts_len : ∀ xs : List D, xs.length ≤ wts xs
  | [] => Nat.le_refl _
  | x :: xs => by rw [wts, List.length_cons]; have := wts_len xs; omega
/-! ### what is shown -/
theorem int_shown {i : Int} (h : i.natAbs < 10 ^ 12) : (PyData.shown (.int i)).length ≤ 13 := by
  have key : ∀ n : Nat, n < 10 ^ 12 → (Nat.repr n).toList.length ≤ 12 := fun n hn => by
    have e : (Nat.repr n).toList = Nat.toDigits 10 n := by simp [Nat.repr]
    rw [e]
    exact PyProof.Rows.digits10_le (by decide) hn
  have len : ∀ s : String, (Str.ofString s).length = s.toList.length := fun s => by
    rw [Str.ofString_eq_toList]
    show (List.toArray _).size = _
    simp
  show (Str.ofString (toString i)).length ≤ 13
  rw [len]
  cases i with
  | ofNat n =>
    have := key n (by simpa using h)
    show (Nat.repr n).toList.length ≤ 13
    omega
  | negSucc n =>
    have := key (n + 1) (by simpa [Int.natAbs] using h)
    show ("-" ++ Nat.repr (n + 1)).toList.length ≤ 13
    rw [String.toList_append, List.length_append]
    show 1 + _ ≤ 13
    omega
theorem log_lt {n : Nat} (h : n < 10 ^ 12) : n.log2 < 60 := by
  by_cases h0 : n = 0
  · subst h0; decide
  · exact (Nat.log2_lt h0).mpr (Nat.lt_of_lt_of_le h (by decide))
theorem toPysE_len : ∀ {ds : List D} {ps : List PyData}, toPysE ds = some ps → ps.length = ds.length
  | [], ps, h => by simp only [toPysE] at h; cases h; rfl
  | d :: ds, ps, h => by
    simp only [toPysE] at h
    rw [Option.bind_eq_some_iff] at h
    obtain ⟨p, _, h⟩ := h
    rw [Option.map_eq_some_iff] at h
    obtain ⟨r, h2, rfl⟩ := h
    rw [List.length_cons, List.length_cons, toPysE_len h2]
mutual
theorem shown_of {M L : Nat} (hM : M < 10 ^ 12) : ∀ d : D, shB M L d = true → ∃ p, toPyE d = some p ∧ p.showable = true ∧ p.leavesShort 13 = true ∧ p.weight ≤ wt d ∧ p.depth ≤ dep d + 1 ∧ chS p.shown
  | .non, _ => ⟨.none, rfl, rfl, rfl, Nat.le_refl _, by decide, chS_lit _⟩
  | .bl b, _ => ⟨.bool b, rfl, rfl, rfl, Nat.le_refl _, Nat.zero_le _, by cases b <;> exact chS_lit _⟩
  | .int i, h => by
    simp only [shB, decide_eq_true_iff] at h
    have hi : i.natAbs < 10 ^ 12 := by omega
    refine ⟨.int i, rfl, ?_, ?_, ?_, Nat.zero_le _, chS_lit _⟩
    · simp only [PyData.showable, decide_eq_true_iff]
      have := log_lt hi; omega
    · simp only [PyData.leavesShort, decide_eq_true_iff]
      exact int_shown hi
    · simp only [PyData.weight, wt]
      split
      · omega
      · have := log_lt hi; omega
  | .str x, h => by
    simp only [shB] at h
    have hc : chS x := fun c hc => of_decide_eq_true (List.all_eq_true.mp h c hc)
    refine ⟨.str x, rfl, rfl, ?_, Nat.le_refl _, Nat.zero_le _, reprText_ch hc⟩
    simp only [PyData.leavesShort]
    refine List.all_eq_true.mpr fun c hcm => decide_eq_true ?_
    have e : (16 : Nat) ^ 8 = 4294967296 := by decide
    rw [e]; exact hc c hcm
  | .emp, _ => ⟨.dict [], rfl, rfl, rfl, Nat.le_refl _, by decide, by
    show chS (dictText [])
    exact chS_app (chS_app (chS_lit _) (join_ch (chS_lit _) [] (fun _ h => by cases h))) (chS_lit _)⟩
  | .tup xs, h => by
    simp only [shB, Bool.and_eq_true] at h
    obtain ⟨ps, h1, h2, h3, h4, h5, h6⟩ := showns_of hM xs h.2
    refine ⟨.tuple ps, by simp only [toPyE, h1]; rfl, by simpa only [PyData.showable] using h2, by simpa only [PyData.leavesShort] using h3, by simpa only [PyData.weight, wt] using h4, by simp only [PyData.depth, dep]; omega, ?_⟩
    show chS (tupleText (PyData.shownAll ps))
    exact chS_app (chS_app (chS_lit _) (join_ch (chS_lit _) _ h6)) (chS_lit _)
  | .lst xs, h => by
    simp only [shB, Bool.and_eq_true] at h
    obtain ⟨ps, h1, h2, h3, h4, h5, h6⟩ := showns_of hM xs h.2
    refine ⟨.list ps, by simp only [toPyE, h1]; rfl, by simpa only [PyData.showable] using h2, by simpa only [PyData.leavesShort] using h3, by simpa only [PyData.weight, wt] using h4, by simp only [PyData.depth, dep]; omega, ?_⟩
    show chS (listText (PyData.shownAll ps))
    exact chS_app (textFrom_ch _ _ _ (chS_lit _) h6) (chS_lit _)
  | .scr _, h => by simp only [shB] at h; cases h
  | .ref _, h => by simp only [shB] at h; cases h
  | .fn _, h => by simp only [shB] at h; cases h
  | .ty _, h => by simp only [shB] at h; cases h
  | .dct ks xs, h => by
    simp only [shB, Bool.and_eq_true, decide_eq_true_iff] at h
    obtain ⟨rfl, hl, hs⟩ := h
    obtain ⟨ps, h1, h2, h3, h4, h5, h6⟩ := showns_of hM xs hs
    have lp := toPysE_len h1
    rw [hl] at lp
    obtain ⟨p, rfl⟩ := List.length_eq_one_iff.mp lp
    have s2 : p.showable = true := by simpa only [PyData.showableAll, Bool.and_true] using h2
    have s3 : p.leavesShort 13 = true := by simpa only [PyData.leavesShortAll, Bool.and_true] using h3
    have s6 : chS p.shown := h6 _ (by simp [PyData.shownAll])
    have sa : (PyData.str ("a" : Str)).leavesShort 13 = true := by decide +kernel
    have sw : (PyData.str ("a" : Str)).weight = 1 := by decide +kernel
    refine ⟨.dict [(.str ("a" : Str), p)], ?_, ?_, ?_, ?_, ?_, ?_⟩
    · simp only [toPyE, h1, Option.bind_some]; rfl
    · simp only [PyData.showable, PyData.showableKv, s2]; rfl
    · simp only [PyData.leavesShort, PyData.leavesShortKv] at sa ⊢
      rw [s3, sa]; rfl
    · simp only [PyData.weightAll] at h4
      simp only [PyData.weight, PyData.weightKv, wt] at sw ⊢
      omega
    · simp only [PyData.depthAll] at h5
      simp only [PyData.depth, PyData.depthKv, dep]
      omega
    · show chS (dictText [(PyData.str ("a" : Str)).shown ++ ": " ++ p.shown])
      refine chS_app (chS_app (chS_lit _) (join_ch (chS_lit _) _ fun t ht => ?_)) (chS_lit _)
      rw [List.mem_singleton] at ht
      subst ht
      exact chS_app (chS_app (reprText_ch (chS_lit _)) (chS_lit _)) s6
theorem showns_of {M L : Nat} (hM : M < 10 ^ 12) : ∀ ds : List D, shsB M L ds = true → ∃ ps, toPysE ds = some ps ∧ PyData.showableAll ps = true ∧ PyData.leavesShortAll 13 ps = true ∧ PyData.weightAll ps ≤ wts ds ∧ PyData.depthAll ps ≤ deps ds + 1 ∧ ∀ t ∈ PyData.shownAll ps, chS t
  | [], _ => ⟨[], rfl, rfl, rfl, Nat.le_refl _, by simp [PyData.depthAll], fun t h => by simp [PyData.shownAll] at h⟩
  | d :: ds, h => by
    simp only [shsB, Bool.and_eq_true] at h
    obtain ⟨p, h1, h2, h3, h4, h5, h6⟩ := shown_of hM d h.1
    obtain ⟨ps, k1, k2, k3, k4, k5, k6⟩ := showns_of hM ds h.2
    refine ⟨p :: ps, by simp only [toPysE, h1, k1]; rfl, by simp only [PyData.showableAll, h2, k2]; rfl, by simp only [PyData.leavesShortAll, h3, k3]; rfl, by simp only [PyData.weightAll, wts]; omega, by simp only [PyData.depthAll, deps]; omega, fun t ht => ?_⟩
    simp only [PyData.shownAll, List.mem_cons] at ht
    rcases ht with rfl | ht
    · exact h6
    · exact k6 t ht
end
/-- repr of data -/
theorem shownD_of {M L : Nat} {d : D} (hM : M < 10 ^ 12) (h : shB M L d = true) (hd : dep d ≤ 60) (hw : wt d ≤ 1060000) : ∃ z, shownD d = some z ∧ chS z ∧ z.length ≤ 15 * wt d + 13 := by
  obtain ⟨p, h1, h2, h3, h4, h5, h6⟩ := shown_of hM d h
  have h7 := PyData.shown_le 13 (by decide) p h3
  have h8 : p.shown.length ≤ 15 * wt d + 13 := by omega
  refine ⟨p.shown, ?_, h6, h8⟩
  unfold shownD
  rw [h1, Option.bind_some, h2, decide_eq_true (by omega : p.depth ≤ 64), decide_eq_true (by omega : p.shown.length ≤ 16000000)]
  rfl
end MP

set_option maxHeartbeats 0
namespace MP
open PySem L2 PySem.Calls
def top (i : Nat) : Stmt := PySem.Challenge.pw_kinsignals_k03_rows_and_books_of_anythin.main.body.getD i (.Pass ⟨0, 0, 0, 0⟩)
def glob : Glob where
  fn := ([("rising_signals", 0), ("is_signal", 1), ("may_be_masked", 2), ("are_maskable", 3), ("is_whole", 4), ("is_count", 5), ("is_below", 6), ("are_rising", 7), ("is_said", 8), ("is_title", 9), ("is_who", 10), ("is_how", 12), ("is_row", 23), ("is_program", 24), ("is_book", 25), ("_law_hand", 26), ("_law_pick", 27), ("_law_of", 28), ("_law_signals", 29), ("_law_parts", 30)] : List (Str × Nat)) ++ ([("_law_words", 31), ("_law_row", 32), ("_law_whole", 33), ("_law_word", 34), ("_law_are_signals", 35), ("_law_is_title", 36), ("_law_is_part", 37), ("_law_is_row", 38), ("_law_is_book", 39), ("_law_deep", 40), ("_law_thing", 41), ("_law_right", 42)] : List (Str × Nat))
  fk := [("is_one_of", 11, 1, ["words"])]
  fv := [22, 13, 20, 21, 19, 18, 17, 14, 16, 15]
  gc := [("SIGNALS", .tup [.str "kill", .str "halt", .str "on", .str "hang", .str "quit", .str "call", .str "kin", .str "rest", .str "reads"]), ("SURE", .tup [.str "kill", .str "halt"]), ("MANY_SAID", .int 100), ("MOST_LETTERS", .int 8), ("LETTERS", .str "abcdefghijklmnopqrstuvwxyz"), ("SELF", .str "self"), ("BARE", .tup [.str "fork", .str "pause", .str "read", .str "return", .str "session", .str "taker"]), ("is_asking", .fn 22), ("is_exec", .fn 13), ("is_front", .fn 20), ("is_going", .fn 21), ("is_grouping", .fn 19), ("is_handle", .fn 18), ("is_masking", .fn 17), ("is_said_row", .fn 14), ("is_send", .fn 16), ("is_wait", .fn 15)]
  gd := [("FORMS", [("exec", .tup [.int 1, .fn 13]), ("end", .tup [.int 1, .fn 14]), ("wait", .tup [.int 2, .fn 15]), ("send", .tup [.int 2, .fn 16]), ("mask", .tup [.int 1, .fn 17]), ("unmask", .tup [.int 1, .fn 17]), ("handle", .tup [.int 2, .fn 18]), ("group", .tup [.int 2, .fn 19]), ("front", .tup [.int 1, .fn 20]), ("say", .tup [.int 1, .fn 14]), ("goto", .tup [.int 1, .fn 21]), ("if", .tup [.int 2, .fn 22])])]
  bf := ["all", "bool", "enumerate", "int", "isinstance", "len", "range", "repr", "str", "tuple", "zip"]
def b_rising_signals : List SA := [
  .ret (.blt .tuple [.comp false (.name 1) .seq [.con (.tup [.str "kill", .str "halt", .str "on", .str "hang", .str "quit", .str "call", .str "kin", .str "rest", .str "reads"])] [.cmp .inn (.var 1) (.var 0)] (.var 1)])]
def b_is_signal : List SA := [
  .ret (.and (.blt .isinst [.var 0, .con (.ty "str")]) (.cmp .inn (.var 0) (.con (.tup [.str "kill", .str "halt", .str "on", .str "hang", .str "quit", .str "call", .str "kin", .str "rest", .str "reads"]))))]
def b_may_be_masked : List SA := [
  .ret (.and (.call 1 [.var 0]) (.cmp .notin (.var 0) (.con (.tup [.str "kill", .str "halt"]))))]
def b_are_maskable : List SA := [
  .ifs (.or (.not (.blt .isinst [.var 0, .con (.ty "tuple")])) (.not (.blt .all [.comp false (.name 1) .seq [.var 0] [] (.call 2 [.var 1])]))) [.ret (.con (.bl false))] [],
  .ret (.cmp .eq (.var 0) (.call 0 [.var 0]))]
def b_is_whole : List SA := [
  .ret (.and (.blt .isinst [.var 0, .con (.ty "int")]) (.not (.blt .isinst [.var 0, .con (.ty "bool")])))]
def b_is_count : List SA := [
  .ret (.and (.call 4 [.var 0]) (.cmp .ge (.var 0) (.con (.int 0))))]
def b_is_below : List SA := [
  .ret (.and (.call 5 [.var 0]) (.cmp .lt (.var 0) (.var 1)))]
def b_are_rising : List SA := [
  .ret (.blt .all [.comp false (.tup [.name 1, .name 2]) .zip [.var 0, .sl (.var 0) [.con (.int 1)] []] [] (.cmp .lt (.var 1) (.var 2))])]
def b_is_said : List SA := [
  .ret (.call 6 [.var 0, .con (.int 100)])]
def b_is_title : List SA := [
  .ret (.and (.blt .isinst [.var 0, .con (.ty "str")]) (.and (.chain .le .le (.con (.int 1)) (.blt .len [.var 0]) (.con (.int 8))) (.blt .all [.comp false (.name 1) .seq [.var 0] [] (.cmp .inn (.var 1) (.con (.str "abcdefghijklmnopqrstuvwxyz")))])))]
def b_is_who : List SA := [
  .ret (.or (.call 5 [.var 0]) (.and (.blt .isinst [.var 0, .con (.ty "str")]) (.cmp .eq (.var 0) (.con (.str "self")))))]
def b_is_one_of : List SA := [
  .ret (.and (.blt .isinst [.var 0, .con (.ty "str")]) (.cmp .inn (.var 0) (.var 1)))]
def b_is_how : List SA := [
  .ifs (.not (.blt .isinst [.var 0, .con (.ty "tuple")])) [.ret (.callk 11 [.var 0] [.tup [.con (.str "plain"), .con (.str "ignore")]])] [],
  .ret (.and (.cmp .eq (.blt .len [.var 0]) (.con (.int 2))) (.and (.call 6 [.ix (.var 0) (.con (.int 0)), .var 1]) (.call 3 [.ix (.var 0) (.con (.int 1))])))]
def b_is_exec : List SA := [
  .ret (.call 9 [.ix (.var 0) (.con (.int 0))])]
def b_is_said_row : List SA := [
  .ret (.call 8 [.ix (.var 0) (.con (.int 0))])]
def b_is_wait : List SA := [
  .ret (.and (.or (.cmp .is (.ix (.var 0) (.con (.int 0))) (.con (.non))) (.call 5 [.ix (.var 0) (.con (.int 0))])) (.blt .isinst [.ix (.var 0) (.con (.int 1)), .con (.ty "bool")]))]
def b_is_send : List SA := [
  .ret (.and (.call 1 [.ix (.var 0) (.con (.int 0))]) (.or (.call 5 [.ix (.var 0) (.con (.int 1))]) (.callk 11 [.ix (.var 0) (.con (.int 1))] [.tup [.con (.str "self"), .con (.str "parent"), .con (.str "group")]])))]
def b_is_masking : List SA := [
  .ret (.call 3 [.ix (.var 0) (.con (.int 0))])]
def b_is_handle : List SA := [
  .ret (.and (.call 2 [.ix (.var 0) (.con (.int 0))]) (.call 12 [.ix (.var 0) (.con (.int 1)), .var 1]))]
def b_is_grouping : List SA := [
  .ret (.and (.call 10 [.ix (.var 0) (.con (.int 0))]) (.callk 11 [.ix (.var 0) (.con (.int 1))] [.tup [.con (.str "new"), .con (.str "mine")]]))]
def b_is_front : List SA := [
  .ret (.call 10 [.ix (.var 0) (.con (.int 0))])]
def b_is_going : List SA := [
  .ret (.call 6 [.ix (.var 0) (.con (.int 0)), .var 1])]
def b_is_asking : List SA := [
  .ret (.and (.call 4 [.ix (.var 0) (.con (.int 0))]) (.call 6 [.ix (.var 0) (.con (.int 1)), .var 1]))]
def b_is_row : List SA := [
  .ifs (.or (.not (.blt .isinst [.var 0, .con (.ty "tuple")])) (.or (.cmp .eq (.blt .len [.var 0]) (.con (.int 0))) (.not (.blt .isinst [.ix (.var 0) (.con (.int 0)), .con (.ty "str")])))) [.ret (.con (.bl false))] [],
  .asg (.star 1 [.name 2, .name 3]) (.var 0),
  .ifs (.cmp .inn (.var 2) (.con (.tup [.str "fork", .str "pause", .str "read", .str "return", .str "session", .str "taker"]))) [.ret (.cmp .eq (.blt .len [.var 3]) (.con (.int 0)))] [],
  .ifs (.cin true [("exec", .tup [.int 1, .fn 13]), ("end", .tup [.int 1, .fn 14]), ("wait", .tup [.int 2, .fn 15]), ("send", .tup [.int 2, .fn 16]), ("mask", .tup [.int 1, .fn 17]), ("unmask", .tup [.int 1, .fn 17]), ("handle", .tup [.int 2, .fn 18]), ("group", .tup [.int 2, .fn 19]), ("front", .tup [.int 1, .fn 20]), ("say", .tup [.int 1, .fn 14]), ("goto", .tup [.int 1, .fn 21]), ("if", .tup [.int 2, .fn 22])] (.var 2)) [.ret (.con (.bl false))] [],
  .asg (.tup [.name 4, .name 5]) (.cget [("exec", .tup [.int 1, .fn 13]), ("end", .tup [.int 1, .fn 14]), ("wait", .tup [.int 2, .fn 15]), ("send", .tup [.int 2, .fn 16]), ("mask", .tup [.int 1, .fn 17]), ("unmask", .tup [.int 1, .fn 17]), ("handle", .tup [.int 2, .fn 18]), ("group", .tup [.int 2, .fn 19]), ("front", .tup [.int 1, .fn 20]), ("say", .tup [.int 1, .fn 14]), ("goto", .tup [.int 1, .fn 21]), ("if", .tup [.int 2, .fn 22])] (.var 2)),
  .ret (.and (.cmp .eq (.blt .len [.var 3]) (.var 4)) (.callv 5 [22, 13, 20, 21, 19, 18, 17, 14, 16, 15] [.var 3, .var 1]))]
def b_is_program : List SA := [
  .ifs (.or (.not (.blt .isinst [.var 0, .con (.ty "tuple")])) (.or (.cmp .ne (.blt .len [.var 0]) (.con (.int 2))) (.not (.call 9 [.ix (.var 0) (.con (.int 0))])))) [.ret (.con (.bl false))] [],
  .asg (.name 1) (.ix (.var 0) (.con (.int 1))),
  .ret (.and (.blt .isinst [.var 1, .con (.ty "tuple")]) (.and (.cmp .gt (.blt .len [.var 1]) (.con (.int 0))) (.blt .all [.comp false (.name 2) .seq [.var 1] [] (.call 23 [.var 2, .blt .len [.var 1]])])))]
def b_is_book : List SA := [
  .ifs (.or (.not (.blt .isinst [.var 0, .con (.ty "tuple")])) (.or (.cmp .eq (.blt .len [.var 0]) (.con (.int 0))) (.not (.blt .all [.comp false (.name 1) .seq [.var 0] [] (.call 24 [.var 1])])))) [.ret (.con (.bl false))] [],
  .ret (.call 7 [.comp false (.tup [.name 2, .name 3]) .seq [.var 0] [] (.var 2)])]
def b__law_hand : List SA := [
  .asg (.name 1) (.con (.int 23)),
  .for_ (.name 2) .seq [.sl (.var 0) [] [.con (.int 63)]] [.asg (.name 1) (.bin .mod (.bin .add (.bin .add (.bin .mul (.var 1) (.con (.int 6364136223846793))) (.bin .mod (.var 2) (.con (.int 2305843009213693951)))) (.con (.int 31))) (.con (.int 2305843009213693951)))],
  .ret (.nlst [.comp true (.name 2) .seq [.sl (.var 0) [] [.con (.int 63)]] [.cmp .ge (.var 2) (.bin .pow (.con (.int 10)) (.con (.int 18)))] (.var 2), .var 1])]
def b__law_pick : List SA := [
  .while_ (.and (.cmp .ne (.ix (.var 0) (.con (.int 0))) (.lst [])) (.cmp .eq (.ix (.ix (.var 0) (.con (.int 0))) (.con (.int 0))) (.con (.int 0)))) [.expr (.mth .pop1 (.ix (.var 0) (.con (.int 0))) [.con (.int 0)])],
  .ifs (.cmp .ne (.ix (.var 0) (.con (.int 0))) (.lst [])) [.asg (.name 2) (.bin .mod (.ix (.ix (.var 0) (.con (.int 0))) (.con (.int 0))) (.var 1)), .setIx (.bin .fdiv (.ix (.ix (.var 0) (.con (.int 0))) (.con (.int 0))) (.var 1)) (.ix (.var 0) (.con (.int 0))) (.con (.int 0)), .ret (.var 2)] [],
  .setIx (.bin .mod (.bin .add (.bin .mul (.ix (.var 0) (.con (.int 1))) (.con (.int 3935559000370003))) (.con (.int 2691343689449507))) (.con (.int 2305843009213693951))) (.var 0) (.con (.int 1)),
  .asg (.name 3) (.bin .fdiv (.ix (.var 0) (.con (.int 1))) (.con (.int 65537))),
  .ret (.bin .mod (.bin .fdiv (.bin .mod (.bin .mul (.var 3) (.bin .add (.bin .mod (.var 3) (.con (.int 8191))) (.con (.int 3)))) (.con (.int 2305843009213693921))) (.con (.int 4099))) (.var 1))]
def b__law_of : List SA := [
  .ret (.ix (.var 1) (.call 27 [.var 0, .blt .len [.var 1]]))]
def b__law_signals : List SA := [
  .asg (.name 1) (.tup [.con (.str "on"), .con (.str "hang"), .con (.str "quit"), .con (.str "call"), .con (.str "kin"), .con (.str "rest"), .con (.str "reads")]),
  .asg (.name 2) (.bin .add (.con (.int 2)) (.call 27 [.var 0, .con (.int 3)])),
  .ret (.blt .tuple [.comp false (.name 3) .seq [.var 1] [.cmp .eq (.call 27 [.var 0, .var 2]) (.con (.int 0))] (.var 3)])]
def b__law_parts : List SA := [
  .asg (.name 3) (.call 28 [.var 0, .lst [.con (.int 0), .con (.int 0), .con (.int 1), .con (.int 2), .con (.int 9), .con (.int 12), .con (.int 999999999)]]),
  .ifs (.cmp .eq (.var 1) (.con (.str "exec"))) [.ret (.tup [.mth .join (.con (.str "")) [.comp false (.name 6) .range [.bin .add (.con (.int 1)) (.call 27 [.var 0, .con (.int 8)])] [] (.call 28 [.var 0, .con (.str "abcmnxyz")])]])] [],
  .ifs (.cmp .inn (.var 1) (.tup [.con (.str "end"), .con (.str "say")])) [.ret (.tup [.call 28 [.var 0, .lst [.con (.int 0), .con (.int 1), .con (.int 9), .con (.int 10), .con (.int 99), .call 27 [.var 0, .con (.int 100)]]]])] [],
  .ifs (.cmp .eq (.var 1) (.con (.str "wait"))) [.ret (.tup [.call 28 [.var 0, .lst [.con (.non), .con (.non), .var 3]], .cmp .eq (.call 27 [.var 0, .con (.int 2)]) (.con (.int 0))])] [],
  .ifs (.cmp .eq (.var 1) (.con (.str "send"))) [.asg (.name 4) (.call 28 [.var 0, .lst [.con (.str "kill"), .con (.str "halt"), .con (.str "on"), .con (.str "hang"), .con (.str "quit"), .con (.str "call"), .con (.str "kin"), .con (.str "rest"), .con (.str "reads")]]), .ret (.tup [.var 4, .call 28 [.var 0, .lst [.con (.str "self"), .con (.str "parent"), .con (.str "group"), .var 3]]])] [],
  .ifs (.cmp .inn (.var 1) (.tup [.con (.str "mask"), .con (.str "unmask")])) [.ret (.tup [.call 29 [.var 0]])] [],
  .ifs (.cmp .eq (.var 1) (.con (.str "handle"))) [.asg (.name 5) (.call 28 [.var 0, .lst [.con (.str "plain"), .con (.str "ignore"), .con (.int 0), .con (.int 0)]]), .asg (.name 5) (.ite (.cmp .eq (.var 5) (.con (.int 0))) (.tup [.call 27 [.var 0, .var 2], .call 29 [.var 0]]) (.var 5)), .ret (.tup [.call 28 [.var 0, .lst [.con (.str "on"), .con (.str "hang"), .con (.str "quit"), .con (.str "call"), .con (.str "kin"), .con (.str "rest"), .con (.str "reads")]], .var 5])] [],
  .ifs (.cmp .eq (.var 1) (.con (.str "group"))) [.ret (.tup [.call 28 [.var 0, .lst [.con (.str "self"), .var 3]], .call 28 [.var 0, .lst [.con (.str "new"), .con (.str "mine")]]])] [],
  .ifs (.cmp .eq (.var 1) (.con (.str "front"))) [.ret (.tup [.call 28 [.var 0, .lst [.con (.str "self"), .var 3]]])] [],
  .ifs (.cmp .eq (.var 1) (.con (.str "goto"))) [.ret (.tup [.call 27 [.var 0, .var 2]])] [],
  .ret (.ite (.cmp .eq (.var 1) (.con (.str "if"))) (.tup [.call 28 [.var 0, .lst [.con (.int 0), .neg (.con (.int 1)), .con (.int 1), .con (.int 100), .con (.int 300), .neg (.con (.int 99)), .con (.int 999999999)]], .call 27 [.var 0, .var 2]]) (.tup []))]
def b__law_words : List SA := [
  .asg (.name 0) (.lst [.con (.str "fork"), .con (.str "exec"), .con (.str "end"), .con (.str "wait"), .con (.str "pause"), .con (.str "read"), .con (.str "send"), .con (.str "mask"), .con (.str "unmask"), .con (.str "handle"), .con (.str "return"), .con (.str "session")]),
  .ret (.bin .add (.var 0) (.lst [.con (.str "group"), .con (.str "front"), .con (.str "taker"), .con (.str "say"), .con (.str "goto"), .con (.str "if")]))]
def b__law_row : List SA := [
  .asg (.name 2) (.call 28 [.var 0, .call 31 []]),
  .ret (.bin .add (.tup [.var 2]) (.call 30 [.var 0, .var 2, .var 1]))]
def b__law_whole : List SA := [
  .ret (.and (.blt .isinst [.var 0, .con (.ty "int")]) (.and (.not (.blt .isinst [.var 0, .con (.ty "bool")])) (.chain .le .lt (.var 1) (.var 0) (.var 2))))]
def b__law_word : List SA := [
  .ret (.and (.blt .isinst [.var 0, .con (.ty "str")]) (.cmp .inn (.var 0) (.var 1)))]
def b__law_are_signals : List SA := [
  .asg (.name 1) (.lst [.con (.str "on"), .con (.str "hang"), .con (.str "quit"), .con (.str "call"), .con (.str "kin"), .con (.str "rest"), .con (.str "reads")]),
  .ifs (.or (.not (.blt .isinst [.var 0, .con (.ty "tuple")])) (.not (.blt .all [.comp false (.name 3) .seq [.var 0] [] (.call 34 [.var 3, .var 1])]))) [.ret (.con (.bl false))] [],
  .asg (.name 2) (.comp false (.name 3) .seq [.var 0] [] (.mth .index (.var 1) [.var 3])),
  .ret (.blt .all [.comp false (.tup [.name 3, .name 4]) .zip [.var 2, .sl (.var 2) [.con (.int 1)] []] [] (.cmp .lt (.var 3) (.var 4))])]
def b__law_is_title : List SA := [
  .ifs (.or (.not (.blt .isinst [.var 0, .con (.ty "str")])) (.not (.chain .lt .lt (.con (.int 0)) (.blt .len [.var 0]) (.con (.int 9))))) [.ret (.con (.bl false))] [],
  .ret (.blt .all [.comp false (.name 1) .seq [.var 0] [] (.chain .le .le (.con (.str "a")) (.var 1) (.con (.str "z")))])]
def b__law_is_part : List SA := [
  .par 4 5 (.bin .pow (.con (.int 10)) (.con (.int 12))) (.lst [.con (.str "on"), .con (.str "hang"), .con (.str "quit"), .con (.str "call"), .con (.str "kin"), .con (.str "rest"), .con (.str "reads")]),
  .ifs (.cmp .eq (.var 0) (.con (.str "exec"))) [.ret (.call 36 [.var 2])] [],
  .ifs (.cmp .inn (.var 0) (.tup [.con (.str "end"), .con (.str "say")])) [.ret (.call 33 [.var 2, .con (.int 0), .con (.int 100)])] [],
  .ifs (.cmp .eq (.var 0) (.con (.str "wait"))) [.ret (.ite (.cmp .eq (.var 1) (.con (.int 1))) (.blt .isinst [.var 2, .con (.ty "bool")]) (.or (.cmp .is (.var 2) (.con (.non))) (.call 33 [.var 2, .con (.int 0), .var 4])))] [],
  .ifs (.cmp .eq (.var 0) (.con (.str "send"))) [.ifs (.cmp .eq (.var 1) (.con (.int 0))) [.ret (.call 34 [.var 2, .bin .add (.lst [.con (.str "kill"), .con (.str "halt")]) (.var 5)])] [], .ret (.or (.call 33 [.var 2, .con (.int 0), .var 4]) (.call 34 [.var 2, .lst [.con (.str "self"), .con (.str "parent"), .con (.str "group")]]))] [],
  .ifs (.cmp .inn (.var 0) (.tup [.con (.str "mask"), .con (.str "unmask")])) [.ret (.call 35 [.var 2])] [],
  .ifs (.and (.cmp .eq (.var 0) (.con (.str "handle"))) (.cmp .eq (.var 1) (.con (.int 0)))) [.ret (.call 34 [.var 2, .var 5])] [],
  .ifs (.cmp .eq (.var 0) (.con (.str "handle"))) [.ifs (.not (.blt .isinst [.var 2, .con (.ty "tuple")])) [.ret (.call 34 [.var 2, .lst [.con (.str "plain"), .con (.str "ignore")]])] [], .ret (.and (.cmp .eq (.blt .len [.var 2]) (.con (.int 2))) (.and (.call 33 [.ix (.var 2) (.con (.int 0)), .con (.int 0), .var 3]) (.call 35 [.ix (.var 2) (.con (.int 1))])))] [],
  .ifs (.and (.cmp .inn (.var 0) (.tup [.con (.str "group"), .con (.str "front")])) (.cmp .eq (.var 1) (.con (.int 0)))) [.ret (.or (.call 33 [.var 2, .con (.int 0), .var 4]) (.call 34 [.var 2, .lst [.con (.str "self")]]))] [],
  .ifs (.cmp .eq (.var 0) (.con (.str "group"))) [.ret (.call 34 [.var 2, .lst [.con (.str "new"), .con (.str "mine")]])] [],
  .ret (.ite (.and (.cmp .eq (.var 0) (.con (.str "if"))) (.cmp .eq (.var 1) (.con (.int 0)))) (.call 33 [.var 2, .bin .sub (.con (.int 0)) (.var 4), .var 4]) (.call 33 [.var 2, .con (.int 0), .var 3]))]
def b__law_is_row : List SA := [
  .ifs (.or (.not (.blt .isinst [.var 0, .con (.ty "tuple")])) (.or (.cmp .eq (.var 0) (.tup [])) (.not (.blt .isinst [.ix (.var 0) (.con (.int 0)), .con (.ty "str")])))) [.ret (.con (.bl false))] [],
  .asg (.name 2) (.ndict [.con (.str "exec"), .con (.int 1), .con (.str "end"), .con (.int 1), .con (.str "wait"), .con (.int 2), .con (.str "send"), .con (.int 2), .con (.str "mask"), .con (.int 1), .con (.str "unmask"), .con (.int 1), .con (.str "handle"), .con (.int 2), .con (.str "group"), .con (.int 2), .con (.str "front"), .con (.int 1)]),
  .expr (.mth .update (.var 2) [.ndict [.con (.str "say"), .con (.int 1), .con (.str "goto"), .con (.int 1), .con (.str "if"), .con (.int 2), .con (.str "fork"), .con (.int 0), .con (.str "pause"), .con (.int 0), .con (.str "read"), .con (.int 0), .con (.str "return"), .con (.int 0), .con (.str "session"), .con (.int 0), .con (.str "taker"), .con (.int 0)]]),
  .ifs (.or (.cmp .notin (.ix (.var 0) (.con (.int 0))) (.var 2)) (.cmp .ne (.blt .len [.var 0]) (.bin .add (.con (.int 1)) (.ix (.var 2) (.ix (.var 0) (.con (.int 0))))))) [.ret (.con (.bl false))] [],
  .ret (.blt .all [.comp false (.tup [.name 3, .name 4]) .enum [.sl (.var 0) [.con (.int 1)] []] [] (.call 37 [.ix (.var 0) (.con (.int 0)), .var 3, .var 4, .var 1])])]
def b__law_is_book : List SA := [
  .ifs (.or (.not (.blt .isinst [.var 0, .con (.ty "tuple")])) (.cmp .eq (.var 0) (.tup []))) [.ret (.con (.bl false))] [],
  .for_ (.name 1) .seq [.var 0] [.ifs (.or (.not (.blt .isinst [.var 1, .con (.ty "tuple")])) (.or (.cmp .ne (.blt .len [.var 1]) (.con (.int 2))) (.not (.call 36 [.ix (.var 1) (.con (.int 0))])))) [.ret (.con (.bl false))] [], .asg (.name 2) (.ix (.var 1) (.con (.int 1))), .ifs (.or (.not (.blt .isinst [.var 2, .con (.ty "tuple")])) (.or (.cmp .eq (.var 2) (.tup [])) (.not (.blt .all [.comp false (.name 4) .seq [.var 2] [] (.call 38 [.var 4, .blt .len [.var 2]])])))) [.ret (.con (.bl false))] []],
  .asg (.name 3) (.comp false (.name 1) .seq [.var 0] [] (.ix (.var 1) (.con (.int 0)))),
  .ret (.blt .all [.comp false (.tup [.name 5, .name 6]) .zip [.var 3, .sl (.var 3) [.con (.int 1)] []] [] (.cmp .lt (.var 5) (.var 6))])]
def b__law_deep : List SA := [
  .asg (.name 1) (.call 28 [.var 0, .lst [.tup [], .con (.int 0), .con (.non), .con (.str "call"), .tup [.con (.str "fork")]]]),
  .for_ (.name 2) .range [.bin .add (.con (.int 9)) (.call 27 [.var 0, .con (.int 8)])] [.asg (.name 1) (.call 28 [.var 0, .lst [.tup [.var 1], .tup [.var 1, .con (.str "on")], .lst [.var 1], .tup [.con (.str "mask"), .var 1], .fdict [.con (.str "a"), .var 1]]])],
  .ret (.var 1)]
def b__law_thing : List SA := [
  .asg (.name 1) (.lst [.con (.non), .con (.bl true), .con (.bl false), .con (.int 0), .neg (.con (.int 1)), .bin .pow (.con (.int 10)) (.con (.int 8)), .con (.str ""), .con (.str "fork"), .con (.str "a"), .tup [], .lst [], .edict, .tup [.con (.str "fork")], .lst [.con (.str "fork")], .tup [.tup [.con (.str "fork")]], .tup [.tup []]]),
  .asg (.name 1) (.bin .add (.var 1) (.lst [.tup [.con (.str "a"), .tup [.tup [.con (.str "fork")]]], .tup [.tup [.con (.str "a"), .tup [.tup [.con (.str "fork")]]]], .lst [.tup [.con (.str "a"), .tup [.tup [.con (.str "fork")]]]], .tup [.con (.str "end"), .con (.int 0)], .tup [.con (.str "end"), .con (.str "0")]])),
  .ret (.ite (.cmp .eq (.call 27 [.var 0, .con (.int 2)]) (.con (.int 0))) (.call 40 [.var 0]) (.call 28 [.var 0, .var 1]))]
def b__law_right : List SA := [
  .asg (.name 1) (.blt .repr [.var 0]),
  .asg (.name 2) (.lst [.call 23 [.var 0, .con (.int 3)], .call 25 [.var 0]]),
  .asg (.name 3) (.lst [.call 38 [.var 0, .con (.int 3)], .call 39 [.var 0]]),
  .ret (.and (.cmp .eq (.blt .repr [.var 2]) (.blt .repr [.var 3])) (.cmp .eq (.blt .repr [.var 0]) (.var 1)))]
def b_law : List SA := [
  .asg (.name 1) (.call 26 [.var 0]),
  .for_ (.name 2) .range [.con (.int 30)] [.par 3 4 (.call 41 [.var 1]) (.call 32 [.var 1, .con (.int 3)]), .asg (.name 5) (.tup [.var 4, .tup [.con (.str "fork")], .var 4]), .asg (.name 6) (.lst [.var 3, .tup [.var 3], .tup [.tup [.var 3, .var 5]], .tup [.tup [.con (.str "a"), .var 3]], .tup [.tup [.con (.str "a"), .tup [.var 3]]], .tup [.tup [.con (.str "a"), .var 5], .var 3]]), .asg (.name 6) (.bin .add (.var 6) (.lst [.bin .add (.sl (.var 4) [] [.neg (.con (.int 1))]) (.tup [.var 3]), .bin .add (.bin .add (.sl (.var 4) [] [.con (.int 1)]) (.tup [.var 3])) (.sl (.var 4) [.con (.int 2)] []), .bin .add (.tup [.var 3]) (.sl (.var 4) [.con (.int 1)] [])])), .ifs (.not (.blt .all [.comp false (.name 7) .seq [.var 6] [] (.call 42 [.var 7])])) [.ret (.con (.bl false))] []],
  .ret (.con (.bl true))]
def d_rising_signals : DefT := ⟨"rising_signals", "rising_signals", defArgs (top 3), defBody (top 3), defScope (top 3), ["some", "signal"], ["some"], [], none, ⟨1, 2, b_rising_signals⟩⟩
def d_is_signal : DefT := ⟨"is_signal", "is_signal", defArgs (top 4), defBody (top 4), defScope (top 4), ["thing"], ["thing"], [], none, ⟨1, 1, b_is_signal⟩⟩
def d_may_be_masked : DefT := ⟨"may_be_masked", "may_be_masked", defArgs (top 5), defBody (top 5), defScope (top 5), ["thing"], ["thing"], [], none, ⟨1, 1, b_may_be_masked⟩⟩
def d_are_maskable : DefT := ⟨"are_maskable", "are_maskable", defArgs (top 6), defBody (top 6), defScope (top 6), ["thing", "one"], ["thing"], [], none, ⟨1, 2, b_are_maskable⟩⟩
def d_is_whole : DefT := ⟨"is_whole", "is_whole", defArgs (top 8), defBody (top 8), defScope (top 8), ["thing"], ["thing"], [], none, ⟨1, 1, b_is_whole⟩⟩
def d_is_count : DefT := ⟨"is_count", "is_count", defArgs (top 9), defBody (top 9), defScope (top 9), ["thing"], ["thing"], [], none, ⟨1, 1, b_is_count⟩⟩
def d_is_below : DefT := ⟨"is_below", "is_below", defArgs (top 10), defBody (top 10), defScope (top 10), ["thing", "many"], ["thing", "many"], [], none, ⟨2, 2, b_is_below⟩⟩
def d_are_rising : DefT := ⟨"are_rising", "are_rising", defArgs (top 11), defBody (top 11), defScope (top 11), ["some", "one", "other"], ["some"], [], none, ⟨1, 3, b_are_rising⟩⟩
def d_is_said : DefT := ⟨"is_said", "is_said", defArgs (top 17), defBody (top 17), defScope (top 17), ["thing"], ["thing"], [], none, ⟨1, 1, b_is_said⟩⟩
def d_is_title : DefT := ⟨"is_title", "is_title", defArgs (top 18), defBody (top 18), defScope (top 18), ["thing", "sign"], ["thing"], [], none, ⟨1, 2, b_is_title⟩⟩
def d_is_who : DefT := ⟨"is_who", "is_who", defArgs (top 19), defBody (top 19), defScope (top 19), ["thing"], ["thing"], [], none, ⟨1, 1, b_is_who⟩⟩
def d_is_one_of : DefT := ⟨"is_one_of", "is_one_of", defArgs (top 20), defBody (top 20), defScope (top 20), ["thing", "words"], ["thing", "words"], [], some (1, ["words"]), ⟨2, 2, b_is_one_of⟩⟩
def d_is_how : DefT := ⟨"is_how", "is_how", defArgs (top 21), defBody (top 21), defScope (top 21), ["thing", "size"], ["thing", "size"], [], none, ⟨2, 2, b_is_how⟩⟩
def d_is_exec : DefT := ⟨"is_exec", "is_exec", defArgs (top 22), defBody (top 22), defScope (top 22), ["parts", "size"], ["parts", "size"], [], none, ⟨2, 2, b_is_exec⟩⟩
def d_is_said_row : DefT := ⟨"is_said_row", "is_said_row", defArgs (top 23), defBody (top 23), defScope (top 23), ["parts", "size"], ["parts", "size"], [], none, ⟨2, 2, b_is_said_row⟩⟩
def d_is_wait : DefT := ⟨"is_wait", "is_wait", defArgs (top 24), defBody (top 24), defScope (top 24), ["parts", "size"], ["parts", "size"], [], none, ⟨2, 2, b_is_wait⟩⟩
def d_is_send : DefT := ⟨"is_send", "is_send", defArgs (top 25), defBody (top 25), defScope (top 25), ["parts", "size"], ["parts", "size"], [], none, ⟨2, 2, b_is_send⟩⟩
def d_is_masking : DefT := ⟨"is_masking", "is_masking", defArgs (top 26), defBody (top 26), defScope (top 26), ["parts", "size"], ["parts", "size"], [], none, ⟨2, 2, b_is_masking⟩⟩
def d_is_handle : DefT := ⟨"is_handle", "is_handle", defArgs (top 27), defBody (top 27), defScope (top 27), ["parts", "size"], ["parts", "size"], [], none, ⟨2, 2, b_is_handle⟩⟩
def d_is_grouping : DefT := ⟨"is_grouping", "is_grouping", defArgs (top 28), defBody (top 28), defScope (top 28), ["parts", "size"], ["parts", "size"], [], none, ⟨2, 2, b_is_grouping⟩⟩
def d_is_front : DefT := ⟨"is_front", "is_front", defArgs (top 29), defBody (top 29), defScope (top 29), ["parts", "size"], ["parts", "size"], [], none, ⟨2, 2, b_is_front⟩⟩
def d_is_going : DefT := ⟨"is_going", "is_going", defArgs (top 30), defBody (top 30), defScope (top 30), ["parts", "size"], ["parts", "size"], [], none, ⟨2, 2, b_is_going⟩⟩
def d_is_asking : DefT := ⟨"is_asking", "is_asking", defArgs (top 31), defBody (top 31), defScope (top 31), ["parts", "size"], ["parts", "size"], [], none, ⟨2, 2, b_is_asking⟩⟩
def d_is_row : DefT := ⟨"is_row", "is_row", defArgs (top 34), defBody (top 34), defScope (top 34), ["thing", "size", "word", "parts", "many", "looked"], ["thing", "size"], [], none, ⟨2, 6, b_is_row⟩⟩
def d_is_program : DefT := ⟨"is_program", "is_program", defArgs (top 35), defBody (top 35), defScope (top 35), ["thing", "rows", "row"], ["thing"], [], none, ⟨1, 3, b_is_program⟩⟩
def d_is_book : DefT := ⟨"is_book", "is_book", defArgs (top 36), defBody (top 36), defScope (top 36), ["thing", "one", "title", "rows"], ["thing"], [], none, ⟨1, 4, b_is_book⟩⟩
def d__law_hand : DefT := ⟨"_law_hand", "_law_hand", defArgs (top 38), defBody (top 38), defScope (top 38), ["_law_script", "_law_seed", "_law_cell"], ["_law_script"], [⟨86, 11, 86, 94⟩, ⟨86, 12, 86, 82⟩], none, ⟨1, 3, b__law_hand⟩⟩
def d__law_pick : DefT := ⟨"_law_pick", "_law_pick", defArgs (top 39), defBody (top 39), defScope (top 39), ["_law_hand_here", "_law_many", "_law_digit", "_law_mixed"], ["_law_hand_here", "_law_many"], [], none, ⟨2, 4, b__law_pick⟩⟩
def d__law_of : DefT := ⟨"_law_of", "_law_of", defArgs (top 40), defBody (top 40), defScope (top 40), ["_law_hand_here", "_law_some"], ["_law_hand_here", "_law_some"], [], none, ⟨2, 2, b__law_of⟩⟩
def d__law_signals : DefT := ⟨"_law_signals", "_law_signals", defArgs (top 41), defBody (top 41), defScope (top 41), ["_law_hand_here", "_law_some", "_law_chance", "_law_signal"], ["_law_hand_here"], [], none, ⟨1, 4, b__law_signals⟩⟩
def d__law_parts : DefT := ⟨"_law_parts", "_law_parts", defArgs (top 42), defBody (top 42), defScope (top 42), ["_law_hand_here", "_law_word_here", "_law_size", "_law_child", "_law_signal", "_law_how", "_law_k"], ["_law_hand_here", "_law_word_here", "_law_size"], [], none, ⟨3, 7, b__law_parts⟩⟩
def d__law_words : DefT := ⟨"_law_words", "_law_words", defArgs (top 43), defBody (top 43), defScope (top 43), ["_law_some"], [], [], none, ⟨0, 1, b__law_words⟩⟩
def d__law_row : DefT := ⟨"_law_row", "_law_row", defArgs (top 44), defBody (top 44), defScope (top 44), ["_law_hand_here", "_law_size", "_law_word_here"], ["_law_hand_here", "_law_size"], [], none, ⟨2, 3, b__law_row⟩⟩
def d__law_whole : DefT := ⟨"_law_whole", "_law_whole", defArgs (top 45), defBody (top 45), defScope (top 45), ["_law_thing_here", "_law_low", "_law_high"], ["_law_thing_here", "_law_low", "_law_high"], [], none, ⟨3, 3, b__law_whole⟩⟩
def d__law_word : DefT := ⟨"_law_word", "_law_word", defArgs (top 46), defBody (top 46), defScope (top 46), ["_law_thing_here", "_law_words_here"], ["_law_thing_here", "_law_words_here"], [], none, ⟨2, 2, b__law_word⟩⟩
def d__law_are_signals : DefT := ⟨"_law_are_signals", "_law_are_signals", defArgs (top 47), defBody (top 47), defScope (top 47), ["_law_thing_here", "_law_some", "_law_places", "_law_one", "_law_other"], ["_law_thing_here"], [], none, ⟨1, 5, b__law_are_signals⟩⟩
def d__law_is_title : DefT := ⟨"_law_is_title", "_law_is_title", defArgs (top 48), defBody (top 48), defScope (top 48), ["_law_thing_here", "_law_sign"], ["_law_thing_here"], [], none, ⟨1, 2, b__law_is_title⟩⟩
def d__law_is_part : DefT := ⟨"_law_is_part", "_law_is_part", defArgs (top 49), defBody (top 49), defScope (top 49), ["_law_word_here", "_law_at", "_law_part", "_law_size", "_law_great", "_law_some"], ["_law_word_here", "_law_at", "_law_part", "_law_size"], [], none, ⟨4, 6, b__law_is_part⟩⟩
def d__law_is_row : DefT := ⟨"_law_is_row", "_law_is_row", defArgs (top 50), defBody (top 50), defScope (top 50), ["_law_thing_here", "_law_size", "_law_many", "_law_at", "_law_part"], ["_law_thing_here", "_law_size"], [⟨175, 16, 175, 120⟩, ⟨176, 21, 176, 124⟩], none, ⟨2, 5, b__law_is_row⟩⟩
def d__law_is_book : DefT := ⟨"_law_is_book", "_law_is_book", defArgs (top 51), defBody (top 51), defScope (top 51), ["_law_thing_here", "_law_program", "_law_rows", "_law_titles", "_law_row_here", "_law_one", "_law_other"], ["_law_thing_here"], [], none, ⟨1, 7, b__law_is_book⟩⟩
def d__law_deep : DefT := ⟨"_law_deep", "_law_deep", defArgs (top 52), defBody (top 52), defScope (top 52), ["_law_hand_here", "_law_thing_here", "_law_k"], ["_law_hand_here"], [], none, ⟨1, 3, b__law_deep⟩⟩
def d__law_thing : DefT := ⟨"_law_thing", "_law_thing", defArgs (top 53), defBody (top 53), defScope (top 53), ["_law_hand_here", "_law_some"], ["_law_hand_here"], [], none, ⟨1, 2, b__law_thing⟩⟩
def d__law_right : DefT := ⟨"_law_right", "_law_right", defArgs (top 54), defBody (top 54), defScope (top 54), ["_law_thing_here", "_law_kept", "_law_found", "_law_want"], ["_law_thing_here"], [], none, ⟨1, 4, b__law_right⟩⟩
def d_law : DefT := ⟨"law", "law", defArgs (top 55), defBody (top 55), defScope (top 55), ["_law_script", "_law_hand_here", "_law_turn", "_law_thing_here", "_law_row_here", "_law_rows", "_law_some", "_law_one"], ["_law_script"], [], none, ⟨1, 8, b_law⟩⟩
theorem s_rising_signals : FnScope d_rising_signals.N d_rising_signals.ps d_rising_signals.scope := ⟨rfl, rfl, rfl, by decide +kernel, rfl, by decide +kernel, by decide +kernel⟩
theorem k_rising_signals : BindT d_rising_signals := fun _ _ _ _ _ _ us hl => match us, hl with | [_], _ => rfl
theorem c_rising_signals : cSs (infoOf glob d_rising_signals) 100 d_rising_signals.body = some b_rising_signals := by kernel_rfl
theorem o_rising_signals : DefOk glob d_rising_signals := ⟨s_rising_signals, k_rising_signals, 100, c_rising_signals⟩
theorem s_is_signal : FnScope d_is_signal.N d_is_signal.ps d_is_signal.scope := ⟨rfl, rfl, rfl, by decide +kernel, rfl, by decide +kernel, by decide +kernel⟩
theorem k_is_signal : BindT d_is_signal := fun _ _ _ _ _ _ us hl => match us, hl with | [_], _ => rfl
theorem c_is_signal : cSs (infoOf glob d_is_signal) 100 d_is_signal.body = some b_is_signal := by kernel_rfl
theorem o_is_signal : DefOk glob d_is_signal := ⟨s_is_signal, k_is_signal, 100, c_is_signal⟩
theorem s_may_be_masked : FnScope d_may_be_masked.N d_may_be_masked.ps d_may_be_masked.scope := ⟨rfl, rfl, rfl, by decide +kernel, rfl, by decide +kernel, by decide +kernel⟩
theorem k_may_be_masked : BindT d_may_be_masked := fun _ _ _ _ _ _ us hl => match us, hl with | [_], _ => rfl
theorem c_may_be_masked : cSs (infoOf glob d_may_be_masked) 100 d_may_be_masked.body = some b_may_be_masked := by kernel_rfl
theorem o_may_be_masked : DefOk glob d_may_be_masked := ⟨s_may_be_masked, k_may_be_masked, 100, c_may_be_masked⟩
theorem s_are_maskable : FnScope d_are_maskable.N d_are_maskable.ps d_are_maskable.scope := ⟨rfl, rfl, rfl, by decide +kernel, rfl, by decide +kernel, by decide +kernel⟩
theorem k_are_maskable : BindT d_are_maskable := fun _ _ _ _ _ _ us hl => match us, hl with | [_], _ => rfl
theorem c_are_maskable : cSs (infoOf glob d_are_maskable) 100 d_are_maskable.body = some b_are_maskable := by kernel_rfl
theorem o_are_maskable : DefOk glob d_are_maskable := ⟨s_are_maskable, k_are_maskable, 100, c_are_maskable⟩
theorem s_is_whole : FnScope d_is_whole.N d_is_whole.ps d_is_whole.scope := ⟨rfl, rfl, rfl, by decide +kernel, rfl, by decide +kernel, by decide +kernel⟩
theorem k_is_whole : BindT d_is_whole := fun _ _ _ _ _ _ us hl => match us, hl with | [_], _ => rfl
theorem c_is_whole : cSs (infoOf glob d_is_whole) 100 d_is_whole.body = some b_is_whole := by kernel_rfl
theorem o_is_whole : DefOk glob d_is_whole := ⟨s_is_whole, k_is_whole, 100, c_is_whole⟩
theorem s_is_count : FnScope d_is_count.N d_is_count.ps d_is_count.scope := ⟨rfl, rfl, rfl, by decide +kernel, rfl, by decide +kernel, by decide +kernel⟩
theorem k_is_count : BindT d_is_count := fun _ _ _ _ _ _ us hl => match us, hl with | [_], _ => rfl
theorem c_is_count : cSs (infoOf glob d_is_count) 100 d_is_count.body = some b_is_count := by kernel_rfl
theorem o_is_count : DefOk glob d_is_count := ⟨s_is_count, k_is_count, 100, c_is_count⟩
theorem s_is_below : FnScope d_is_below.N d_is_below.ps d_is_below.scope := ⟨rfl, rfl, rfl, by decide +kernel, rfl, by decide +kernel, by decide +kernel⟩
theorem k_is_below : BindT d_is_below := fun _ _ _ _ _ _ us hl => match us, hl with | [_, _], _ => rfl
theorem c_is_below : cSs (infoOf glob d_is_below) 100 d_is_below.body = some b_is_below := by kernel_rfl
theorem o_is_below : DefOk glob d_is_below := ⟨s_is_below, k_is_below, 100, c_is_below⟩
theorem s_are_rising : FnScope d_are_rising.N d_are_rising.ps d_are_rising.scope := ⟨rfl, rfl, rfl, by decide +kernel, rfl, by decide +kernel, by decide +kernel⟩
theorem k_are_rising : BindT d_are_rising := fun _ _ _ _ _ _ us hl => match us, hl with | [_], _ => rfl
theorem c_are_rising : cSs (infoOf glob d_are_rising) 100 d_are_rising.body = some b_are_rising := by kernel_rfl
theorem o_are_rising : DefOk glob d_are_rising := ⟨s_are_rising, k_are_rising, 100, c_are_rising⟩
theorem s_is_said : FnScope d_is_said.N d_is_said.ps d_is_said.scope := ⟨rfl, rfl, rfl, by decide +kernel, rfl, by decide +kernel, by decide +kernel⟩
theorem k_is_said : BindT d_is_said := fun _ _ _ _ _ _ us hl => match us, hl with | [_], _ => rfl
theorem c_is_said : cSs (infoOf glob d_is_said) 100 d_is_said.body = some b_is_said := by kernel_rfl
theorem o_is_said : DefOk glob d_is_said := ⟨s_is_said, k_is_said, 100, c_is_said⟩
theorem s_is_title : FnScope d_is_title.N d_is_title.ps d_is_title.scope := ⟨rfl, rfl, rfl, by decide +kernel, rfl, by decide +kernel, by decide +kernel⟩
theorem k_is_title : BindT d_is_title := fun _ _ _ _ _ _ us hl => match us, hl with | [_], _ => rfl
theorem c_is_title : cSs (infoOf glob d_is_title) 100 d_is_title.body = some b_is_title := by kernel_rfl
theorem o_is_title : DefOk glob d_is_title := ⟨s_is_title, k_is_title, 100, c_is_title⟩
theorem s_is_who : FnScope d_is_who.N d_is_who.ps d_is_who.scope := ⟨rfl, rfl, rfl, by decide +kernel, rfl, by decide +kernel, by decide +kernel⟩
theorem k_is_who : BindT d_is_who := fun _ _ _ _ _ _ us hl => match us, hl with | [_], _ => rfl
theorem c_is_who : cSs (infoOf glob d_is_who) 100 d_is_who.body = some b_is_who := by kernel_rfl
theorem o_is_who : DefOk glob d_is_who := ⟨s_is_who, k_is_who, 100, c_is_who⟩
theorem s_is_one_of : FnScope d_is_one_of.N d_is_one_of.ps d_is_one_of.scope := ⟨rfl, rfl, rfl, by decide +kernel, rfl, by decide +kernel, by decide +kernel⟩
theorem k_is_one_of : BindT d_is_one_of := fun _ _ _ _ _ _ us ws hl hl2 => match us, ws, hl, hl2 with | [_], [_], _, _ => rfl
theorem c_is_one_of : cSs (infoOf glob d_is_one_of) 100 d_is_one_of.body = some b_is_one_of := by kernel_rfl
theorem o_is_one_of : DefOk glob d_is_one_of := ⟨s_is_one_of, k_is_one_of, 100, c_is_one_of⟩
theorem s_is_how : FnScope d_is_how.N d_is_how.ps d_is_how.scope := ⟨rfl, rfl, rfl, by decide +kernel, rfl, by decide +kernel, by decide +kernel⟩
theorem k_is_how : BindT d_is_how := fun _ _ _ _ _ _ us hl => match us, hl with | [_, _], _ => rfl
theorem c_is_how : cSs (infoOf glob d_is_how) 100 d_is_how.body = some b_is_how := by kernel_rfl
theorem o_is_how : DefOk glob d_is_how := ⟨s_is_how, k_is_how, 100, c_is_how⟩
theorem s_is_exec : FnScope d_is_exec.N d_is_exec.ps d_is_exec.scope := ⟨rfl, rfl, rfl, by decide +kernel, rfl, by decide +kernel, by decide +kernel⟩
theorem k_is_exec : BindT d_is_exec := fun _ _ _ _ _ _ us hl => match us, hl with | [_, _], _ => rfl
theorem c_is_exec : cSs (infoOf glob d_is_exec) 100 d_is_exec.body = some b_is_exec := by kernel_rfl
theorem o_is_exec : DefOk glob d_is_exec := ⟨s_is_exec, k_is_exec, 100, c_is_exec⟩
theorem s_is_said_row : FnScope d_is_said_row.N d_is_said_row.ps d_is_said_row.scope := ⟨rfl, rfl, rfl, by decide +kernel, rfl, by decide +kernel, by decide +kernel⟩
theorem k_is_said_row : BindT d_is_said_row := fun _ _ _ _ _ _ us hl => match us, hl with | [_, _], _ => rfl
theorem c_is_said_row : cSs (infoOf glob d_is_said_row) 100 d_is_said_row.body = some b_is_said_row := by kernel_rfl
theorem o_is_said_row : DefOk glob d_is_said_row := ⟨s_is_said_row, k_is_said_row, 100, c_is_said_row⟩
theorem s_is_wait : FnScope d_is_wait.N d_is_wait.ps d_is_wait.scope := ⟨rfl, rfl, rfl, by decide +kernel, rfl, by decide +kernel, by decide +kernel⟩
theorem k_is_wait : BindT d_is_wait := fun _ _ _ _ _ _ us hl => match us, hl with | [_, _], _ => rfl
theorem c_is_wait : cSs (infoOf glob d_is_wait) 100 d_is_wait.body = some b_is_wait := by kernel_rfl
theorem o_is_wait : DefOk glob d_is_wait := ⟨s_is_wait, k_is_wait, 100, c_is_wait⟩
theorem s_is_send : FnScope d_is_send.N d_is_send.ps d_is_send.scope := ⟨rfl, rfl, rfl, by decide +kernel, rfl, by decide +kernel, by decide +kernel⟩
theorem k_is_send : BindT d_is_send := fun _ _ _ _ _ _ us hl => match us, hl with | [_, _], _ => rfl
theorem c_is_send : cSs (infoOf glob d_is_send) 100 d_is_send.body = some b_is_send := by kernel_rfl
theorem o_is_send : DefOk glob d_is_send := ⟨s_is_send, k_is_send, 100, c_is_send⟩
theorem s_is_masking : FnScope d_is_masking.N d_is_masking.ps d_is_masking.scope := ⟨rfl, rfl, rfl, by decide +kernel, rfl, by decide +kernel, by decide +kernel⟩
theorem k_is_masking : BindT d_is_masking := fun _ _ _ _ _ _ us hl => match us, hl with | [_, _], _ => rfl
theorem c_is_masking : cSs (infoOf glob d_is_masking) 100 d_is_masking.body = some b_is_masking := by kernel_rfl
theorem o_is_masking : DefOk glob d_is_masking := ⟨s_is_masking, k_is_masking, 100, c_is_masking⟩
theorem s_is_handle : FnScope d_is_handle.N d_is_handle.ps d_is_handle.scope := ⟨rfl, rfl, rfl, by decide +kernel, rfl, by decide +kernel, by decide +kernel⟩
theorem k_is_handle : BindT d_is_handle := fun _ _ _ _ _ _ us hl => match us, hl with | [_, _], _ => rfl
theorem c_is_handle : cSs (infoOf glob d_is_handle) 100 d_is_handle.body = some b_is_handle := by kernel_rfl
theorem o_is_handle : DefOk glob d_is_handle := ⟨s_is_handle, k_is_handle, 100, c_is_handle⟩
theorem s_is_grouping : FnScope d_is_grouping.N d_is_grouping.ps d_is_grouping.scope := ⟨rfl, rfl, rfl, by decide +kernel, rfl, by decide +kernel, by decide +kernel⟩
theorem k_is_grouping : BindT d_is_grouping := fun _ _ _ _ _ _ us hl => match us, hl with | [_, _], _ => rfl
theorem c_is_grouping : cSs (infoOf glob d_is_grouping) 100 d_is_grouping.body = some b_is_grouping := by kernel_rfl
theorem o_is_grouping : DefOk glob d_is_grouping := ⟨s_is_grouping, k_is_grouping, 100, c_is_grouping⟩
theorem s_is_front : FnScope d_is_front.N d_is_front.ps d_is_front.scope := ⟨rfl, rfl, rfl, by decide +kernel, rfl, by decide +kernel, by decide +kernel⟩
theorem k_is_front : BindT d_is_front := fun _ _ _ _ _ _ us hl => match us, hl with | [_, _], _ => rfl
theorem c_is_front : cSs (infoOf glob d_is_front) 100 d_is_front.body = some b_is_front := by kernel_rfl
theorem o_is_front : DefOk glob d_is_front := ⟨s_is_front, k_is_front, 100, c_is_front⟩
theorem s_is_going : FnScope d_is_going.N d_is_going.ps d_is_going.scope := ⟨rfl, rfl, rfl, by decide +kernel, rfl, by decide +kernel, by decide +kernel⟩
theorem k_is_going : BindT d_is_going := fun _ _ _ _ _ _ us hl => match us, hl with | [_, _], _ => rfl
theorem c_is_going : cSs (infoOf glob d_is_going) 100 d_is_going.body = some b_is_going := by kernel_rfl
theorem o_is_going : DefOk glob d_is_going := ⟨s_is_going, k_is_going, 100, c_is_going⟩
theorem s_is_asking : FnScope d_is_asking.N d_is_asking.ps d_is_asking.scope := ⟨rfl, rfl, rfl, by decide +kernel, rfl, by decide +kernel, by decide +kernel⟩
theorem k_is_asking : BindT d_is_asking := fun _ _ _ _ _ _ us hl => match us, hl with | [_, _], _ => rfl
theorem c_is_asking : cSs (infoOf glob d_is_asking) 100 d_is_asking.body = some b_is_asking := by kernel_rfl
theorem o_is_asking : DefOk glob d_is_asking := ⟨s_is_asking, k_is_asking, 100, c_is_asking⟩
theorem s_is_row : FnScope d_is_row.N d_is_row.ps d_is_row.scope := ⟨rfl, rfl, rfl, by decide +kernel, rfl, by decide +kernel, by decide +kernel⟩
theorem k_is_row : BindT d_is_row := fun _ _ _ _ _ _ us hl => match us, hl with | [_, _], _ => rfl
theorem c_is_row : cSs (infoOf glob d_is_row) 100 d_is_row.body = some b_is_row := by kernel_rfl
theorem o_is_row : DefOk glob d_is_row := ⟨s_is_row, k_is_row, 100, c_is_row⟩
theorem s_is_program : FnScope d_is_program.N d_is_program.ps d_is_program.scope := ⟨rfl, rfl, rfl, by decide +kernel, rfl, by decide +kernel, by decide +kernel⟩
theorem k_is_program : BindT d_is_program := fun _ _ _ _ _ _ us hl => match us, hl with | [_], _ => rfl
theorem c_is_program : cSs (infoOf glob d_is_program) 100 d_is_program.body = some b_is_program := by kernel_rfl
theorem o_is_program : DefOk glob d_is_program := ⟨s_is_program, k_is_program, 100, c_is_program⟩
theorem s_is_book : FnScope d_is_book.N d_is_book.ps d_is_book.scope := ⟨rfl, rfl, rfl, by decide +kernel, rfl, by decide +kernel, by decide +kernel⟩
theorem k_is_book : BindT d_is_book := fun _ _ _ _ _ _ us hl => match us, hl with | [_], _ => rfl
theorem c_is_book : cSs (infoOf glob d_is_book) 100 d_is_book.body = some b_is_book := by kernel_rfl
theorem o_is_book : DefOk glob d_is_book := ⟨s_is_book, k_is_book, 100, c_is_book⟩
theorem s__law_hand : FnScope d__law_hand.N d__law_hand.ps d__law_hand.scope := ⟨rfl, rfl, rfl, by decide +kernel, rfl, by decide +kernel, by decide +kernel⟩
theorem k__law_hand : BindT d__law_hand := fun _ _ _ _ _ _ us hl => match us, hl with | [_], _ => rfl
theorem c__law_hand : cSs (infoOf glob d__law_hand) 100 d__law_hand.body = some b__law_hand := by kernel_rfl
theorem o__law_hand : DefOk glob d__law_hand := ⟨s__law_hand, k__law_hand, 100, c__law_hand⟩
theorem s__law_pick : FnScope d__law_pick.N d__law_pick.ps d__law_pick.scope := ⟨rfl, rfl, rfl, by decide +kernel, rfl, by decide +kernel, by decide +kernel⟩
theorem k__law_pick : BindT d__law_pick := fun _ _ _ _ _ _ us hl => match us, hl with | [_, _], _ => rfl
theorem c__law_pick : cSs (infoOf glob d__law_pick) 100 d__law_pick.body = some b__law_pick := by kernel_rfl
theorem o__law_pick : DefOk glob d__law_pick := ⟨s__law_pick, k__law_pick, 100, c__law_pick⟩
theorem s__law_of : FnScope d__law_of.N d__law_of.ps d__law_of.scope := ⟨rfl, rfl, rfl, by decide +kernel, rfl, by decide +kernel, by decide +kernel⟩
theorem k__law_of : BindT d__law_of := fun _ _ _ _ _ _ us hl => match us, hl with | [_, _], _ => rfl
theorem c__law_of : cSs (infoOf glob d__law_of) 100 d__law_of.body = some b__law_of := by kernel_rfl
theorem o__law_of : DefOk glob d__law_of := ⟨s__law_of, k__law_of, 100, c__law_of⟩
theorem s__law_signals : FnScope d__law_signals.N d__law_signals.ps d__law_signals.scope := ⟨rfl, rfl, rfl, by decide +kernel, rfl, by decide +kernel, by decide +kernel⟩
theorem k__law_signals : BindT d__law_signals := fun _ _ _ _ _ _ us hl => match us, hl with | [_], _ => rfl
theorem c__law_signals : cSs (infoOf glob d__law_signals) 100 d__law_signals.body = some b__law_signals := by kernel_rfl
theorem o__law_signals : DefOk glob d__law_signals := ⟨s__law_signals, k__law_signals, 100, c__law_signals⟩
theorem s__law_parts : FnScope d__law_parts.N d__law_parts.ps d__law_parts.scope := ⟨rfl, rfl, rfl, by decide +kernel, rfl, by decide +kernel, by decide +kernel⟩
theorem k__law_parts : BindT d__law_parts := fun _ _ _ _ _ _ us hl => match us, hl with | [_, _, _], _ => rfl
theorem c__law_parts : cSs (infoOf glob d__law_parts) 100 d__law_parts.body = some b__law_parts := by kernel_rfl
theorem o__law_parts : DefOk glob d__law_parts := ⟨s__law_parts, k__law_parts, 100, c__law_parts⟩
theorem s__law_words : FnScope d__law_words.N d__law_words.ps d__law_words.scope := ⟨rfl, rfl, rfl, by decide +kernel, rfl, by decide +kernel, by decide +kernel⟩
theorem k__law_words : BindT d__law_words := fun _ _ _ _ _ _ us hl => match us, hl with | [], _ => rfl
theorem c__law_words : cSs (infoOf glob d__law_words) 100 d__law_words.body = some b__law_words := by kernel_rfl
theorem o__law_words : DefOk glob d__law_words := ⟨s__law_words, k__law_words, 100, c__law_words⟩
theorem s__law_row : FnScope d__law_row.N d__law_row.ps d__law_row.scope := ⟨rfl, rfl, rfl, by decide +kernel, rfl, by decide +kernel, by decide +kernel⟩
theorem k__law_row : BindT d__law_row := fun _ _ _ _ _ _ us hl => match us, hl with | [_, _], _ => rfl
theorem c__law_row : cSs (infoOf glob d__law_row) 100 d__law_row.body = some b__law_row := by kernel_rfl
theorem o__law_row : DefOk glob d__law_row := ⟨s__law_row, k__law_row, 100, c__law_row⟩
theorem s__law_whole : FnScope d__law_whole.N d__law_whole.ps d__law_whole.scope := ⟨rfl, rfl, rfl, by decide +kernel, rfl, by decide +kernel, by decide +kernel⟩
theorem k__law_whole : BindT d__law_whole := fun _ _ _ _ _ _ us hl => match us, hl with | [_, _, _], _ => rfl
theorem c__law_whole : cSs (infoOf glob d__law_whole) 100 d__law_whole.body = some b__law_whole := by kernel_rfl
theorem o__law_whole : DefOk glob d__law_whole := ⟨s__law_whole, k__law_whole, 100, c__law_whole⟩
theorem s__law_word : FnScope d__law_word.N d__law_word.ps d__law_word.scope := ⟨rfl, rfl, rfl, by decide +kernel, rfl, by decide +kernel, by decide +kernel⟩
theorem k__law_word : BindT d__law_word := fun _ _ _ _ _ _ us hl => match us, hl with | [_, _], _ => rfl
theorem c__law_word : cSs (infoOf glob d__law_word) 100 d__law_word.body = some b__law_word := by kernel_rfl
theorem o__law_word : DefOk glob d__law_word := ⟨s__law_word, k__law_word, 100, c__law_word⟩
theorem s__law_are_signals : FnScope d__law_are_signals.N d__law_are_signals.ps d__law_are_signals.scope := ⟨rfl, rfl, rfl, by decide +kernel, rfl, by decide +kernel, by decide +kernel⟩
theorem k__law_are_signals : BindT d__law_are_signals := fun _ _ _ _ _ _ us hl => match us, hl with | [_], _ => rfl
theorem c__law_are_signals : cSs (infoOf glob d__law_are_signals) 100 d__law_are_signals.body = some b__law_are_signals := by kernel_rfl
theorem o__law_are_signals : DefOk glob d__law_are_signals := ⟨s__law_are_signals, k__law_are_signals, 100, c__law_are_signals⟩
theorem s__law_is_title : FnScope d__law_is_title.N d__law_is_title.ps d__law_is_title.scope := ⟨rfl, rfl, rfl, by decide +kernel, rfl, by decide +kernel, by decide +kernel⟩
theorem k__law_is_title : BindT d__law_is_title := fun _ _ _ _ _ _ us hl => match us, hl with | [_], _ => rfl
theorem c__law_is_title : cSs (infoOf glob d__law_is_title) 100 d__law_is_title.body = some b__law_is_title := by kernel_rfl
theorem o__law_is_title : DefOk glob d__law_is_title := ⟨s__law_is_title, k__law_is_title, 100, c__law_is_title⟩
theorem s__law_is_part : FnScope d__law_is_part.N d__law_is_part.ps d__law_is_part.scope := ⟨rfl, rfl, rfl, by decide +kernel, rfl, by decide +kernel, by decide +kernel⟩
theorem k__law_is_part : BindT d__law_is_part := fun _ _ _ _ _ _ us hl => match us, hl with | [_, _, _, _], _ => rfl
theorem c__law_is_part : cSs (infoOf glob d__law_is_part) 100 d__law_is_part.body = some b__law_is_part := by kernel_rfl
theorem o__law_is_part : DefOk glob d__law_is_part := ⟨s__law_is_part, k__law_is_part, 100, c__law_is_part⟩
theorem s__law_is_row : FnScope d__law_is_row.N d__law_is_row.ps d__law_is_row.scope := ⟨rfl, rfl, rfl, by decide +kernel, rfl, by decide +kernel, by decide +kernel⟩
theorem k__law_is_row : BindT d__law_is_row := fun _ _ _ _ _ _ us hl => match us, hl with | [_, _], _ => rfl
theorem c__law_is_row : cSs (infoOf glob d__law_is_row) 100 d__law_is_row.body = some b__law_is_row := by kernel_rfl
theorem o__law_is_row : DefOk glob d__law_is_row := ⟨s__law_is_row, k__law_is_row, 100, c__law_is_row⟩
theorem s__law_is_book : FnScope d__law_is_book.N d__law_is_book.ps d__law_is_book.scope := ⟨rfl, rfl, rfl, by decide +kernel, rfl, by decide +kernel, by decide +kernel⟩
theorem k__law_is_book : BindT d__law_is_book := fun _ _ _ _ _ _ us hl => match us, hl with | [_], _ => rfl
theorem c__law_is_book : cSs (infoOf glob d__law_is_book) 100 d__law_is_book.body = some b__law_is_book := by kernel_rfl
theorem o__law_is_book : DefOk glob d__law_is_book := ⟨s__law_is_book, k__law_is_book, 100, c__law_is_book⟩
theorem s__law_deep : FnScope d__law_deep.N d__law_deep.ps d__law_deep.scope := ⟨rfl, rfl, rfl, by decide +kernel, rfl, by decide +kernel, by decide +kernel⟩
theorem k__law_deep : BindT d__law_deep := fun _ _ _ _ _ _ us hl => match us, hl with | [_], _ => rfl
theorem c__law_deep : cSs (infoOf glob d__law_deep) 100 d__law_deep.body = some b__law_deep := by kernel_rfl
theorem o__law_deep : DefOk glob d__law_deep := ⟨s__law_deep, k__law_deep, 100, c__law_deep⟩
theorem s__law_thing : FnScope d__law_thing.N d__law_thing.ps d__law_thing.scope := ⟨rfl, rfl, rfl, by decide +kernel, rfl, by decide +kernel, by decide +kernel⟩
theorem k__law_thing : BindT d__law_thing := fun _ _ _ _ _ _ us hl => match us, hl with | [_], _ => rfl
theorem c__law_thing : cSs (infoOf glob d__law_thing) 100 d__law_thing.body = some b__law_thing := by kernel_rfl
theorem o__law_thing : DefOk glob d__law_thing := ⟨s__law_thing, k__law_thing, 100, c__law_thing⟩
theorem s__law_right : FnScope d__law_right.N d__law_right.ps d__law_right.scope := ⟨rfl, rfl, rfl, by decide +kernel, rfl, by decide +kernel, by decide +kernel⟩
theorem k__law_right : BindT d__law_right := fun _ _ _ _ _ _ us hl => match us, hl with | [_], _ => rfl
theorem c__law_right : cSs (infoOf glob d__law_right) 100 d__law_right.body = some b__law_right := by kernel_rfl
theorem o__law_right : DefOk glob d__law_right := ⟨s__law_right, k__law_right, 100, c__law_right⟩
theorem s_law : FnScope d_law.N d_law.ps d_law.scope := ⟨rfl, rfl, rfl, by decide +kernel, rfl, by decide +kernel, by decide +kernel⟩
theorem k_law : BindT d_law := fun _ _ _ _ _ _ us hl => match us, hl with | [_], _ => rfl
theorem c_law : cSs (infoOf glob d_law) 100 d_law.body = some b_law := by kernel_rfl
theorem o_law : DefOk glob d_law := ⟨s_law, k_law, 100, c_law⟩
def ds : List DefT := [d_rising_signals, d_is_signal, d_may_be_masked, d_are_maskable, d_is_whole, d_is_count, d_is_below, d_are_rising, d_is_said, d_is_title, d_is_who, d_is_one_of, d_is_how, d_is_exec, d_is_said_row, d_is_wait, d_is_send, d_is_masking, d_is_handle, d_is_grouping, d_is_front, d_is_going, d_is_asking, d_is_row, d_is_program, d_is_book, d__law_hand, d__law_pick, d__law_of, d__law_signals, d__law_parts, d__law_words, d__law_row, d__law_whole, d__law_word, d__law_are_signals, d__law_is_title, d__law_is_part, d__law_is_row, d__law_is_book, d__law_deep, d__law_thing, d__law_right, d_law]
theorem tab_ok : tabOk glob ds = true := by decide +kernel
theorem def_ok : ∀ (i : Nat) (d : DefT), ds[i]? = some d → DefOk glob d
  | 0, _, h => by cases h; exact o_rising_signals
  | 1, _, h => by cases h; exact o_is_signal
  | 2, _, h => by cases h; exact o_may_be_masked
  | 3, _, h => by cases h; exact o_are_maskable
  | 4, _, h => by cases h; exact o_is_whole
  | 5, _, h => by cases h; exact o_is_count
  | 6, _, h => by cases h; exact o_is_below
  | 7, _, h => by cases h; exact o_are_rising
  | 8, _, h => by cases h; exact o_is_said
  | 9, _, h => by cases h; exact o_is_title
  | 10, _, h => by cases h; exact o_is_who
  | 11, _, h => by cases h; exact o_is_one_of
  | 12, _, h => by cases h; exact o_is_how
  | 13, _, h => by cases h; exact o_is_exec
  | 14, _, h => by cases h; exact o_is_said_row
  | 15, _, h => by cases h; exact o_is_wait
  | 16, _, h => by cases h; exact o_is_send
  | 17, _, h => by cases h; exact o_is_masking
  | 18, _, h => by cases h; exact o_is_handle
  | 19, _, h => by cases h; exact o_is_grouping
  | 20, _, h => by cases h; exact o_is_front
  | 21, _, h => by cases h; exact o_is_going
  | 22, _, h => by cases h; exact o_is_asking
  | 23, _, h => by cases h; exact o_is_row
  | 24, _, h => by cases h; exact o_is_program
  | 25, _, h => by cases h; exact o_is_book
  | 26, _, h => by cases h; exact o__law_hand
  | 27, _, h => by cases h; exact o__law_pick
  | 28, _, h => by cases h; exact o__law_of
  | 29, _, h => by cases h; exact o__law_signals
  | 30, _, h => by cases h; exact o__law_parts
  | 31, _, h => by cases h; exact o__law_words
  | 32, _, h => by cases h; exact o__law_row
  | 33, _, h => by cases h; exact o__law_whole
  | 34, _, h => by cases h; exact o__law_word
  | 35, _, h => by cases h; exact o__law_are_signals
  | 36, _, h => by cases h; exact o__law_is_title
  | 37, _, h => by cases h; exact o__law_is_part
  | 38, _, h => by cases h; exact o__law_is_row
  | 39, _, h => by cases h; exact o__law_is_book
  | 40, _, h => by cases h; exact o__law_deep
  | 41, _, h => by cases h; exact o__law_thing
  | 42, _, h => by cases h; exact o__law_right
  | 43, _, h => by cases h; exact o_law
  | n + 44, _, h => by cases h
end MP

set_option maxHeartbeats 0
namespace MP
open PySem L2

/-! the program's look at a row -/
abbrev T : List FD := ds.map (·.fd)
theorem isint_of {d : D} (h : isIntT d = true) (k : isBlT d = false) : ∃ i, d = .int i := by
  cases d <;> first | (cases h; done) | (cases k; done) | exact ⟨_, rfl⟩
theorem isstr_of {d : D} (h : isStrT d = true) : ∃ i, d = .str i := by
  cases d <;> first | (cases h; done) | exact ⟨_, rfl⟩
theorem istup_of {d : D} (h : isTupT d = true) : ∃ i, d = .tup i := by
  cases d <;> first | (cases h; done) | exact ⟨_, rfl⟩
section
variable {F : Fn} {env : Env} {S : Store} {a b : E} {d : D}
theorem pv_isint (h : Pv F env S a d) (k : datB d = true) : Pv F env S (.blt .isinst [a, .con (.ty "int")]) (.bl (isIntT d)) := pv_blt (pvs_2 h pv_con) (by show bltD .isinst [deref S d, .ty "int"] = _; rw [deref_dat k]; exact ii_int k)
theorem pv_isbl (h : Pv F env S a d) (k : datB d = true) : Pv F env S (.blt .isinst [a, .con (.ty "bool")]) (.bl (isBlT d)) := pv_blt (pvs_2 h pv_con) (by show bltD .isinst [deref S d, .ty "bool"] = _; rw [deref_dat k]; exact ii_bool k)
theorem pv_isstr (h : Pv F env S a d) (k : datB d = true) : Pv F env S (.blt .isinst [a, .con (.ty "str")]) (.bl (isStrT d)) := pv_blt (pvs_2 h pv_con) (by show bltD .isinst [deref S d, .ty "str"] = _; rw [deref_dat k]; exact ii_str k)
theorem pv_istup (h : Pv F env S a d) (k : datB d = true) : Pv F env S (.blt .isinst [a, .con (.ty "tuple")]) (.bl (isTupT d)) := pv_blt (pvs_2 h pv_con) (by show bltD .isinst [deref S d, .ty "tuple"] = _; rw [deref_dat k]; exact ii_tup k)
/-- a text among texts -/
def strsB : List D → Bool
  | [] => true
  | .str _ :: r => strsB r
  | _ => false
theorem flat_strs : ∀ {xs : List D}, strsB xs = true → xs.all flat = true
  | [], _ => rfl
  | x :: xs, h => by
    cases x <;> simp only [strsB] at h <;> try (cases h; done)
    rw [List.all_cons, flat_strs h]; rfl
theorem in_strs_t {x : Str} {xs : List D} (h : strsB xs = true) : inD (.str x) (.tup xs) = some (inF (.str x) xs) := by
  simp only [inD, flat_strs h, Bool.and_true]; rfl
theorem in_strs_l {x : Str} {xs : List D} (h : strsB xs = true) : inD (.str x) (.lst xs) = some (inF (.str x) xs) := by
  simp only [inD, flat_strs h, Bool.and_true]; rfl
end
theorem cmp_inn {a b : D} : cmpD .inn a b = inD a b := by simp only [cmpD]
theorem cmp_notin {a b : D} : cmpD .notin a b = (inD a b).map (!·) := by simp only [cmpD]
/-- a text, one of these -/
def oneOf (xs : List D) : D → Bool
  | .str x => inF (.str x) xs
  | _ => false
def isCount : D → Bool
  | .int i => decide (0 ≤ i)
  | _ => false
def isBelow (k : Int) : D → Bool
  | .int i => decide (0 ≤ i) && decide (i < k)
  | _ => false
abbrev sigs9 : List D := [.str "kill", .str "halt", .str "on", .str "hang", .str "quit", .str "call", .str "kin", .str "rest", .str "reads"]
abbrev sigs7 : List D := [.str "on", .str "hang", .str "quit", .str "call", .str "kin", .str "rest", .str "reads"]
abbrev sure2 : List D := [.str "kill", .str "halt"]
section
variable {S : Store} {d : D}
theorem w_is_whole (n : Nat) (h : datB d = true) : callAt T (n + 1) 4 [d] S = .ok (.bl (isIntT d && !isBlT d)) S := by
  cases d <;> first | (simp only [datB] at h; cases h; done) | kernel_rfl
theorem w_is_count (n : Nat) (h : datB d = true) : callAt T (n + 2) 5 [d] S = .ok (.bl (isCount d)) S := by
  cases d <;> first | (simp only [datB] at h; cases h; done) | kernel_rfl
theorem w_is_below (n : Nat) (h : datB d = true) (k : Int) : callAt T (n + 3) 6 [d, .int k] S = .ok (.bl (isBelow k d)) S := by
  have e : isBelow k d = (isCount d && match d with | .int i => decide (i < k) | _ => false) := by cases d <;> rfl
  rw [e]
  refine call_pb (fd := ⟨2, 2, b_is_below⟩) rfl rfl (pb_ret (pv_and (pv_call (pvs_1 (pv_var rfl)) (w_is_count n h)) fun hc => ?_))
  cases d <;> first | (cases hc; done) | skip
  exact pv_cmp (pv_var rfl) (pv_var rfl) rfl
theorem w_is_said (n : Nat) (h : datB d = true) : callAt T (n + 4) 8 [d] S = .ok (.bl (isBelow 100 d)) S :=
  call_pb (fd := ⟨1, 1, b_is_said⟩) rfl rfl (pb_ret (pv_call (pvs_2 (pv_var rfl) pv_con) (w_is_below n h 100)))
theorem w_is_signal (n : Nat) (h : datB d = true) : callAt T (n + 1) 1 [d] S = .ok (.bl (oneOf sigs9 d)) S := by
  have e : oneOf sigs9 d = (isStrT d && oneOf sigs9 d) := by cases d <;> rfl
  rw [e]
  refine call_pb (fd := ⟨1, 1, b_is_signal⟩) rfl rfl (pb_ret (pv_and (pv_isstr (pv_var rfl) h) fun hc => ?_))
  obtain ⟨x, rfl⟩ := isstr_of hc
  exact pv_cmp (pv_var rfl) pv_con (by rw [cmp_inn]; exact in_strs_t rfl)
def masky (d : D) : Bool := oneOf sigs9 d && !oneOf sure2 d
theorem w_may_be_masked (n : Nat) (h : datB d = true) : callAt T (n + 2) 2 [d] S = .ok (.bl (masky d)) S := by
  unfold masky
  refine call_pb (fd := ⟨1, 1, b_may_be_masked⟩) rfl rfl (pb_ret (pv_and (pv_call (pvs_1 (pv_var rfl)) (w_is_signal n h)) fun hc => ?_))
  cases d <;> first | (cases hc; done) | skip
  refine pv_cmp (pv_var rfl) pv_con ?_
  rw [cmp_notin]
  show (inD (.str _) (.tup sure2)).map _ = _
  rw [in_strs_t rfl]
  rfl
theorem w_is_one_of (n : Nat) (h : datB d = true) {xs : List D} (hx : strsB xs = true) : callAt T (n + 1) 11 [d, .tup xs] S = .ok (.bl (oneOf xs d)) S := by
  have e : oneOf xs d = (isStrT d && oneOf xs d) := by cases d <;> rfl
  rw [e]
  refine call_pb (fd := ⟨2, 2, b_is_one_of⟩) rfl rfl (pb_ret (pv_and (pv_isstr (pv_var rfl) h) fun hc => ?_))
  obtain ⟨x, rfl⟩ := isstr_of hc
  exact pv_cmp (pv_var rfl) (pv_var rfl) (by rw [cmp_inn]; exact in_strs_t hx)
def isWho (d : D) : Bool := isCount d || oneOf [.str "self"] d
end

end MP

set_option maxHeartbeats 0
namespace MP
open PySem L2

section
variable {S : Store} {d : D}
theorem w_is_who (n : Nat) (h : datB d = true) : callAt T (n + 3) 10 [d] S = .ok (.bl (isWho d)) S := by
  unfold isWho
  have e : oneOf [.str "self"] d = (isStrT d && oneOf [.str "self"] d) := by cases d <;> rfl
  rw [e]
  refine call_pb (fd := ⟨1, 1, b_is_who⟩) rfl rfl (pb_ret (pv_or (pv_call (pvs_1 (pv_var rfl)) (w_is_count n h)) fun _ => pv_and (pv_isstr (pv_var rfl) h) fun hc => ?_))
  obtain ⟨x, rfl⟩ := isstr_of hc
  refine pv_cmp (pv_var rfl) pv_con ?_
  show cmpD .eq (.str x) (.str "self") = _
  simp only [cmpD]
  show some (x == ("self" : Str)) = some (((("self" : Str) == x)) || false)
  rw [Bool.or_false, Bool.beq_comm]
theorem all_map {t : D → Bool} : ∀ xs : List D, bltD .all [.lst (xs.map fun z => .bl (t z))] = some (.bl (xs.all t)) := by
  intro xs
  have h : ∀ xs : List D, (xs.map fun z => D.bl (t z)).mapM blOf = some (xs.map t) := by
    intro xs
    induction xs with
    | nil => rfl
    | cons x xs ih => rw [List.map_cons, List.mapM_cons, ih]; rfl
  simp only [bltD, h, Option.map_some, List.all_map]
  rfl
/-! titles -/
abbrev letters : Str := "abcdefghijklmnopqrstuvwxyz"
def inLet : D → Bool
  | .str s => (match s.cps.toList with | [c] => decide (c ∈ letters.cps.toList) | _ => false)
  | _ => false
def titleB : D → Bool
  | .str z => (decide (1 ≤ z.length) && decide (z.length ≤ 8)) && (signs z).all inLet
  | _ => false
/-- texts and rows that are not too long -/
def shortB : D → Bool
  | .str z => decide (z.length ≤ 9000000)
  | .tup xs => decide (xs.length ≤ 1000)
  | .lst xs => decide (xs.length ≤ 1000)
  | _ => true
theorem mem_signs {z : Str} {d : D} (h : d ∈ signs z) : ∃ c, d = .str ⟨#[c]⟩ ∧ c ∈ z.cps.toList := by
  unfold signs at h
  obtain ⟨c, h1, rfl⟩ := List.mem_map.mp h
  exact ⟨c, rfl, h1⟩
theorem signs_len (z : Str) : (signs z).length = z.length := by unfold signs; simp [Str.length]
theorem w_is_title (n : Nat) (h : datB d = true) (hs : shortB d = true) : callAt T (n + 1) 9 [d] S = .ok (.bl (titleB d)) S := by
  have e : titleB d = (isStrT d && match d with | .str z => (decide (1 ≤ z.length) && decide (z.length ≤ 8)) && (signs z).all inLet | _ => false) := by cases d <;> rfl
  rw [e]
  refine call_pb (fd := ⟨1, 2, b_is_title⟩) rfl rfl (pb_ret (pv_and (pv_isstr (pv_var rfl) h) fun hc => ?_))
  obtain ⟨z, rfl⟩ := isstr_of hc
  have hl : z.length ≤ 9000000 := of_decide_eq_true hs
  have hz : z.length ≤ 10000000 := by omega
  refine pv_and ?_ fun hc2 => ?_
  · refine pv_chain (x := decide (1 ≤ z.length)) (y := decide (z.length ≤ 8)) pv_con (pv_blt (d := .int z.length) (pvs_1 (pv_var rfl)) ?_) pv_con ?_ ?_
    · show bltD .len [.str z] = _
      simp only [bltD, if_pos hz]
    · show cmpD .le (.int 1) (.int (z.length : Int)) = _
      simp only [cmpD]
      exact congrArg some (decide_eq_decide.mpr (by omega))
    · show cmpD .le (.int (z.length : Int)) (.int 8) = _
      simp only [cmpD]
      exact congrArg some (decide_eq_decide.mpr (by omega))
  · refine pv_blt (pvs_1 (pv_comp (g := fun z => .bl (inLet z)) (pvs_1 (pv_var rfl)) (show itD .seq [.str z] = some (signs z) from rfl) (by rw [signs_len]; rw [Bool.and_eq_true, decide_eq_true_iff, decide_eq_true_iff] at hc2; omega) fun x hx => ?_)) (all_map _)
    obtain ⟨c, rfl, _⟩ := mem_signs hx
    exact ⟨[some (.str z), some (.str ⟨#[c]⟩)], rfl, pv_cmp (pv_var rfl) pv_con (by rw [cmp_inn]; rfl)⟩
/-! masks -/
def maskB : D → Bool
  | .tup xs => xs.all masky && eqsB xs (sigs9.filter fun s => inF s xs)
  | _ => false
theorem masky_str {d : D} (h : masky d = true) : isStrT d = true := by cases d <;> first | rfl | cases h
theorem strs_of {xs : List D} (h : xs.all masky = true) : strsB xs = true := by
  induction xs with
  | nil => rfl
  | cons x xs ih =>
    rw [List.all_cons, Bool.and_eq_true] at h
    obtain ⟨s, rfl⟩ := isstr_of (masky_str h.1)
    exact ih h.2
theorem w_rising (n : Nat) {xs : List D} (hx : strsB xs = true) : callAt T (n + 1) 0 [.tup xs] S = .ok (.tup (sigs9.filter fun s => inF s xs)) S := by
  refine call_pb (fd := ⟨1, 2, b_rising_signals⟩) rfl rfl (pb_ret (pv_blt (pvs_1 (pv_compF (g := fun z => z) (t := fun s => inF s xs) (pvs_1 pv_con) (show itD .seq [.tup sigs9] = some sigs9 from rfl) (by decide) fun z hz => ?_)) ?_))
  · refine ⟨[some (.tup xs), some z], rfl, pv_cmp (pv_var rfl) (pv_var rfl) ?_, fun _ => pv_var rfl⟩
    have hs : isStrT z = true := by
      simp only [sigs9, List.mem_cons, List.not_mem_nil, or_false] at hz
      rcases hz with rfl | rfl | rfl | rfl | rfl | rfl | rfl | rfl | rfl <;> rfl
    obtain ⟨s, rfl⟩ := isstr_of hs
    rw [cmp_inn]
    exact in_strs_t hx
  · show bltD .tuple [.lst _] = _
    rw [List.map_id']
    rfl
theorem deps_strs : ∀ {xs : List D}, strsB xs = true → deps xs = 0
  | [], _ => rfl
  | x :: xs, h => by
    cases x <;> simp only [strsB] at h <;> try (cases h; done)
    simp only [deps, dep, deps_strs h]; rfl
theorem strs_filter {p : D → Bool} : ∀ {xs : List D}, strsB xs = true → strsB (xs.filter p) = true
  | [], _ => rfl
  | x :: xs, h => by
    cases x <;> simp only [strsB] at h <;> try (cases h; done)
    rename_i s
    by_cases q : p (.str s) = true
    · rw [List.filter_cons_of_pos q]; exact strs_filter h
    · rw [List.filter_cons_of_neg q]; exact strs_filter h
theorem dats_filter {p : D → Bool} : ∀ {xs : List D}, dats0B xs = true → dats0B (xs.filter p) = true
  | [], _ => rfl
  | x :: xs, h => by
    simp only [dats0B, Bool.and_eq_true] at h
    by_cases q : p x = true
    · rw [List.filter_cons_of_pos q]; simp only [dats0B, h.1, dats_filter h.2]; rfl
    · rw [List.filter_cons_of_neg q]; exact dats_filter h.2
theorem dat0_masky : ∀ {xs : List D}, xs.all masky = true → dats0B xs = true
  | [], _ => rfl
  | x :: xs, h => by
    rw [List.all_cons, Bool.and_eq_true] at h
    obtain ⟨s, rfl⟩ := isstr_of (masky_str h.1)
    have h1 : (inF (.str s) sigs9 && !oneOf sure2 (.str s)) = true := h.1
    rw [Bool.and_eq_true] at h1
    obtain ⟨y, hy, e⟩ := List.any_eq_true.mp h1.1
    have hs : PyData.strOk s = true := by
      simp only [sigs9, List.mem_cons, List.not_mem_nil, or_false] at hy
      rcases hy with rfl | rfl | rfl | rfl | rfl | rfl | rfl | rfl | rfl
      all_goals
        rw [← eq_of_beq (show (_ == s) = true from e)]
        kernel_rfl
    simp only [dats0B, dat0B, hs, dat0_masky h.2]; rfl
theorem w_are_maskable (n : Nat) (h : datB d = true) (hs : shortB d = true) : callAt T (n + 3) 3 [d] S = .ok (.bl (maskB d)) S := by
  refine call_pb (fd := ⟨1, 2, b_are_maskable⟩) rfl rfl ?_
  by_cases ht : ∃ xs, d = .tup xs
  · obtain ⟨xs, rfl⟩ := ht
    have hl : xs.length ≤ 1000 := of_decide_eq_true hs
    have hd : datsB xs = true := by simpa only [datB] using h
    refine pb_if (x := !xs.all masky) (?_ : Pv _ _ _ _ (.bl (false || !xs.all masky))) (fun z => ?_) fun z => ?_
    · refine pv_or (pv_not (pv_istup (pv_var rfl) h)) fun _ => pv_not (pv_blt (pvs_1 (pv_comp (g := fun z => .bl (masky z)) (pvs_1 (pv_var rfl)) (show itD .seq [.tup xs] = some xs from rfl) (by omega) fun x hx => ?_)) (all_map _))
      exact ⟨[some (.tup xs), some x], rfl, pv_call (pvs_1 (pv_var rfl)) (w_may_be_masked n (datsB_mem hd hx))⟩
    · have e : maskB (.tup xs) = false := by
        show (xs.all masky && _) = false
        rw [show xs.all masky = false by simpa using z]; rfl
      rw [e]
      exact pb_ret pv_con
    · have z' : xs.all masky = true := by simpa using z
      have hst := strs_of z'
      have e : maskB (.tup xs) = eqB (.tup xs) (.tup (sigs9.filter fun s => inF s xs)) := by
        show (xs.all masky && _) = _
        rw [z']; rfl
      rw [e]
      refine pb_ret (pv_cmp (pv_var rfl) (pv_call (pvs_1 (pv_var rfl)) (w_rising (n + 1) hst)) ?_)
      show cmpD .eq (.tup xs) (.tup _) = _
      simp only [cmpD]
      refine eqD_dat (by simp only [dat0B]; exact dat0_masky z') ?_ ?_ ?_
      · simp only [dat0B]; exact dats_filter (by kernel_rfl)
      · simp only [dep, deps_strs hst]; decide
      · simp only [dep]
        rw [deps_strs (strs_filter rfl)]; decide
  · have e : maskB d = false := by cases d <;> first | rfl | exact absurd ⟨_, rfl⟩ ht
    have e2 : isTupT d = false := by cases d <;> first | rfl | exact absurd ⟨_, rfl⟩ ht
    rw [e]
    have q := pv_or (F := callAt T (n + 2)) (y := true) (b := .not (.blt .all [.comp false (.name 1) .seq [.var 0] [] (.call 2 [.var 1])])) (pv_not (pv_istup (env := startE [d] 2) (S := S) (pv_var (i := 0) rfl) h)) (fun z => by rw [e2] at z; cases z)
    rw [e2] at q
    exact pb_if q (fun _ => pb_ret pv_con) fun z => by cases z
/-! what is done at a signal -/
def howB (k : Int) : D → Bool
  | .tup [a, b] => isBelow k a && maskB b
  | .tup _ => false
  | d => oneOf [.str "plain", .str "ignore"] d
theorem atI_1' {α : Type} (a b : α) : atI [a, b] 1 = some b := atI_1 a b []
theorem w_is_how (n : Nat) (h : datB d = true) (hs : ∀ a b, d = .tup [a, b] → shortB b = true) (k : Int) : callAt T (n + 4) 12 [d, .int k] S = .ok (.bl (howB k d)) S := by
  refine call_pb (fd := ⟨2, 2, b_is_how⟩) rfl rfl ?_
  by_cases ht : ∃ xs, d = .tup xs
  · obtain ⟨xs, rfl⟩ := ht
    refine pb_if (pv_not (pv_istup (pv_var rfl) h)) (fun z => by cases z) fun _ => ?_
    have hlen : Pv (callAt T (n + 3)) (startE [.tup xs, .int k] 2) S (.cmp .eq (.blt .len [.var 0]) (.con (.int 2))) (.bl ((xs.length : Int) == 2)) := pv_cmp (pv_blt (d := .int xs.length) (pvs_1 (pv_var rfl)) rfl) pv_con (by show cmpD .eq (.int _) (.int 2) = _; simp only [cmpD]; exact eqD_int _ _)
    by_cases h2 : ∃ a b, xs = [a, b]
    · obtain ⟨a, b, rfl⟩ := h2
      simp only [datB, datsB, Bool.and_eq_true] at h
      have i0 : Pv (callAt T (n + 3)) (startE [.tup [a, b], .int k] 2) S (.ix (.var 0) (.con (.int 0))) a := pv_ix (pv_var (d := .tup [a, b]) rfl) (pv_con (d := .int 0)) (by show ixD (.tup [a, b]) (.int 0) = _; simp only [ixD, atI_0])
      have i1 : Pv (callAt T (n + 3)) (startE [.tup [a, b], .int k] 2) S (.ix (.var 0) (.con (.int 1))) b := pv_ix (pv_var (d := .tup [a, b]) rfl) (pv_con (d := .int 1)) (by show ixD (.tup [a, b]) (.int 1) = _; simp only [ixD, atI_1])
      have q := pv_and hlen fun _ => pv_and (pv_call (f := 6) (pvs_2 i0 (pv_var (i := 1) rfl)) (w_is_below n h.1 k)) fun _ => pv_call (f := 3) (pvs_1 i1) (w_are_maskable n h.2.1 (hs a b rfl))
      exact pb_ret q
    · have e : howB k (.tup xs) = false := by
        match xs, h2 with
        | [], _ => rfl
        | [_], _ => rfl
        | [a, b], h2 => exact absurd ⟨a, b, rfl⟩ h2
        | _ :: _ :: _ :: _, _ => rfl
      have e2 : ((xs.length : Int) == 2) = false := by
        match xs, h2 with
        | [], _ => rfl
        | [_], _ => rfl
        | [a, b], h2 => exact absurd ⟨a, b, rfl⟩ h2
        | _ :: _ :: _ :: r, _ => exact beq_eq_false_iff_ne.mpr (by simp only [List.length_cons]; omega)
      rw [e]
      have q := pv_and (y := true) (b := .and (.call 6 [.ix (.var 0) (.con (.int 0)), .var 1]) (.call 3 [.ix (.var 0) (.con (.int 1))])) hlen (fun z => by rw [e2] at z; cases z)
      rw [e2] at q
      exact pb_ret q
  · have e2 : isTupT d = false := by cases d <;> first | rfl | exact absurd ⟨_, rfl⟩ ht
    have e : howB k d = oneOf [.str "plain", .str "ignore"] d := by cases d <;> first | rfl | exact absurd ⟨_, rfl⟩ ht
    have q := pv_not (F := callAt T (n + 3)) (pv_istup (env := startE [d, .int k] 2) (S := S) (pv_var (i := 0) rfl) h)
    rw [e2] at q
    rw [e]
    exact pb_if q (fun _ => pb_ret (pv_callk (zs := [.tup [.str "plain", .str "ignore"]]) (pvs_1 (pv_var rfl)) (pvs_1 (pv_tup (pvs_2 pv_con pv_con) (by show 2 ≤ 100000; decide))) (w_is_one_of (n + 2) h rfl))) fun z => by cases z
end

end MP

set_option maxHeartbeats 0
namespace MP
open PySem L2

/-! data of small size -/
mutual
def okB : D → Bool
  | .non => true | .bl _ => true | .emp => true
  | .int i => decide (-1000000000000 < i) && decide (i < 1000000000000)
  | .str z => decide (z.length ≤ 9000000)
  | .tup xs => decide (xs.length ≤ 1000) && oksB xs
  | .lst xs => decide (xs.length ≤ 1000) && oksB xs
  | .dct _ xs => oksB xs
  | _ => false
def oksB : List D → Bool
  | [] => true
  | x :: xs => okB x && oksB xs
end
mutual
theorem ok_dat : ∀ (d : D), okB d = true → datB d = true
  | .non, _ => rfl
  | .bl _, _ => rfl
  | .int _, _ => rfl
  | .str _, _ => rfl
  | .tup xs, h => by simp only [okB, Bool.and_eq_true] at h; simp only [datB]; exact oks_dat xs h.2
  | .lst xs, h => by simp only [okB, Bool.and_eq_true] at h; simp only [datB]; exact oks_dat xs h.2
  | .scr _, h => by simp only [okB] at h; cases h
  | .ref _, h => by simp only [okB] at h; cases h
  | .fn _, h => by simp only [okB] at h; cases h
  | .ty _, h => by simp only [okB] at h; cases h
  | .dct _ xs, h => by simp only [okB] at h; simp only [datB]; exact oks_dat xs h
  | .emp, _ => rfl
theorem oks_dat : ∀ (ds : List D), oksB ds = true → datsB ds = true
  | [], _ => rfl
  | x :: xs, h => by simp only [oksB, Bool.and_eq_true] at h; simp only [datsB, ok_dat x h.1, oks_dat xs h.2]; rfl
end
theorem ok_short {d : D} (h : okB d = true) : shortB d = true := by
  cases d <;> simp only [okB, Bool.and_eq_true] at h <;> first | rfl | exact h.2 | exact h.1 | exact h | (cases h; done)
theorem oks_mem {xs : List D} (h : oksB xs = true) {d : D} (m : d ∈ xs) : okB d = true := by
  induction xs with
  | nil => cases m
  | cons x xs ih =>
    simp only [oksB, Bool.and_eq_true] at h
    rcases List.mem_cons.mp m with rfl | m
    · exact h.1
    · exact ih h.2 m
theorem oks_one {a : D} (h : oksB [a] = true) : okB a = true := oks_mem h List.mem_cons_self
theorem oks_two {a b : D} (h : oksB [a, b] = true) : okB a = true ∧ okB b = true := ⟨oks_mem h List.mem_cons_self, oks_mem h (List.mem_cons_of_mem _ List.mem_cons_self)⟩
theorem ok_tup {xs : List D} (h : okB (.tup xs) = true) : xs.length ≤ 1000 ∧ oksB xs = true := by
  simp only [okB, Bool.and_eq_true, decide_eq_true_iff] at h
  exact h
/-! the forms -/
def noneB : D → Bool
  | .non => true
  | _ => false
section
variable {S : Store} {a b : D} {k : Int}
theorem ix0 {F : Fn} {S : Store} {xs : List D} {r : List (Option D)} : Pv F (some (.lst (a :: xs)) :: r) S (.ix (.var 0) (.con (.int 0))) a := pv_ix (pv_var (d := .lst (a :: xs)) rfl) (pv_con (d := .int 0)) (by show ixD (.lst (a :: xs)) (.int 0) = _; simp only [ixD, atI_0])
theorem ix1 {F : Fn} {S : Store} {xs : List D} {r : List (Option D)} : Pv F (some (.lst (a :: b :: xs)) :: r) S (.ix (.var 0) (.con (.int 1))) b := pv_ix (pv_var (d := .lst (a :: b :: xs)) rfl) (pv_con (d := .int 1)) (by show ixD (.lst (a :: b :: xs)) (.int 1) = _; simp only [ixD, atI_1])
theorem w_is_exec (n : Nat) (ha : okB a = true) : callAt T (n + 5) 13 [.lst [a], .int k] S = .ok (.bl (titleB a)) S :=
  call_pb (fd := ⟨2, 2, b_is_exec⟩) rfl rfl (pb_ret (pv_call (pvs_1 ix0) (w_is_title (n + 3) (ok_dat _ ha) (ok_short ha))))
theorem w_is_said_row (n : Nat) (ha : okB a = true) : callAt T (n + 5) 14 [.lst [a], .int k] S = .ok (.bl (isBelow 100 a)) S :=
  call_pb (fd := ⟨2, 2, b_is_said_row⟩) rfl rfl (pb_ret (pv_call (pvs_1 ix0) (w_is_said n (ok_dat _ ha))))
theorem is_none {d : D} (h : datB d = true) : cmpD .is d .non = some (noneB d) := by
  cases d <;> first | (simp only [datB] at h; cases h; done) | rfl
theorem w_is_wait (n : Nat) (ha : okB a = true) (hb : okB b = true) : callAt T (n + 5) 15 [.lst [a, b], .int k] S = .ok (.bl ((noneB a || isCount a) && isBlT b)) S :=
  call_pb (fd := ⟨2, 2, b_is_wait⟩) rfl rfl (pb_ret (pv_and (pv_or (pv_cmp ix0 pv_con (by rw [deref_dat (ok_dat _ ha)]; exact is_none (ok_dat _ ha))) fun _ => pv_call (pvs_1 ix0) (w_is_count (n + 2) (ok_dat _ ha))) fun _ => pv_isbl ix1 (ok_dat _ hb)))
theorem w_is_send (n : Nat) (ha : okB a = true) (hb : okB b = true) : callAt T (n + 5) 16 [.lst [a, b], .int k] S = .ok (.bl (oneOf sigs9 a && (isCount b || oneOf [.str "self", .str "parent", .str "group"] b))) S :=
  call_pb (fd := ⟨2, 2, b_is_send⟩) rfl rfl (pb_ret (pv_and (pv_call (pvs_1 ix0) (w_is_signal (n + 3) (ok_dat _ ha))) fun _ => pv_or (pv_call (pvs_1 ix1) (w_is_count (n + 2) (ok_dat _ hb))) fun _ =>
    pv_callk (zs := [.tup [.str "self", .str "parent", .str "group"]]) (pvs_1 ix1) (pvs_1 (pv_tup (pvs_cons pv_con (pvs_2 pv_con pv_con)) (by show 3 ≤ 100000; decide))) (w_is_one_of (n + 3) (ok_dat _ hb) rfl)))
theorem w_is_masking (n : Nat) (ha : okB a = true) : callAt T (n + 5) 17 [.lst [a], .int k] S = .ok (.bl (maskB a)) S :=
  call_pb (fd := ⟨2, 2, b_is_masking⟩) rfl rfl (pb_ret (pv_call (pvs_1 ix0) (w_are_maskable (n + 1) (ok_dat _ ha) (ok_short ha))))
theorem w_is_handle (n : Nat) (ha : okB a = true) (hb : okB b = true) : callAt T (n + 5) 18 [.lst [a, b], .int k] S = .ok (.bl (masky a && howB k b)) S :=
  call_pb (fd := ⟨2, 2, b_is_handle⟩) rfl rfl (pb_ret (pv_and (pv_call (pvs_1 ix0) (w_may_be_masked (n + 2) (ok_dat _ ha))) fun _ => pv_call (pvs_2 ix1 (pv_var rfl)) (w_is_how n (ok_dat _ hb) (fun x y e => by subst e; exact ok_short (oks_two (ok_tup hb).2).2) k)))
theorem w_is_grouping (n : Nat) (ha : okB a = true) (hb : okB b = true) : callAt T (n + 5) 19 [.lst [a, b], .int k] S = .ok (.bl (isWho a && oneOf [.str "new", .str "mine"] b)) S :=
  call_pb (fd := ⟨2, 2, b_is_grouping⟩) rfl rfl (pb_ret (pv_and (pv_call (pvs_1 ix0) (w_is_who (n + 1) (ok_dat _ ha))) fun _ =>
    pv_callk (zs := [.tup [.str "new", .str "mine"]]) (pvs_1 ix1) (pvs_1 (pv_tup (pvs_2 pv_con pv_con) (by show 2 ≤ 100000; decide))) (w_is_one_of (n + 3) (ok_dat _ hb) rfl)))
theorem w_is_front (n : Nat) (ha : okB a = true) : callAt T (n + 5) 20 [.lst [a], .int k] S = .ok (.bl (isWho a)) S :=
  call_pb (fd := ⟨2, 2, b_is_front⟩) rfl rfl (pb_ret (pv_call (pvs_1 ix0) (w_is_who (n + 1) (ok_dat _ ha))))
theorem w_is_going (n : Nat) (ha : okB a = true) : callAt T (n + 5) 21 [.lst [a], .int k] S = .ok (.bl (isBelow k a)) S :=
  call_pb (fd := ⟨2, 2, b_is_going⟩) rfl rfl (pb_ret (pv_call (pvs_2 ix0 (pv_var rfl)) (w_is_below (n + 1) (ok_dat _ ha) k)))
theorem w_is_asking (n : Nat) (ha : okB a = true) (hb : okB b = true) : callAt T (n + 5) 22 [.lst [a, b], .int k] S = .ok (.bl ((isIntT a && !isBlT a) && isBelow k b)) S :=
  call_pb (fd := ⟨2, 2, b_is_asking⟩) rfl rfl (pb_ret (pv_and (pv_call (pvs_1 ix0) (w_is_whole (n + 3) (ok_dat _ ha))) fun _ => pv_call (pvs_2 ix1 (pv_var rfl)) (w_is_below (n + 1) (ok_dat _ hb) k)))
end
/-! a row -/
def one (f : D → Bool) : List D → Bool
  | [a] => f a
  | _ => false
def two (f : D → D → Bool) : List D → Bool
  | [a, b] => f a b
  | _ => false
abbrev bare6 : List D := [.str "fork", .str "pause", .str "read", .str "return", .str "session", .str "taker"]
def bareB (w : Str) : Bool := inF (.str w) bare6
def formB (k : Int) (w : Str) (ps : List D) : Bool :=
  if w = ("exec" : Str) then one titleB ps else
  if w = ("end" : Str) then one (isBelow 100) ps else
  if w = ("wait" : Str) then two (fun a b => (noneB a || isCount a) && isBlT b) ps else
  if w = ("send" : Str) then two (fun a b => oneOf sigs9 a && (isCount b || oneOf [.str "self", .str "parent", .str "group"] b)) ps else
  if w = ("mask" : Str) then one maskB ps else
  if w = ("unmask" : Str) then one maskB ps else
  if w = ("handle" : Str) then two (fun a b => masky a && howB k b) ps else
  if w = ("group" : Str) then two (fun a b => isWho a && oneOf [.str "new", .str "mine"] b) ps else
  if w = ("front" : Str) then one isWho ps else
  if w = ("say" : Str) then one (isBelow 100) ps else
  if w = ("goto" : Str) then one (isBelow k) ps else
  if w = ("if" : Str) then two (fun a b => (isIntT a && !isBlT a) && isBelow k b) ps else false
def rowB (k : Int) : D → Bool
  | .tup (.str w :: ps) => if bareB w = true then ps.isEmpty else formB k w ps
  | _ => false
abbrev forms : List (Str × D) := [("exec", .tup [.int 1, .fn 13]), ("end", .tup [.int 1, .fn 14]), ("wait", .tup [.int 2, .fn 15]), ("send", .tup [.int 2, .fn 16]), ("mask", .tup [.int 1, .fn 17]), ("unmask", .tup [.int 1, .fn 17]), ("handle", .tup [.int 2, .fn 18]), ("group", .tup [.int 2, .fn 19]), ("front", .tup [.int 1, .fn 20]), ("say", .tup [.int 1, .fn 14]), ("goto", .tup [.int 1, .fn 21]), ("if", .tup [.int 2, .fn 22])]
section
variable {S : Store} {k : Int} {w : Str} {ps : List D}
theorem len_eq {F : Fn} {env : Env} {xs : List D} {e : E} {d : D} {m : Int} (h : Pv F env S e d) (hd : bltD .len [deref S d] = some (.int xs.length)) : Pv F env S (.cmp .eq (.blt .len [e]) (.con (.int m))) (.bl ((xs.length : Int) == m)) :=
  pv_cmp (pv_blt (d := .int xs.length) (pvs_1 h) hd) pv_con (by show cmpD .eq (.int _) (.int m) = _; simp only [cmpD]; exact eqD_int _ _)
/-- a tuple whose first is a text: what follows the first look -/
theorem row_head (n : Nat) (hd : okB (.tup (.str w :: ps)) = true) {d : D}
    (h : Pb (callAt T (n + 5)) [some (.tup (.str w :: ps)), some (.int k), some (.str w), some (.lst ps), none, none] S (b_is_row.drop 2) d) : callAt T (n + 6) 23 [.tup (.str w :: ps), .int k] S = .ok d S := by
  refine call_pb (fd := ⟨2, 6, b_is_row⟩) rfl rfl ?_
  have hdat := ok_dat _ hd
  have hw : datB (.str w) = true := datsB_mem (by simpa only [datB] using hdat) List.mem_cons_self
  refine pb_if (x := false) ?_ (fun z => by cases z) fun _ => ?_
  · have i0 : Pv (callAt T (n + 5)) (startE [.tup (.str w :: ps), .int k] 6) S (.ix (.var 0) (.con (.int 0))) (.str w) := pv_ix (pv_var (d := .tup (.str w :: ps)) rfl) (pv_con (d := .int 0)) (by show ixD (.tup (.str w :: ps)) (.int 0) = _; simp only [ixD, atI_0])
    have l0 : ((((D.str w :: ps).length : Int)) == 0) = false := beq_eq_false_iff_ne.mpr (by simp only [List.length_cons]; omega)
    have q := pv_or (pv_not (pv_istup (F := callAt T (n + 5)) (S := S) (env := startE [.tup (.str w :: ps), .int k] 6) (pv_var (i := 0) rfl) hdat)) fun _ => pv_or (len_eq (xs := .str w :: ps) (m := 0) (pv_var (i := 0) (d := .tup (.str w :: ps)) rfl) rfl) fun _ => pv_not (pv_isstr i0 hw)
    rw [l0] at q
    exact q
  · refine pb_asg (env' := [some (.tup (.str w :: ps)), some (.int k), some (.str w), some (.lst ps), none, none]) (pv_var (d := .tup (.str w :: ps)) rfl) ?_ h
    have e : starD 1 2 (.str w :: ps) = [.str w, .lst ps] := by
      unfold starD
      show [D.str w] ++ [D.lst (ps.take (ps.length + 1 - 1 - (2 - 1 - 1)))] ++ (ps.drop (ps.length + 1 - 1 - (2 - 1 - 1))) = _
      rw [show ps.length + 1 - 1 - (2 - 1 - 1) = ps.length by omega, List.take_length, List.drop_length]
      rfl
    show (if 1 < 2 ∧ 2 ≤ (D.str w :: ps).length + 1 then bindPs [.name 2, .name 3] (starD 1 2 (.str w :: ps)) (startE [.tup (.str w :: ps), .int k] 6) else none) = _
    rw [if_pos ⟨by decide, by simp only [List.length_cons]; omega⟩, e]
    rfl
theorem row_bare (n : Nat) (hd : okB (.tup (.str w :: ps)) = true) (hw : bareB w = true) : callAt T (n + 6) 23 [.tup (.str w :: ps), .int k] S = .ok (.bl ps.isEmpty) S := by
  refine row_head n hd (pb_if (x := true) ?_ (fun _ => ?_) fun z => by cases z)
  · rw [← hw]
    exact pv_cmp (pv_var rfl) pv_con (by rw [cmp_inn]; exact in_strs_t rfl)
  · have e : ps.isEmpty = ((ps.length : Int) == 0) := by
      cases ps with
      | nil => rfl
      | cons x xs => exact (beq_eq_false_iff_ne.mpr (by simp only [List.length_cons]; omega)).symm
    rw [e]
    exact pb_ret (len_eq (xs := ps) (pv_var (d := .lst ps) rfl) rfl)
theorem row_form (n : Nat) (hd : okB (.tup (.str w :: ps)) = true) (hw : bareB w = false) {m f : Nat} {r : Bool} (hl : lookS w forms = some (.tup [.int (m : Nat), .fn f])) (hf : f ∈ glob.fv)
    (hc : ps.length = m → callAt T (n + 5) f [.lst ps, .int k] S = .ok (.bl r) S) : callAt T (n + 6) 23 [.tup (.str w :: ps), .int k] S = .ok (.bl (decide (ps.length = m) && r)) S := by
  refine row_head n hd (pb_if (x := false) ?_ (fun z => by cases z) fun _ => ?_)
  · rw [← hw]
    exact pv_cmp (pv_var rfl) pv_con (by rw [cmp_inn]; exact in_strs_t rfl)
  · refine pb_if (x := false) ?_ (fun z => by cases z) fun _ => ?_
    · have q := pv_cin (F := callAt T (n + 5)) (S := S) (ng := true) (kvs := forms) (pv_var (i := 2) (d := .str w) (env := [some (.tup (.str w :: ps)), some (.int k), some (.str w), some (.lst ps), none, none]) rfl)
      rw [hl] at q
      exact q
    · refine pb_asg (d1 := .tup [.int (m : Nat), .fn f]) (env' := [some (.tup (.str w :: ps)), some (.int k), some (.str w), some (.lst ps), some (.int (m : Nat)), some (.fn f)]) (pv_cget (w := w) (pv_var rfl) hl) rfl ?_
      have hle : Pv (callAt T (n + 5)) [some (.tup (.str w :: ps)), some (.int k), some (.str w), some (.lst ps), some (.int (m : Nat)), some (.fn f)] S (.cmp .eq (.blt .len [.var 3]) (.var 4)) (.bl (decide (ps.length = m))) := by
        refine pv_cmp (pv_blt (d := .int ps.length) (pvs_1 (pv_var (d := .lst ps) rfl)) rfl) (pv_var (d := .int (m : Nat)) rfl) ?_
        show cmpD .eq (.int (ps.length : Int)) (.int (m : Int)) = _
        simp only [cmpD]
        rw [eqD_int]
        by_cases h : ps.length = m
        · rw [decide_eq_true h, h]; simp
        · rw [decide_eq_false h]
          exact congrArg some (beq_eq_false_iff_ne.mpr (by omega))
      exact pb_ret (pv_and hle fun hh => pv_callv (f := f) rfl hf (pvs_2 (pv_var rfl) (pv_var rfl)) (hc (of_decide_eq_true hh)))
end

end MP

set_option maxHeartbeats 0
namespace MP
open PySem L2

section
variable {S : Store} {k : Int} {w : Str} {ps : List D}
theorem row_oks (hd : okB (.tup (.str w :: ps)) = true) : oksB ps = true := by
  have h := (ok_tup hd).2
  simp only [oksB, Bool.and_eq_true] at h
  exact h.2
theorem row_one (n : Nat) (hd : okB (.tup (.str w :: ps)) = true) (hw : bareB w = false) {f : Nat} {g : D → Bool} (hl : lookS w forms = some (.tup [.int 1, .fn f])) (hf : f ∈ glob.fv)
    (hc : ∀ a, okB a = true → callAt T (n + 5) f [.lst [a], .int k] S = .ok (.bl (g a)) S) : callAt T (n + 6) 23 [.tup (.str w :: ps), .int k] S = .ok (.bl (one g ps)) S := by
  by_cases h1 : ∃ a, ps = [a]
  · obtain ⟨a, rfl⟩ := h1
    exact row_form (m := 1) (r := g a) n hd hw hl hf fun _ => hc a (oks_one (row_oks hd))
  · have hn : ps.length ≠ 1 := fun z => h1 (one_of z)
    have q := row_form (m := 1) (r := true) (S := S) (k := k) n hd hw hl hf fun z => absurd z hn
    rw [decide_eq_false hn] at q
    have e : one g ps = false := by
      match ps, h1 with
      | [], _ => rfl
      | [a], h1 => exact absurd ⟨a, rfl⟩ h1
      | _ :: _ :: _, _ => rfl
    rw [e]
    exact q
theorem row_two (n : Nat) (hd : okB (.tup (.str w :: ps)) = true) (hw : bareB w = false) {f : Nat} {g : D → D → Bool} (hl : lookS w forms = some (.tup [.int 2, .fn f])) (hf : f ∈ glob.fv)
    (hc : ∀ a b, okB a = true → okB b = true → callAt T (n + 5) f [.lst [a, b], .int k] S = .ok (.bl (g a b)) S) : callAt T (n + 6) 23 [.tup (.str w :: ps), .int k] S = .ok (.bl (two g ps)) S := by
  by_cases h1 : ∃ a b, ps = [a, b]
  · obtain ⟨a, b, rfl⟩ := h1
    have o := oks_two (row_oks hd)
    exact row_form (m := 2) (r := g a b) n hd hw hl hf fun _ => hc a b o.1 o.2
  · have hn : ps.length ≠ 2 := fun z => h1 (two_of z)
    have q := row_form (m := 2) (r := true) (S := S) (k := k) n hd hw hl hf fun z => absurd z hn
    rw [decide_eq_false hn] at q
    have e : two g ps = false := by
      match ps, h1 with
      | [], _ => rfl
      | [_], _ => rfl
      | [a, b], h1 => exact absurd ⟨a, b, rfl⟩ h1
      | _ :: _ :: _ :: _, _ => rfl
    rw [e]
    exact q
theorem row_none (n : Nat) (hd : okB (.tup (.str w :: ps)) = true) (hw : bareB w = false) (hl : lookS w forms = none) : callAt T (n + 6) 23 [.tup (.str w :: ps), .int k] S = .ok (.bl false) S := by
  refine row_head n hd (pb_if (x := false) ?_ (fun z => by cases z) fun _ => pb_if (x := true) ?_ (fun _ => pb_ret pv_con) fun z => by cases z)
  · rw [← hw]
    exact pv_cmp (pv_var rfl) pv_con (by rw [cmp_inn]; exact in_strs_t rfl)
  · have q := pv_cin (F := callAt T (n + 5)) (S := S) (ng := true) (kvs := forms) (pv_var (i := 2) (d := .str w) (env := [some (.tup (.str w :: ps)), some (.int k), some (.str w), some (.lst ps), none, none]) rfl)
    rw [hl] at q
    exact q
/-- THE PROGRAM'S LOOK AT A ROW -/
theorem w_is_row (n : Nat) {d : D} (h : okB d = true) : callAt T (n + 6) 23 [d, .int k] S = .ok (.bl (rowB k d)) S := by
  have hdat := ok_dat _ h
  by_cases ht : ∃ xs, d = .tup xs
  · obtain ⟨xs, rfl⟩ := ht
    cases xs with
    | nil =>
      refine call_pb (fd := ⟨2, 6, b_is_row⟩) rfl rfl ?_
      have q := pv_or (y := true) (pv_not (pv_istup (F := callAt T (n + 5)) (S := S) (env := startE [.tup [], .int k] 6) (pv_var (i := 0) rfl) hdat)) fun _ => pv_or (y := true) (b := .not (.blt .isinst [.ix (.var 0) (.con (.int 0)), .con (.ty "str")])) (len_eq (xs := []) (m := 0) (pv_var (i := 0) (d := .tup []) rfl) rfl) fun z => by cases z
      exact pb_if q (fun _ => pb_ret pv_con) fun z => by cases z
    | cons x ps =>
      by_cases hx : ∃ w, x = .str w
      · obtain ⟨w, rfl⟩ := hx
        show _ = Res.ok (D.bl (if bareB w = true then ps.isEmpty else formB k w ps)) S
        cases hw : bareB w with
        | true => rw [if_pos rfl]; exact row_bare n h hw
        | false =>
          rw [if_neg (by decide)]
          by_cases c1 : w = ("exec" : Str)
          · subst c1; exact row_one n h hw (f := 13) (g := titleB) (by kernel_rfl) (by decide) fun a ha => w_is_exec n ha
          by_cases c2 : w = ("end" : Str)
          · subst c2; exact row_one n h hw (f := 14) (g := isBelow 100) (by kernel_rfl) (by decide) fun a ha => w_is_said_row n ha
          by_cases c3 : w = ("wait" : Str)
          · subst c3; exact row_two n h hw (f := 15) (g := fun a b => (noneB a || isCount a) && isBlT b) (by kernel_rfl) (by decide) fun a b ha hb => w_is_wait n ha hb
          by_cases c4 : w = ("send" : Str)
          · subst c4; exact row_two n h hw (f := 16) (g := fun a b => oneOf sigs9 a && (isCount b || oneOf [.str "self", .str "parent", .str "group"] b)) (by kernel_rfl) (by decide) fun a b ha hb => w_is_send n ha hb
          by_cases c5 : w = ("mask" : Str)
          · subst c5; exact row_one n h hw (f := 17) (g := maskB) (by kernel_rfl) (by decide) fun a ha => w_is_masking n ha
          by_cases c6 : w = ("unmask" : Str)
          · subst c6; exact row_one n h hw (f := 17) (g := maskB) (by kernel_rfl) (by decide) fun a ha => w_is_masking n ha
          by_cases c7 : w = ("handle" : Str)
          · subst c7; exact row_two n h hw (f := 18) (g := fun a b => masky a && howB k b) (by kernel_rfl) (by decide) fun a b ha hb => w_is_handle n ha hb
          by_cases c8 : w = ("group" : Str)
          · subst c8; exact row_two n h hw (f := 19) (g := fun a b => isWho a && oneOf [.str "new", .str "mine"] b) (by kernel_rfl) (by decide) fun a b ha hb => w_is_grouping n ha hb
          by_cases c9 : w = ("front" : Str)
          · subst c9; exact row_one n h hw (f := 20) (g := isWho) (by kernel_rfl) (by decide) fun a ha => w_is_front n ha
          by_cases c10 : w = ("say" : Str)
          · subst c10; exact row_one n h hw (f := 14) (g := isBelow 100) (by kernel_rfl) (by decide) fun a ha => w_is_said_row n ha
          by_cases c11 : w = ("goto" : Str)
          · subst c11; exact row_one n h hw (f := 21) (g := isBelow k) (by kernel_rfl) (by decide) fun a ha => w_is_going n ha
          by_cases c12 : w = ("if" : Str)
          · subst c12; exact row_two n h hw (f := 22) (g := fun a b => (isIntT a && !isBlT a) && isBelow k b) (by kernel_rfl) (by decide) fun a b ha hb => w_is_asking n ha hb
          have e : formB k w ps = false := by unfold formB; rw [if_neg c1, if_neg c2, if_neg c3, if_neg c4, if_neg c5, if_neg c6, if_neg c7, if_neg c8, if_neg c9, if_neg c10, if_neg c11, if_neg c12]
          have e2 : lookS w forms = none := by
            simp only [forms, lookS]
            rw [if_neg c1, if_neg c2, if_neg c3, if_neg c4, if_neg c5, if_neg c6, if_neg c7, if_neg c8, if_neg c9, if_neg c10, if_neg c11, if_neg c12]
          rw [e]
          exact row_none n h hw e2
      · have e : rowB k (.tup (x :: ps)) = false := by cases x <;> first | rfl | exact absurd ⟨_, rfl⟩ hx
        have es : isStrT x = false := by cases x <;> first | rfl | exact absurd ⟨_, rfl⟩ hx
        rw [e]
        refine call_pb (fd := ⟨2, 6, b_is_row⟩) rfl rfl ?_
        have hxd : datB x = true := datsB_mem (by simpa only [datB] using hdat) List.mem_cons_self
        have i0 : Pv (callAt T (n + 5)) (startE [.tup (x :: ps), .int k] 6) S (.ix (.var 0) (.con (.int 0))) x := pv_ix (pv_var (d := .tup (x :: ps)) rfl) (pv_con (d := .int 0)) (by show ixD (.tup (x :: ps)) (.int 0) = _; simp only [ixD, atI_0])
        have l0 : ((((x :: ps).length : Int)) == 0) = false := beq_eq_false_iff_ne.mpr (by simp only [List.length_cons]; omega)
        have q := pv_or (pv_not (pv_istup (F := callAt T (n + 5)) (S := S) (env := startE [.tup (x :: ps), .int k] 6) (pv_var (i := 0) rfl) hdat)) fun _ => pv_or (len_eq (xs := x :: ps) (m := 0) (pv_var (i := 0) (d := .tup (x :: ps)) rfl) rfl) fun _ => pv_not (pv_isstr i0 hxd)
        rw [l0, es] at q
        exact pb_if q (fun _ => pb_ret pv_con) fun z => by cases z
  · have e : rowB k d = false := by cases d <;> first | rfl | exact absurd ⟨_, rfl⟩ ht
    have e2 : isTupT d = false := by cases d <;> first | rfl | exact absurd ⟨_, rfl⟩ ht
    rw [e]
    refine call_pb (fd := ⟨2, 6, b_is_row⟩) rfl rfl ?_
    have q := pv_or (y := true) (b := .or (.cmp .eq (.blt .len [.var 0]) (.con (.int 0))) (.not (.blt .isinst [.ix (.var 0) (.con (.int 0)), .con (.ty "str")]))) (pv_not (pv_istup (F := callAt T (n + 5)) (S := S) (env := startE [d, .int k] 6) (pv_var (i := 0) rfl) hdat)) fun z => by rw [e2] at z; cases z
    rw [e2] at q
    exact pb_if q (fun _ => pb_ret pv_con) fun z => by cases z
end

end MP

set_option maxHeartbeats 0
namespace MP
open PySem L2

/-! the law's own look -/
def wholeB (lo hi : Int) : D → Bool
  | .int i => decide (lo ≤ i) && decide (i < hi)
  | _ => false
section
variable {S : Store} {d : D}
theorem v_whole (n : Nat) (h : datB d = true) (lo hi : Int) : callAt T (n + 1) 33 [d, .int lo, .int hi] S = .ok (.bl (wholeB lo hi d)) S := by
  have e : wholeB lo hi d = (isIntT d && (!isBlT d && wholeB lo hi d)) := by cases d <;> rfl
  rw [e]
  refine call_pb (fd := ⟨3, 3, b__law_whole⟩) rfl rfl (pb_ret (pv_and (pv_isint (pv_var rfl) h) fun h1 => pv_and (pv_not (pv_isbl (pv_var rfl) h)) fun h2 => ?_))
  obtain ⟨i, rfl⟩ := isint_of h1 (by simpa using h2)
  exact pv_chain (pv_var (d := .int lo) rfl) (pv_var (d := .int i) rfl) (pv_var (d := .int hi) rfl) rfl rfl
theorem v_word (n : Nat) (h : datB d = true) {xs : List D} (hx : strsB xs = true) : callAt T (n + 1) 34 [d, .lst xs] S = .ok (.bl (oneOf xs d)) S := by
  have e : oneOf xs d = (isStrT d && oneOf xs d) := by cases d <;> rfl
  rw [e]
  refine call_pb (fd := ⟨2, 2, b__law_word⟩) rfl rfl (pb_ret (pv_and (pv_isstr (pv_var rfl) h) fun hc => ?_))
  obtain ⟨x, rfl⟩ := isstr_of hc
  exact pv_cmp (pv_var rfl) (pv_var rfl) (by rw [cmp_inn]; exact in_strs_l hx)
/-! titles -/
def inAZ : D → Bool
  | .str s => (match s.cps.toList with | [c] => decide (97 ≤ c) && decide (c ≤ 122) | _ => false)
  | _ => false
def titleL : D → Bool
  | .str z => (decide (0 < z.length) && decide (z.length < 9)) && (signs z).all inAZ
  | _ => false
theorem lt_one (a b : Nat) : ([a] < [b]) ↔ a < b := by
  constructor
  · intro h
    cases h with
    | rel h => exact h
    | cons h => cases h
  · intro h; exact List.Lex.rel h
theorem v_title (n : Nat) (h : datB d = true) (hs : shortB d = true) : callAt T (n + 1) 36 [d] S = .ok (.bl (titleL d)) S := by
  refine call_pb (fd := ⟨1, 2, b__law_is_title⟩) rfl rfl ?_
  by_cases ht : ∃ z, d = .str z
  · obtain ⟨z, rfl⟩ := ht
    have hl : z.length ≤ 9000000 := of_decide_eq_true hs
    have hz : z.length ≤ 10000000 := by omega
    have q := pv_or (pv_not (pv_isstr (F := callAt T n) (S := S) (env := startE [.str z] 2) (pv_var (i := 0) rfl) h)) fun _ => pv_not (pv_chain (x := decide (0 < z.length)) (y := decide (z.length < 9)) (o := .lt) (o' := .lt) (pv_con (d := .int 0)) (pv_blt (bl := .len) (d := .int z.length) (pvs_1 (pv_var (i := 0) (d := .str z) rfl)) (by show bltD .len [.str z] = _; simp only [bltD, if_pos hz])) (pv_con (d := .int 9))
      (by show cmpD .lt (.int 0) (.int (z.length : Int)) = _; simp only [cmpD]; exact congrArg some (decide_eq_decide.mpr (by omega))) (by show cmpD .lt (.int (z.length : Int)) (.int 9) = _; simp only [cmpD]; exact congrArg some (decide_eq_decide.mpr (by omega))))
    have e : titleL (.str z) = ((decide (0 < z.length) && decide (z.length < 9)) && (signs z).all inAZ) := rfl
    rw [e]
    cases hb : (decide (0 < z.length) && decide (z.length < 9)) with
    | false =>
      rw [hb] at q
      exact pb_if q (fun _ => pb_ret pv_con) fun z => by cases z
    | true =>
      rw [hb] at q
      refine pb_if q (fun z => by cases z) fun _ => ?_
      refine pb_ret (pv_blt (pvs_1 (pv_comp (g := fun z => .bl (inAZ z)) (pvs_1 (pv_var (d := .str z) rfl)) (show itD .seq [.str z] = some (signs z) from rfl) (by rw [signs_len]; rw [Bool.and_eq_true, decide_eq_true_iff, decide_eq_true_iff] at hb; omega) fun x hx => ?_)) (all_map _))
      obtain ⟨c, rfl, _⟩ := mem_signs hx
      refine ⟨[some (.str z), some (.str ⟨#[c]⟩)], rfl, pv_chain (x := decide (97 ≤ c)) (y := decide (c ≤ 122)) pv_con (pv_var (d := .str ⟨#[c]⟩) rfl) pv_con ?_ ?_⟩
      · show cmpD .le (.str "a") (.str ⟨#[c]⟩) = _
        simp only [cmpD]
        rw [← decide_not]
        refine congrArg some (decide_eq_decide.mpr ?_)
        show ¬ [c] < [97] ↔ _
        rw [lt_one]; omega
      · show cmpD .le (.str ⟨#[c]⟩) (.str "z") = _
        simp only [cmpD]
        rw [← decide_not]
        refine congrArg some (decide_eq_decide.mpr ?_)
        show ¬ [122] < [c] ↔ _
        rw [lt_one]; omega
  · have e : titleL d = false := by cases d <;> first | rfl | exact absurd ⟨_, rfl⟩ ht
    have e2 : isStrT d = false := by cases d <;> first | rfl | exact absurd ⟨_, rfl⟩ ht
    have q := pv_or (y := true) (b := .not (.chain .lt .lt (.con (.int 0)) (.blt .len [.var 0]) (.con (.int 9)))) (pv_not (pv_isstr (F := callAt T n) (S := S) (env := startE [d] 2) (pv_var (i := 0) rfl) h)) fun z => by rw [e2] at z; cases z
    rw [e2] at q
    rw [e]
    exact pb_if q (fun _ => pb_ret pv_con) fun z => by cases z
theorem let_az (c : Nat) : (c ∈ letters.cps.toList) ↔ 97 ≤ c ∧ c ≤ 122 := by
  have e : letters.cps.toList = (List.range 26).map (· + 97) := by kernel_rfl
  rw [e, List.mem_map]
  constructor
  · rintro ⟨i, hi, rfl⟩
    have := List.mem_range.mp hi
    omega
  · intro ⟨h1, h2⟩
    exact ⟨c - 97, List.mem_range.mpr (by omega), by omega⟩
theorem title_eq (d : D) : titleL d = titleB d := by
  cases d <;> try rfl
  rename_i z
  have e : (signs z).all inAZ = (signs z).all inLet := by
    refine List.all_congr rfl ?_ <;> skip
    intro x
    cases x <;> try rfl
    rename_i s
    show (match s.cps.toList with | [c] => decide (97 ≤ c) && decide (c ≤ 122) | _ => false) = (match s.cps.toList with | [c] => decide (c ∈ letters.cps.toList) | _ => false)
    split
    · rename_i c _
      rw [← Bool.decide_and]
      exact decide_eq_decide.mpr (let_az c).symm
    · rfl
  show ((decide (0 < z.length) && decide (z.length < 9)) && (signs z).all inAZ) = ((decide (1 ≤ z.length) && decide (z.length ≤ 8)) && (signs z).all inLet)
  rw [e, show decide (0 < z.length) = decide (1 ≤ z.length) from decide_eq_decide.mpr (by omega), show decide (z.length < 9) = decide (z.length ≤ 8) from decide_eq_decide.mpr (by omega)]
end

end MP

set_option maxHeartbeats 0
namespace MP
open PySem L2

/-! the law's masks -/
def ixOf (d : D) : Nat := (idxF d sigs7 0).getD 0
def stepB (p : D) : Bool := match p with
  | .tup [.int i, .int j] => decide (i < j)
  | _ => false
def pairsOf (ps : List D) : List D := (ps.zip (ps.drop 1)).map fun p => D.tup [p.1, p.2]
def maskL : D → Bool
  | .tup xs => xs.all (oneOf sigs7) && (pairsOf (xs.map fun z => D.int (ixOf z : Nat))).all stepB
  | _ => false
theorem idx_some {s : Str} (h : inF (.str s) sigs7 = true) : ∃ n, idxF (.str s) sigs7 0 = some n := by
  have g : ∀ (xs : List D) (k : Nat), inF (.str s) xs = true → ∃ n, idxF (.str s) xs k = some n := by
    intro xs
    induction xs with
    | nil => intro k h; cases h
    | cons x xs ih =>
      intro k h
      unfold inF at h
      rw [List.any_cons, Bool.or_eq_true] at h
      unfold idxF
      by_cases hx : eqF x (.str s) = true
      · rw [if_pos hx]; exact ⟨k, rfl⟩
      · rw [if_neg hx]
        exact ih (k + 1) (h.resolve_left hx)
  exact g sigs7 0 h
theorem v_are_signals (n : Nat) {S : Store} {d : D} (h : datB d = true) (hs : shortB d = true) : callAt T (n + 2) 35 [d] S = .ok (.bl (maskL d)) S := by
  refine call_pb (fd := ⟨1, 5, b__law_are_signals⟩) rfl rfl ?_
  refine pb_asg (d1 := .lst sigs7) (env' := [some d, some (.lst sigs7), none, none, none]) (pv_lst (pvs_cons pv_con (pvs_cons pv_con (pvs_cons pv_con (pvs_cons pv_con (pvs_cons pv_con (pvs_2 pv_con pv_con)))))) (by decide)) rfl ?_
  by_cases ht : ∃ xs, d = .tup xs
  · obtain ⟨xs, rfl⟩ := ht
    have hl : xs.length ≤ 1000 := of_decide_eq_true hs
    have hd : datsB xs = true := by simpa only [datB] using h
    refine pb_if (x := !xs.all (oneOf sigs7)) (?_ : Pv _ _ _ _ (.bl (false || !xs.all (oneOf sigs7)))) (fun z => ?_) fun z => ?_
    · refine pv_or (pv_not (pv_istup (pv_var rfl) h)) fun _ => pv_not (pv_blt (pvs_1 (pv_comp (g := fun z => .bl (oneOf sigs7 z)) (pvs_1 (pv_var (d := .tup xs) rfl)) (show itD .seq [.tup xs] = some xs from rfl) (by omega) fun x hx => ?_)) (all_map _))
      exact ⟨[some (.tup xs), some (.lst sigs7), none, some x, none], rfl, pv_call (pvs_2 (pv_var rfl) (pv_var rfl)) (v_word n (datsB_mem hd hx) rfl)⟩
    · have e : maskL (.tup xs) = false := by
        show (xs.all (oneOf sigs7) && _) = false
        rw [show xs.all (oneOf sigs7) = false by simpa using z]; rfl
      rw [e]
      exact pb_ret pv_con
    · have z' : xs.all (oneOf sigs7) = true := by simpa using z
      have e : maskL (.tup xs) = (pairsOf (xs.map fun z => D.int (ixOf z : Nat))).all stepB := by
        show (xs.all (oneOf sigs7) && _) = _
        rw [z']; rfl
      rw [e]
      refine pb_asg (d1 := .lst (xs.map fun z => D.int (ixOf z : Nat))) (env' := [some (.tup xs), some (.lst sigs7), some (.lst (xs.map fun z => D.int (ixOf z : Nat))), none, none]) ?_ rfl ?_
      · refine pv_comp (g := fun z => D.int (ixOf z : Nat)) (pvs_1 (pv_var (d := .tup xs) rfl)) (show itD .seq [.tup xs] = some xs from rfl) (by omega) fun x hx => ?_
        refine ⟨[some (.tup xs), some (.lst sigs7), none, some x, none], rfl, ?_⟩
        have ho := List.all_eq_true.mp z' x hx
        cases x <;> first | (cases ho; done) | skip
        rename_i s
        obtain ⟨m, hm⟩ := idx_some ho
        refine pv_mth (d1 := .lst sigs7) (pv_var rfl) rfl (pvs_1 (pv_var (d := .str s) rfl)) (by intro z; cases z) rfl ?_
        show mthP .index (.lst sigs7) [.str s] = _
        have f : (flat (D.str s) && sigs7.all flat) = true := rfl
        simp only [mthP, f, if_true, hm, Option.map_some, ixOf, Option.getD_some]
      · generalize hps : xs.map (fun z => D.int (ixOf z : Nat)) = ps
        have hpl : ps.length = xs.length := by rw [← hps, List.length_map]
        have hcut : slD (some 1) none (.lst ps) = some (.lst (ps.drop 1)) := by
          simp only [slD, cutD]
          have e1 : HT.sIx ps.length 0 (some 1) = min 1 ps.length := HT.sIx_nat ps.length 0 1
          rw [e1, HT.sIx_none]
          by_cases hp : 1 ≤ ps.length
          · rw [Nat.min_eq_left hp, List.take_of_length_le (by rw [List.length_drop]; omega)]
          · have : ps = [] := List.length_eq_zero_iff.mp (by omega)
            subst this; rfl
        have hz : itD .zip [.lst ps, .lst (ps.drop 1)] = some (pairsOf ps) := rfl
        have hlen : (pairsOf ps).length ≤ 100000 := by
          unfold pairsOf
          rw [List.length_map, List.length_zip]
          omega
        refine pb_ret (pv_blt (pvs_1 (pv_comp (g := fun z => .bl (stepB z)) (pvs_2 (pv_var (d := .lst ps) rfl) (pv_sl (d := .lst (ps.drop 1)) (pv_var (d := .lst ps) rfl) (pvs_1 (pv_con (d := .int 1))) pvs_nil rfl rfl hcut)) hz hlen fun x hx => ?_)) (all_map _))
        unfold pairsOf at hx
        obtain ⟨⟨a, b⟩, hab, rfl⟩ := List.mem_map.mp hx
        have ha : a ∈ ps := (List.of_mem_zip hab).1
        have hb : b ∈ ps := List.mem_of_mem_drop (List.of_mem_zip hab).2
        rw [← hps] at ha hb
        obtain ⟨u, _, rfl⟩ := List.mem_map.mp ha
        obtain ⟨v, _, rfl⟩ := List.mem_map.mp hb
        exact ⟨[some (.tup xs), some (.lst sigs7), some (.lst ps), some (.int (ixOf u : Nat)), some (.int (ixOf v : Nat))], rfl, pv_cmp (pv_var (d := .int (ixOf u : Nat)) rfl) (pv_var (d := .int (ixOf v : Nat)) rfl) rfl⟩
  · have e : maskL d = false := by cases d <;> first | rfl | exact absurd ⟨_, rfl⟩ ht
    have e2 : isTupT d = false := by cases d <;> first | rfl | exact absurd ⟨_, rfl⟩ ht
    have q := pv_or (y := true) (b := .not (.blt .all [.comp false (.name 3) .seq [.var 0] [] (.call 34 [.var 3, .var 1])])) (pv_not (pv_istup (F := callAt T (n + 1)) (S := S) (env := [some d, some (.lst sigs7), none, none, none]) (pv_var (i := 0) rfl) h)) fun z => by rw [e2] at z; cases z
    rw [e2] at q
    rw [e]
    exact pb_if q (fun _ => pb_ret pv_con) fun z => by cases z

end MP

set_option maxHeartbeats 0
namespace MP
open PySem L2

/-! the two looks at a mask are one -/
def incB : List Nat → Bool
  | a :: b :: r => decide (a < b) && incB (b :: r)
  | _ => true
theorem inc_pw : ∀ l : List Nat, incB l = true ↔ l.Pairwise (· < ·)
  | [] => ⟨fun _ => .nil, fun _ => rfl⟩
  | [a] => ⟨fun _ => List.pairwise_singleton _ _, fun _ => rfl⟩
  | a :: b :: r => by
    have ih := inc_pw (b :: r)
    show (decide (a < b) && incB (b :: r)) = true ↔ _
    rw [Bool.and_eq_true, decide_eq_true_iff, ih]
    constructor
    · intro ⟨h1, h2⟩
      refine List.pairwise_cons.mpr ⟨fun x hx => ?_, h2⟩
      rcases List.mem_cons.mp hx with rfl | hx
      · exact h1
      · exact Nat.lt_trans h1 ((List.pairwise_cons.mp h2).1 x hx)
    · intro h
      obtain ⟨h1, h2⟩ := List.pairwise_cons.mp h
      exact ⟨h1 b List.mem_cons_self, h2⟩
theorem inc_ext : ∀ {a b : List Nat}, a.Pairwise (· < ·) → b.Pairwise (· < ·) → (∀ x, x ∈ a ↔ x ∈ b) → a = b
  | [], [], _, _, _ => rfl
  | [], y :: ys, _, _, h => absurd ((h y).mpr List.mem_cons_self) (by simp)
  | x :: xs, [], _, _, h => absurd ((h x).mp List.mem_cons_self) (by simp)
  | x :: xs, y :: ys, h1, h2, h => by
    obtain ⟨p1, p2⟩ := List.pairwise_cons.mp h1
    obtain ⟨q1, q2⟩ := List.pairwise_cons.mp h2
    have e : x = y := by
      rcases List.mem_cons.mp ((h x).mp List.mem_cons_self) with e | hx
      · exact e
      · rcases List.mem_cons.mp ((h y).mpr List.mem_cons_self) with e | hy
        · exact e.symm
        · have := q1 x hx
          have := p1 y hy
          omega
    subst e
    rw [inc_ext p2 q2 fun z => ?_]
    constructor
    · intro hz
      rcases List.mem_cons.mp ((h z).mp (List.mem_cons_of_mem _ hz)) with rfl | hz'
      · exact absurd (p1 z hz) (Nat.lt_irrefl _)
      · exact hz'
    · intro hz
      rcases List.mem_cons.mp ((h z).mpr (List.mem_cons_of_mem _ hz)) with rfl | hz'
      · exact absurd (q1 z hz) (Nat.lt_irrefl _)
      · exact hz'
theorem inc_filter {l : List Nat} (h7 : ∀ x ∈ l, x < 7) : incB l = decide (l = (List.range 7).filter fun x => decide (x ∈ l)) := by
  have hm : ∀ x, x ∈ l ↔ x ∈ (List.range 7).filter fun x => decide (x ∈ l) := fun x => by
    rw [List.mem_filter, List.mem_range, decide_eq_true_iff]
    exact ⟨fun h => ⟨h7 x h, h⟩, fun h => h.2⟩
  have hp : ((List.range 7).filter fun x => decide (x ∈ l)).Pairwise (· < ·) := List.Pairwise.filter _ List.pairwise_lt_range
  by_cases h : l = (List.range 7).filter fun x => decide (x ∈ l)
  · rw [decide_eq_true h]
    exact (inc_pw l).mpr (by rw [h]; exact hp)
  · rw [decide_eq_false h]
    cases q : incB l with
    | false => rfl
    | true => exact absurd (inc_ext ((inc_pw l).mp q) hp hm) h
theorem pairs_inc : ∀ l : List Nat, (pairsOf (l.map fun (n : Nat) => D.int (n : Nat))).all stepB = incB l
  | [] => rfl
  | [a] => rfl
  | a :: b :: r => by
    have ih := pairs_inc (b :: r)
    show (decide ((a : Int) < (b : Int)) && (pairsOf ((b :: r).map fun (n : Nat) => D.int (n : Nat))).all stepB) = (decide (a < b) && incB (b :: r))
    rw [ih]
    exact congrArg (· && incB (b :: r)) (decide_eq_decide.mpr (by omega))
def sg (n : Nat) : D := (sigs7[n]?).getD .non
theorem sg_eq : ∀ i j : Nat, i < 7 → j < 7 → eqB (sg i) (sg j) = decide (i = j) ∧ eqF (sg i) (sg j) = decide (i = j) := by
  intro i j hi hj
  have h : ∀ i ∈ List.range 7, ∀ j ∈ List.range 7, eqB (sg i) (sg j) = decide (i = j) ∧ eqF (sg i) (sg j) = decide (i = j) := by decide +kernel
  exact h i (List.mem_range.mpr hi) j (List.mem_range.mpr hj)
theorem sg_sure : ∀ i : Nat, i < 7 → eqF (sg i) (.str "kill") = false ∧ eqF (sg i) (.str "halt") = false := by
  intro i hi
  have h : ∀ i ∈ List.range 7, eqF (sg i) (.str "kill") = false ∧ eqF (sg i) (.str "halt") = false := by decide +kernel
  exact h i (List.mem_range.mpr hi)
theorem masky_eq (d : D) : masky d = oneOf sigs7 d := by
  cases d <;> try rfl
  rename_i x
  by_cases h1 : x = ("kill" : Str)
  · subst h1; kernel_rfl
  by_cases h2 : x = ("halt" : Str)
  · subst h2; kernel_rfl
  have e1 : (("kill" : Str) == x) = false := beq_eq_false_iff_ne.mpr (Ne.symm h1)
  have e2 : (("halt" : Str) == x) = false := beq_eq_false_iff_ne.mpr (Ne.symm h2)
  show (((("kill" : Str) == x) || ((("halt" : Str) == x) || inF (.str x) sigs7)) && !((("kill" : Str) == x) || ((("halt" : Str) == x) || false))) = inF (.str x) sigs7
  rw [e1, e2]
  simp
theorem sg_of {d : D} (h : oneOf sigs7 d = true) : d = sg (ixOf d) ∧ ixOf d < 7 := by
  cases d <;> try (cases h; done)
  rename_i x
  have h' : inF (.str x) sigs7 = true := h
  by_cases c1 : x = ("on" : Str)
  · subst c1; exact ⟨by kernel_rfl, by decide +kernel⟩
  by_cases c2 : x = ("hang" : Str)
  · subst c2; exact ⟨by kernel_rfl, by decide +kernel⟩
  by_cases c3 : x = ("quit" : Str)
  · subst c3; exact ⟨by kernel_rfl, by decide +kernel⟩
  by_cases c4 : x = ("call" : Str)
  · subst c4; exact ⟨by kernel_rfl, by decide +kernel⟩
  by_cases c5 : x = ("kin" : Str)
  · subst c5; exact ⟨by kernel_rfl, by decide +kernel⟩
  by_cases c6 : x = ("rest" : Str)
  · subst c6; exact ⟨by kernel_rfl, by decide +kernel⟩
  by_cases c7 : x = ("reads" : Str)
  · subst c7; exact ⟨by kernel_rfl, by decide +kernel⟩
  exfalso
  have e : ∀ y : Str, x ≠ y → (y == x) = false := fun y hy => beq_eq_false_iff_ne.mpr (Ne.symm hy)
  have : inF (.str x) sigs7 = false := by
    show ((("on" : Str) == x) || ((("hang" : Str) == x) || ((("quit" : Str) == x) || ((("call" : Str) == x) || ((("kin" : Str) == x) || ((("rest" : Str) == x) || ((("reads" : Str) == x) || false))))))) = false
    rw [e _ c1, e _ c2, e _ c3, e _ c4, e _ c5, e _ c6, e _ c7]
    rfl
  rw [this] at h'
  cases h'
theorem eqs_sg : ∀ (l m : List Nat), (∀ x ∈ l, x < 7) → (∀ x ∈ m, x < 7) → eqsB (l.map sg) (m.map sg) = decide (l = m)
  | [], [], _, _ => rfl
  | [], _ :: _, _, _ => rfl
  | _ :: _, [], _, _ => rfl
  | a :: l, b :: m, hl, hm => by
    show (eqB (sg a) (sg b) && eqsB (l.map sg) (m.map sg)) = _
    rw [(sg_eq a b (hl a List.mem_cons_self) (hm b List.mem_cons_self)).1, eqs_sg l m (fun x hx => hl x (List.mem_cons_of_mem _ hx)) (fun x hx => hm x (List.mem_cons_of_mem _ hx)), ← Bool.decide_and]
    exact decide_eq_decide.mpr ⟨fun ⟨h1, h2⟩ => by rw [h1, h2], fun h => by injection h with h1 h2; exact ⟨h1, h2⟩⟩
theorem inF_sg {j : Nat} (hj : j < 7) : ∀ l : List Nat, (∀ x ∈ l, x < 7) → inF (sg j) (l.map sg) = decide (j ∈ l)
  | [], _ => rfl
  | a :: l, hl => by
    show (eqF (sg a) (sg j) || inF (sg j) (l.map sg)) = _
    rw [(sg_eq a j (hl a List.mem_cons_self) hj).2, inF_sg hj l fun x hx => hl x (List.mem_cons_of_mem _ hx), ← Bool.decide_or]
    exact decide_eq_decide.mpr (by rw [List.mem_cons]; exact ⟨fun h => h.imp Eq.symm id, fun h => h.imp Eq.symm id⟩)
theorem inF_sure : ∀ l : List Nat, (∀ x ∈ l, x < 7) → inF (.str "kill") (l.map sg) = false ∧ inF (.str "halt") (l.map sg) = false
  | [], _ => ⟨rfl, rfl⟩
  | a :: l, hl => by
    obtain ⟨h1, h2⟩ := inF_sure l fun x hx => hl x (List.mem_cons_of_mem _ hx)
    obtain ⟨k1, k2⟩ := sg_sure a (hl a List.mem_cons_self)
    constructor
    · show (eqF (sg a) (.str "kill") || inF (.str "kill") (l.map sg)) = false
      rw [k1, h1]; rfl
    · show (eqF (sg a) (.str "halt") || inF (.str "halt") (l.map sg)) = false
      rw [k2, h2]; rfl
theorem filt_sg {l : List Nat} (hl : ∀ x ∈ l, x < 7) : (sigs9.filter fun s => inF s (l.map sg)) = ((List.range 7).filter fun x => decide (x ∈ l)).map sg := by
  obtain ⟨h1, h2⟩ := inF_sure l hl
  have e : sigs9 = .str "kill" :: .str "halt" :: (List.range 7).map sg := by kernel_rfl
  rw [e, List.filter_cons_of_neg (by rw [h1]; decide), List.filter_cons_of_neg (by rw [h2]; decide), List.filter_map]
  refine congrArg (List.map sg) (List.filter_congr fun x hx => ?_)
  exact inF_sg (List.mem_range.mp hx) l hl
theorem mask_eq (d : D) : maskL d = maskB d := by
  cases d <;> try rfl
  rename_i xs
  show (xs.all (oneOf sigs7) && (pairsOf (xs.map fun z => D.int (ixOf z : Nat))).all stepB) = (xs.all masky && eqsB xs (sigs9.filter fun s => inF s xs))
  rw [show xs.all masky = xs.all (oneOf sigs7) from congrArg (xs.all ·) (funext masky_eq)]
  cases ha : xs.all (oneOf sigs7) with
  | false => rfl
  | true =>
    rw [Bool.true_and, Bool.true_and]
    have hz : ∀ z ∈ xs, z = sg (ixOf z) ∧ ixOf z < 7 := fun z hz => sg_of (List.all_eq_true.mp ha z hz)
    have e : xs = (xs.map ixOf).map sg := by
      rw [List.map_map]
      conv => lhs; rw [← List.map_id xs]
      exact List.map_congr_left fun z h => (hz z h).1
    have h7 : ∀ x ∈ xs.map ixOf, x < 7 := fun x hx => by
      obtain ⟨z, h1, rfl⟩ := List.mem_map.mp hx
      exact (hz z h1).2
    have e2 : (xs.map fun z => D.int (ixOf z : Nat)) = (xs.map ixOf).map fun (n : Nat) => D.int (n : Nat) := by rw [List.map_map]; rfl
    rw [e2, pairs_inc, inc_filter h7]
    generalize xs.map ixOf = l at e h7
    subst e
    rw [filt_sg h7, eqs_sg _ _ h7 fun x hx => List.mem_range.mp (List.mem_filter.mp hx).1]

end MP

set_option maxHeartbeats 0
namespace MP
open PySem L2

/-! the law's look at a part -/
abbrev GR : Int := 1000000000000
def hlB (k : Int) : List D → Bool
  | [a, b] => wholeB 0 k a && maskL b
  | _ => false
def handL (k : Int) (p : D) : Bool := if (!isTupT p) = true then oneOf [.str "plain", .str "ignore"] p else (match p with | .tup xs => hlB k xs | _ => false)
def partL (k : Int) (w : Str) (at_ : Int) (p : D) : Bool :=
  if (w == ("exec" : Str)) = true then titleL p else
  if inF (.str w) [.str "end", .str "say"] = true then wholeB 0 100 p else
  if (w == ("wait" : Str)) = true then (if (at_ == 1) = true then isBlT p else (noneB p || wholeB 0 GR p)) else
  if (w == ("send" : Str)) = true then (if (at_ == 0) = true then oneOf sigs9 p else (wholeB 0 GR p || oneOf [.str "self", .str "parent", .str "group"] p)) else
  if inF (.str w) [.str "mask", .str "unmask"] = true then maskL p else
  if ((w == ("handle" : Str)) && (at_ == 0)) = true then oneOf sigs7 p else
  if (w == ("handle" : Str)) = true then handL k p else
  if (inF (.str w) [.str "group", .str "front"] && (at_ == 0)) = true then (wholeB 0 GR p || oneOf [.str "self"] p) else
  if (w == ("group" : Str)) = true then oneOf [.str "new", .str "mine"] p else
  (if ((w == ("if" : Str)) && (at_ == 0)) = true then wholeB (0 - GR) GR p else wholeB 0 k p)
section
variable {F : Fn} {env : Env} {S : Store}
theorem pb_ifB {a : E} {t r : List SA} {x A B : Bool} (h : Pv F env S a (.bl x)) (k1 : Pb F env S t (.bl A)) (k2 : x = false → Pb F env S r (.bl B)) : Pb F env S (.ifs a t [] :: r) (.bl (if x = true then A else B)) := by
  cases x with
  | true => exact pb_if h (fun _ => k1) fun z => by cases z
  | false => exact pb_if h (fun z => by cases z) k2
theorem pv_iteB {a b c : E} {x A B : Bool} (h : Pv F env S a (.bl x)) (k1 : Pv F env S b (.bl A)) (k2 : Pv F env S c (.bl B)) : Pv F env S (.ite a b c) (.bl (if x = true then A else B)) := by
  cases x with
  | true => exact pv_ite h (fun _ => k1) fun z => by cases z
  | false => exact pv_ite h (fun z => by cases z) fun _ => k2
theorem pv_eqs {e : E} {w z : Str} (h : Pv F env S e (.str w)) : Pv F env S (.cmp .eq e (.con (.str z))) (.bl (w == z)) :=
  pv_cmp h pv_con (by show cmpD .eq (.str w) (.str z) = _; simp only [cmpD]; rfl)
theorem pv_eqi {e : E} {i j : Int} (h : Pv F env S e (.int i)) : Pv F env S (.cmp .eq e (.con (.int j))) (.bl (i == j)) :=
  pv_cmp h pv_con (by show cmpD .eq (.int i) (.int j) = _; simp only [cmpD]; exact eqD_int i j)
theorem pv_ins {e : E} {w : Str} {es : List E} {xs : List D} (h : Pv F env S e (.str w)) (k : Pvs F env S es xs) (hl : xs.length ≤ 100000) (hx : strsB xs = true) : Pv F env S (.cmp .inn e (.tup es)) (.bl (inF (.str w) xs)) :=
  pv_cmp h (pv_tup k hl) (by rw [cmp_inn]; exact in_strs_t hx)
end
theorem v_part (n : Nat) {S : Store} {w : Str} {at_ k : Int} {p : D} (hp : okB p = true) : callAt T (n + 3) 37 [.str w, .int at_, p, .int k] S = .ok (.bl (partL k w at_ p)) S := by
  have hd := ok_dat _ hp
  refine call_pb (fd := ⟨4, 6, b__law_is_part⟩) rfl rfl ?_
  refine pb_par (d1 := .int GR) (d2 := .lst sigs7) (env' := [some (.str w), some (.int at_), some p, some (.int k), some (.int GR), some (.lst sigs7)]) (pv_bin (pv_con (d := .int 10)) (pv_con (d := .int 12)) ?_) (pv_lst (pvs_cons pv_con (pvs_cons pv_con (pvs_cons pv_con (pvs_cons pv_con (pvs_cons pv_con (pvs_2 pv_con pv_con)))))) (by decide)) (by show 4 < 6 ∧ 5 < 6; decide) rfl ?_
  · show binD .pow (.int 10) (.int 12) = _
    simp only [binD]
    rw [if_pos (by decide)]
    rfl
  generalize hen : ([some (.str w), some (.int at_), some p, some (.int k), some (.int GR), some (.lst sigs7)] : Env) = en
  have v0 : Pv (callAt T (n + 2)) en S (.var 0) (.str w) := pv_var (by rw [← hen]; rfl)
  have v1 : Pv (callAt T (n + 2)) en S (.var 1) (.int at_) := pv_var (by rw [← hen]; rfl)
  have v2 : Pv (callAt T (n + 2)) en S (.var 2) p := pv_var (by rw [← hen]; rfl)
  have v3 : Pv (callAt T (n + 2)) en S (.var 3) (.int k) := pv_var (by rw [← hen]; rfl)
  have v4 : Pv (callAt T (n + 2)) en S (.var 4) (.int GR) := pv_var (by rw [← hen]; rfl)
  have v5 : Pv (callAt T (n + 2)) en S (.var 5) (.lst sigs7) := pv_var (by rw [← hen]; rfl)
  have great : Pv (callAt T (n + 2)) en S (.call 33 [.var 2, .con (.int 0), .var 4]) (.bl (wholeB 0 GR p)) := pv_call (pvs_cons v2 (pvs_2 pv_con v4)) (v_whole (n + 1) hd 0 GR)
  unfold partL
  refine pb_ifB (pv_eqs v0) (pb_ret (pv_call (pvs_1 v2) (v_title (n + 1) hd (ok_short hp)))) fun _ => ?_
  refine pb_ifB (pv_ins v0 (pvs_2 pv_con pv_con) (by show 2 ≤ 100000; decide) rfl) (pb_ret (pv_call (pvs_cons v2 (pvs_2 pv_con pv_con)) (v_whole (n + 1) hd 0 100))) fun _ => ?_
  refine pb_ifB (pv_eqs v0) (pb_ret (pv_iteB (pv_eqi v1) (pv_isbl v2 hd) (pv_or (pv_cmp v2 pv_con (by rw [deref_dat hd]; exact is_none hd)) fun _ => great))) fun _ => ?_
  refine pb_ifB (pv_eqs v0) (pb_ifB (pv_eqi v1) (pb_ret (pv_call (pvs_2 v2 (pv_bin (d := .lst sigs9) (pv_lst (pvs_2 pv_con pv_con) (by show 2 ≤ 100000; decide)) v5 rfl)) (v_word (n + 1) hd rfl))) fun _ => pb_ret (pv_or great fun _ => pv_call (pvs_2 v2 (pv_lst (pvs_cons pv_con (pvs_2 pv_con pv_con)) (by show 3 ≤ 100000; decide))) (v_word (n + 1) hd rfl))) fun _ => ?_
  refine pb_ifB (pv_ins v0 (pvs_2 pv_con pv_con) (by show 2 ≤ 100000; decide) rfl) (pb_ret (pv_call (pvs_1 v2) (v_are_signals n hd (ok_short hp)))) fun _ => ?_
  refine pb_ifB (pv_and (pv_eqs v0) fun _ => pv_eqi v1) (pb_ret (pv_call (pvs_2 v2 v5) (v_word (n + 1) hd rfl))) fun _ => ?_
  refine pb_ifB (pv_eqs v0) ?_ fun _ => ?_
  · unfold handL
    refine pb_ifB (pv_not (pv_istup v2 hd)) (pb_ret (pv_call (pvs_2 v2 (pv_lst (pvs_2 pv_con pv_con) (by show 2 ≤ 100000; decide))) (v_word (n + 1) hd rfl))) fun hz => ?_
    obtain ⟨xs, rfl⟩ := istup_of (d := p) (by simpa using hz)
    have hlen : Pv (callAt T (n + 2)) en S (.cmp .eq (.blt .len [.var 2]) (.con (.int 2))) (.bl ((xs.length : Int) == 2)) := len_eq (xs := xs) v2 rfl
    by_cases h2 : ∃ a b, xs = [a, b]
    · obtain ⟨a, b, rfl⟩ := h2
      have o := oks_two (ok_tup hp).2
      have i0 : Pv (callAt T (n + 2)) en S (.ix (.var 2) (.con (.int 0))) a := pv_ix v2 (pv_con (d := .int 0)) (by show ixD (.tup [a, b]) (.int 0) = _; simp only [ixD, atI_0])
      have i1 : Pv (callAt T (n + 2)) en S (.ix (.var 2) (.con (.int 1))) b := pv_ix v2 (pv_con (d := .int 1)) (by show ixD (.tup [a, b]) (.int 1) = _; simp only [ixD, atI_1])
      have q := pv_and hlen fun _ => pv_and (pv_call (f := 33) (pvs_cons i0 (pvs_2 (pv_con (d := .int 0)) v3)) (v_whole (n + 1) (ok_dat _ o.1) 0 k)) fun _ => pv_call (f := 35) (pvs_1 i1) (v_are_signals n (ok_dat _ o.2) (ok_short o.2))
      exact pb_ret q
    · have e : hlB k xs = false := by
        match xs, h2 with
        | [], _ => rfl
        | [_], _ => rfl
        | [a, b], h2 => exact absurd ⟨a, b, rfl⟩ h2
        | _ :: _ :: _ :: _, _ => rfl
      have e2 : ((xs.length : Int) == 2) = false := by
        match xs, h2 with
        | [], _ => rfl
        | [_], _ => rfl
        | [a, b], h2 => exact absurd ⟨a, b, rfl⟩ h2
        | _ :: _ :: _ :: r, _ => exact beq_eq_false_iff_ne.mpr (by simp only [List.length_cons]; omega)
      have q := pv_and (y := true) (b := .and (.call 33 [.ix (.var 2) (.con (.int 0)), .con (.int 0), .var 3]) (.call 35 [.ix (.var 2) (.con (.int 1))])) hlen (fun z => by rw [e2] at z; cases z)
      rw [e2] at q
      show Pb _ _ _ _ (.bl (hlB k xs))
      rw [e]
      exact pb_ret q
  · refine pb_ifB (pv_and (pv_ins v0 (pvs_2 pv_con pv_con) (by show 2 ≤ 100000; decide) rfl) fun _ => pv_eqi v1) (pb_ret (pv_or great fun _ => pv_call (pvs_2 v2 (pv_lst (pvs_1 pv_con) (by show 1 ≤ 100000; decide))) (v_word (n + 1) hd rfl))) fun _ => ?_
    refine pb_ifB (pv_eqs v0) (pb_ret (pv_call (pvs_2 v2 (pv_lst (pvs_2 pv_con pv_con) (by show 2 ≤ 100000; decide))) (v_word (n + 1) hd rfl))) fun _ => ?_
    exact pb_ret (pv_iteB (pv_and (pv_eqs v0) fun _ => pv_eqi v1) (pv_call (pvs_cons v2 (pvs_2 (pv_bin (d := .int (0 - GR)) (pv_con (d := .int 0)) v4 rfl) v4)) (v_whole (n + 1) hd (0 - GR) GR)) (pv_call (pvs_cons v2 (pvs_2 pv_con v3)) (v_whole (n + 1) hd 0 k)))

end MP

set_option maxHeartbeats 0
namespace MP
open PySem L2

/-! the law's look at a row -/
def m1 : List (Key × D) := [(.inr "exec", .int 1), (.inr "end", .int 1), (.inr "wait", .int 2), (.inr "send", .int 2), (.inr "mask", .int 1), (.inr "unmask", .int 1), (.inr "handle", .int 2), (.inr "group", .int 2), (.inr "front", .int 1)]
def m2 : List (Key × D) := [(.inr "say", .int 1), (.inr "goto", .int 1), (.inr "if", .int 2), (.inr "fork", .int 0), (.inr "pause", .int 0), (.inr "read", .int 0), (.inr "return", .int 0), (.inr "session", .int 0), (.inr "taker", .int 0)]
def mm : List (Key × D) := m1 ++ m2
def manyOf (w : Str) : Option D := lookK (.inr w) (mm.map (·.1)) (mm.map (·.2))
def allL (k : Int) (w : Str) (ps : List D) : Bool := ((List.range ps.length).zip ps).all fun p => partL k w (p.1 : Nat) p.2
section
variable {S : Store} {k : Int} {w : Str} {ps : List D}
theorem at_more {S : Store} {o : Ob} {r : List Ob} : (S ++ o :: r)[S.length]? = some o := by
  rw [List.getElem?_append_right (Nat.le_refl _), Nat.sub_self]; rfl
theorem v_head (n : Nat) (hd : okB (.tup (.str w :: ps)) = true) (hdep : dep (.tup (.str w :: ps)) ≤ 64) {d : D}
    (h : Pb (callAt T (n + 3)) [some (.tup (.str w :: ps)), some (.int k), some (.ref S.length), none, none] (S ++ [.dK mm, .dK m2]) (b__law_is_row.drop 3) d) : callAt T (n + 4) 38 [.tup (.str w :: ps), .int k] S = .ok d (S ++ [.dK mm, .dK m2]) := by
  rw [callAt_at (d := ⟨2, 5, b__law_is_row⟩) rfl rfl]
  generalize hF : callAt T (n + 3) = F at h
  have hdat := ok_dat _ hd
  have hw : datB (.str w) = true := datsB_mem (by simpa only [datB] using hdat) List.mem_cons_self
  have i0 : Pv F (startE [.tup (.str w :: ps), .int k] 5) S (.ix (.var 0) (.con (.int 0))) (.str w) := pv_ix (pv_var (d := .tup (.str w :: ps)) rfl) (pv_con (d := .int 0)) (by show ixD (.tup (.str w :: ps)) (.int 0) = _; simp only [ixD, atI_0])
  have e0 : eqD (.tup (.str w :: ps)) (.tup []) = some false := by
    rfl
  have q := pv_or (pv_not (pv_istup (F := F) (S := S) (env := startE [.tup (.str w :: ps), .int k] 5) (pv_var (i := 0) rfl) hdat)) fun _ => pv_or (pv_cmp (o := .eq) (x := false) (pv_var (i := 0) (d := .tup (.str w :: ps)) rfl) (pv_tup pvs_nil (by decide)) (by show cmpD .eq (.tup _) (.tup []) = _; simp only [cmpD]; exact e0)) fun _ => pv_not (pv_isstr i0 hw)
  have s0 : ex F (.ifs (.or (.not (.blt .isinst [.var 0, .con (.ty "tuple")])) (.or (.cmp .eq (.var 0) (.tup [])) (.not (.blt .isinst [.ix (.var 0) (.con (.int 0)), .con (.ty "str")])))) [.ret (.con (.bl false))] []) (startE [.tup (.str w :: ps), .int k] 5) S = .nx (startE [.tup (.str w :: ps), .int k] 5) S := by
    have q' : ev F _ _ _ = Res.ok (.bl false) S := q
    rw [ex, q']
    simp only [Out.of, exs]
  have s1 : ex F (.asg (.name 2) (.ndict [.con (.str "exec"), .con (.int 1), .con (.str "end"), .con (.int 1), .con (.str "wait"), .con (.int 2), .con (.str "send"), .con (.int 2), .con (.str "mask"), .con (.int 1), .con (.str "unmask"), .con (.int 1), .con (.str "handle"), .con (.int 2), .con (.str "group"), .con (.int 2), .con (.str "front"), .con (.int 1)])) (startE [.tup (.str w :: ps), .int k] 5) S = .nx [some (.tup (.str w :: ps)), some (.int k), some (.ref S.length), none, none] (S ++ [.dK m1]) := by kernel_rfl
  generalize hen : ([some (.tup (.str w :: ps)), some (.int k), some (.ref S.length), none, none] : Env) = en at h s1
  have g2 : en[2]? = some (some (.ref S.length)) := by rw [← hen]; rfl
  have a1 : (S ++ [Ob.dK m1])[S.length]? = some (.dK m1) := at_more
  have a2 : (S ++ [Ob.dK m1] ++ [Ob.dK m2])[S.length]? = some (.dK m1) := by rw [List.append_assoc]; exact at_more
  have a3 : (S ++ [Ob.dK m1] ++ [Ob.dK m2])[(S ++ [Ob.dK m1]).length]? = some (.dK m2) := at_more
  have nd : evs F [.ndict [.con (.str "say"), .con (.int 1), .con (.str "goto"), .con (.int 1), .con (.str "if"), .con (.int 2), .con (.str "fork"), .con (.int 0), .con (.str "pause"), .con (.int 0), .con (.str "read"), .con (.int 0), .con (.str "return"), .con (.int 0), .con (.str "session"), .con (.int 0), .con (.str "taker"), .con (.int 0)]] en (S ++ [.dK m1]) = .ok [.ref (S ++ [Ob.dK m1]).length] (S ++ [.dK m1] ++ [.dK m2]) := by kernel_rfl
  have mg : mergeD m1 m2 = mm := by kernel_rfl
  have st : (S ++ [Ob.dK m1] ++ [Ob.dK m2]).set S.length (.dK mm) = S ++ [.dK mm, .dK m2] := by
    rw [List.append_assoc, List.set_append_right _ _ (Nat.le_refl _), Nat.sub_self]; rfl
  have s2 : ex F (.expr (.mth .update (.var 2) [.ndict [.con (.str "say"), .con (.int 1), .con (.str "goto"), .con (.int 1), .con (.str "if"), .con (.int 2), .con (.str "fork"), .con (.int 0), .con (.str "pause"), .con (.int 0), .con (.str "read"), .con (.int 0), .con (.str "return"), .con (.int 0), .con (.str "session"), .con (.int 0), .con (.str "taker"), .con (.int 0)]])) en (S ++ [.dK m1]) = .nx en (S ++ [.dK mm, .dK m2]) := by
    generalize ([E.ndict _] : List E) = es at nd ⊢
    have hne : S.length ≠ (S ++ [Ob.dK m1]).length := by rw [List.length_append]; simp
    have hz : m1.length + m2.length ≤ LIM := by decide
    simp only [ex, ev, g2, Res.bind_ok, deref, a1, mty, nd, mthD, if_true, updD, a2, a3, mg, st, Out.of]
    rw [if_pos ⟨hne, hz⟩]
  have all : exs F b__law_is_row (startE [.tup (.str w :: ps), .int k] 5) S = .rt d (S ++ [.dK mm, .dK m2]) := by
    have h' : exs F (b__law_is_row.drop 3) en (S ++ [.dK mm, .dK m2]) = .rt d (S ++ [.dK mm, .dK m2]) := h
    unfold b__law_is_row at h' ⊢
    rw [exs, s0]
    show exs F _ _ _ = _
    rw [exs, s1]
    show exs F _ _ _ = _
    rw [exs, s2]
    exact h'
  show (match exs F b__law_is_row (startE [.tup (.str w :: ps), .int k] 5) S with | Out.nx _ S' => Res.ok D.non S' | Out.rt r S' => Res.ok r S' | _ => Res.bad) = _
  rw [all]
theorem v_tail (n : Nat) (hd : okB (.tup (.str w :: ps)) = true) (hdep : dep (.tup (.str w :: ps)) ≤ 64) :
    callAt T (n + 4) 38 [.tup (.str w :: ps), .int k] S = .ok (.bl (match manyOf w with | some (.int m) => ((ps.length : Int) == m) && allL k w ps | _ => false)) (S ++ [.dK mm, .dK m2]) ∨ ∃ e, manyOf w = some e ∧ ∀ m, e ≠ .int m := by
  by_cases hbad : ∃ e, manyOf w = some e ∧ ∀ m, e ≠ .int m
  · exact .inr hbad
  refine .inl (v_head n hd hdep ?_)
  generalize hS : S ++ [Ob.dK mm, Ob.dK m2] = S2
  have aS : S2[S.length]? = some (.dK mm) := by rw [← hS]; exact at_more
  have hdat := ok_dat _ hd
  have hps := row_oks hd
  have hl : ps.length ≤ 1000 := by have := (ok_tup hd).1; simp only [List.length_cons] at this; omega
  generalize hen : ([some (.tup (.str w :: ps)), some (.int k), some (.ref S.length), none, none] : Env) = en
  have v0 : Pv (callAt T (n + 3)) en S2 (.var 0) (.tup (.str w :: ps)) := pv_var (by rw [← hen]; rfl)
  have v2 : Pv (callAt T (n + 3)) en S2 (.var 2) (.ref S.length) := pv_var (by rw [← hen]; rfl)
  have i0 : Pv (callAt T (n + 3)) en S2 (.ix (.var 0) (.con (.int 0))) (.str w) := pv_ix v0 (pv_con (d := .int 0)) (by show ixD (.tup (.str w :: ps)) (.int 0) = _; simp only [ixD, atI_0])
  have dr : deref S2 (.ref S.length) = .dct (mm.map (·.1)) (mm.map (·.2)) := by simp only [deref, aS]
  have c1 : Pv (callAt T (n + 3)) en S2 (.cmp .notin (.ix (.var 0) (.con (.int 0))) (.var 2)) (.bl (!(manyOf w).isSome)) := pv_cmp i0 v2 (by rw [cmp_notin, dr]; rfl)
  cases hm : manyOf w with
  | none =>
    rw [hm] at c1
    have q := pv_or (y := true) (b := .cmp .ne (.blt .len [.var 0]) (.bin .add (.con (.int 1)) (.ix (.var 2) (.ix (.var 0) (.con (.int 0)))))) c1 fun z => by cases z
    exact pb_if q (fun _ => pb_ret pv_con) fun z => by cases z
  | some e =>
    have he : ∃ m, e = .int m := by
      by_cases h : ∃ m, e = .int m
      · exact h
      · exact absurd ⟨e, hm, fun m z => h ⟨m, z⟩⟩ hbad
    obtain ⟨m, rfl⟩ := he
    rw [hm] at c1
    have i2 : Pv (callAt T (n + 3)) en S2 (.ix (.var 2) (.ix (.var 0) (.con (.int 0)))) (.int m) := pv_ix v2 i0 (by rw [dr]; exact hm)
    have c2 : Pv (callAt T (n + 3)) en S2 (.cmp .ne (.blt .len [.var 0]) (.bin .add (.con (.int 1)) (.ix (.var 2) (.ix (.var 0) (.con (.int 0)))))) (.bl (!((ps.length : Int) == m))) := by
      refine pv_cmp (pv_blt (d := .int ((D.str w :: ps).length : Nat)) (pvs_1 v0) rfl) (pv_bin (d := .int (1 + m)) pv_con i2 rfl) ?_
      show cmpD .ne (.int _) (.int _) = _
      simp only [cmpD, eqD_int, Option.map_some]
      refine congrArg (fun z => some (!z)) ?_
      by_cases h : (ps.length : Int) = m
      · rw [beq_iff_eq.mpr h]; exact beq_iff_eq.mpr (by simp only [List.length_cons]; omega)
      · rw [beq_eq_false_iff_ne.mpr h]; exact beq_eq_false_iff_ne.mpr (by simp only [List.length_cons]; omega)
    have q := pv_or c1 fun _ => c2
    show Pb _ _ _ _ (.bl (((ps.length : Int) == m) && allL k w ps))
    cases hlen : ((ps.length : Int) == m) with
    | false =>
      rw [hlen] at q
      exact pb_if q (fun _ => pb_ret pv_con) fun z => by cases z
    | true =>
      rw [hlen] at q
      refine pb_if q (fun z => by cases z) fun _ => ?_
      have hcut : slD (some 1) none (.tup (.str w :: ps)) = some (.tup ps) := by
        simp only [slD, cutD]
        have e1 : HT.sIx (D.str w :: ps).length 0 (some 1) = min 1 (D.str w :: ps).length := HT.sIx_nat _ 0 1
        rw [e1, HT.sIx_none, Nat.min_eq_left (by simp only [List.length_cons]; omega), List.take_of_length_le (by rw [List.length_drop]; exact Nat.le_refl _)]
        rfl
      let f : D → Bool := fun z => match z with | .tup [.int i, p] => partL k w i p | _ => false
      have hall : allL k w ps = (((List.range ps.length).zip ps).map fun p => D.tup [.int (p.1 : Nat), p.2]).all f := by
        rw [List.all_map]; rfl
      rw [Bool.true_and, hall]
      refine pb_ret (pv_blt (pvs_1 (pv_comp (g := fun z => .bl (f z)) (pvs_1 (pv_sl (d := .tup ps) v0 (pvs_1 (pv_con (d := .int 1))) pvs_nil rfl rfl hcut)) (show itD .enum [.tup ps] = some (((List.range ps.length).zip ps).map fun p => D.tup [.int (p.1 : Nat), p.2]) from rfl) (by rw [List.length_map, List.length_zip]; omega) fun x hx => ?_)) (all_map _))
      obtain ⟨⟨i, p⟩, hip, rfl⟩ := List.mem_map.mp hx
      have hp : okB p = true := oks_mem hps (List.of_mem_zip hip).2
      subst hen
      exact ⟨[some (.tup (.str w :: ps)), some (.int k), some (.ref S.length), some (.int (i : Nat)), some p], rfl, pv_call (pvs_cons (pv_ix (pv_var (d := .tup (.str w :: ps)) rfl) (pv_con (d := .int 0)) (by show ixD (.tup (.str w :: ps)) (.int 0) = _; simp only [ixD, atI_0])) (pvs_cons (pv_var (d := .int (i : Nat)) rfl) (pvs_2 (pv_var (d := p) rfl) (pv_var (d := .int k) rfl)))) (v_part n hp)⟩
end

end MP

set_option maxHeartbeats 0
namespace MP
open PySem L2

/-! the two looks at a row are one -/
theorem whole_count {p : D} (h : okB p = true) : wholeB 0 GR p = isCount p := by
  cases p <;> try rfl
  rename_i i
  simp only [okB, Bool.and_eq_true, decide_eq_true_iff] at h
  show (decide (0 ≤ i) && decide (i < GR)) = decide (0 ≤ i)
  rw [decide_eq_true h.2, Bool.and_true]
theorem whole_any {p : D} (h : okB p = true) : wholeB (0 - GR) GR p = (isIntT p && !isBlT p) := by
  cases p <;> try rfl
  rename_i i
  simp only [okB, Bool.and_eq_true, decide_eq_true_iff] at h
  show (decide (0 - GR ≤ i) && decide (i < GR)) = true
  rw [decide_eq_true h.2, decide_eq_true (by show (0 : Int) - 1000000000000 ≤ i; omega)]; rfl
theorem whole_below (k : Int) (p : D) : wholeB 0 k p = isBelow k p := by cases p <;> rfl
theorem hand_how (k : Int) (p : D) : handL k p = howB k p := by
  cases p <;> try rfl
  rename_i xs
  match xs with
  | [] => rfl
  | [_] => rfl
  | [a, b] =>
    show (wholeB 0 k a && maskL b) = (isBelow k a && maskB b)
    rw [whole_below, mask_eq]
  | _ :: _ :: _ :: _ => rfl
theorem all_0 (k : Int) (w : Str) (ps : List D) : (((ps.length : Int) == 0) && allL k w ps) = ps.isEmpty := by
  cases ps with
  | nil => rfl
  | cons a r => rw [show ((((a :: r).length : Int)) == 0) = false from beq_eq_false_iff_ne.mpr (by simp only [List.length_cons]; omega)]; rfl
theorem all_1 (k : Int) (w : Str) {g : D → Bool} (ps : List D) (h : ∀ a, ps = [a] → partL k w 0 a = g a) : (((ps.length : Int) == 1) && allL k w ps) = one g ps := by
  match ps, h with
  | [], _ => rfl
  | [a], h =>
    show (true && (partL k w 0 a && true)) = g a
    rw [h a rfl, Bool.and_true, Bool.true_and]
  | a :: b :: r, _ => rw [show ((((a :: b :: r).length : Int)) == 1) = false from beq_eq_false_iff_ne.mpr (by simp only [List.length_cons]; omega)]; rfl
theorem all_2 (k : Int) (w : Str) {g : D → D → Bool} (ps : List D) (h : ∀ a b, ps = [a, b] → (partL k w 0 a && partL k w 1 b) = g a b) : (((ps.length : Int) == 2) && allL k w ps) = two g ps := by
  match ps, h with
  | [], _ => rfl
  | [_], _ => rfl
  | [a, b], h =>
    show (true && (partL k w 0 a && (partL k w 1 b && true))) = g a b
    rw [← h a b rfl, Bool.and_true, Bool.true_and]
  | a :: b :: c :: r, _ => rw [show ((((a :: b :: c :: r).length : Int)) == 2) = false from beq_eq_false_iff_ne.mpr (by simp only [List.length_cons]; omega)]; rfl
/-- THE LAW'S LOOK AT A ROW -/
theorem v_is_row (n : Nat) {S : Store} {k : Int} {d : D} (h : okB d = true) (hdep : dep d ≤ 64) : ∃ Z, callAt T (n + 4) 38 [d, .int k] S = .ok (.bl (rowB k d)) (S ++ Z) := by
  have hdat := ok_dat _ h
  by_cases ht : ∃ w ps, d = .tup (.str w :: ps)
  · obtain ⟨w, ps, rfl⟩ := ht
    have hps := row_oks h
    refine ⟨[.dK mm, .dK m2], ?_⟩
    have o1 : ∀ a, ps = [a] → okB a = true := fun a e => by subst e; exact oks_one hps
    have o2 : ∀ a b, ps = [a, b] → okB a = true ∧ okB b = true := fun a b e => by subst e; exact oks_two hps
    have key : ∀ (m : Int) (r : Bool), manyOf w = some (.int m) → (((ps.length : Int) == m) && allL k w ps) = r → rowB k (.tup (.str w :: ps)) = r → callAt T (n + 4) 38 [.tup (.str w :: ps), .int k] S = .ok (.bl (rowB k (.tup (.str w :: ps)))) (S ++ [.dK mm, .dK m2]) := fun m r h1 h2 h3 => by
      rcases v_tail (S := S) (k := k) n h hdep with q | ⟨e, q1, q2⟩
      · rw [q, h1, h3, ← h2]
      · rw [h1] at q1; cases q1; exact absurd rfl (q2 m)
    by_cases c1 : w = ("exec" : Str)
    · subst c1; exact key 1 (one titleB ps) (by kernel_rfl) (all_1 k _ ps fun a e => (show partL k "exec" 0 a = titleL a by kernel_rfl).trans (title_eq a)) (by kernel_rfl)
    by_cases c2 : w = ("end" : Str)
    · subst c2; exact key 1 (one (isBelow 100) ps) (by kernel_rfl) (all_1 k _ ps fun a e => (show partL k "end" 0 a = wholeB 0 100 a by kernel_rfl).trans (whole_below 100 a)) (by kernel_rfl)
    by_cases c3 : w = ("wait" : Str)
    · subst c3; exact key 2 (two (fun a b => (noneB a || isCount a) && isBlT b) ps) (by kernel_rfl) (all_2 k _ ps fun a b e => by
        rw [show partL k "wait" 0 a = (noneB a || wholeB 0 GR a) by kernel_rfl, show partL k "wait" 1 b = isBlT b by kernel_rfl, whole_count (o2 a b e).1]) (by kernel_rfl)
    by_cases c4 : w = ("send" : Str)
    · subst c4; exact key 2 (two (fun a b => oneOf sigs9 a && (isCount b || oneOf [.str "self", .str "parent", .str "group"] b)) ps) (by kernel_rfl) (all_2 k _ ps fun a b e => by
        rw [show partL k "send" 0 a = oneOf sigs9 a by kernel_rfl, show partL k "send" 1 b = (wholeB 0 GR b || oneOf [.str "self", .str "parent", .str "group"] b) by kernel_rfl, whole_count (o2 a b e).2]) (by kernel_rfl)
    by_cases c5 : w = ("mask" : Str)
    · subst c5; exact key 1 (one maskB ps) (by kernel_rfl) (all_1 k _ ps fun a e => (show partL k "mask" 0 a = maskL a by kernel_rfl).trans (mask_eq a)) (by kernel_rfl)
    by_cases c6 : w = ("unmask" : Str)
    · subst c6; exact key 1 (one maskB ps) (by kernel_rfl) (all_1 k _ ps fun a e => (show partL k "unmask" 0 a = maskL a by kernel_rfl).trans (mask_eq a)) (by kernel_rfl)
    by_cases c7 : w = ("handle" : Str)
    · subst c7; exact key 2 (two (fun a b => masky a && howB k b) ps) (by kernel_rfl) (all_2 k _ ps fun a b e => by
        rw [show partL k "handle" 0 a = oneOf sigs7 a by kernel_rfl, show partL k "handle" 1 b = handL k b by kernel_rfl, hand_how, masky_eq]) (by kernel_rfl)
    by_cases c8 : w = ("group" : Str)
    · subst c8; exact key 2 (two (fun a b => isWho a && oneOf [.str "new", .str "mine"] b) ps) (by kernel_rfl) (all_2 k _ ps fun a b e => by
        rw [show partL k "group" 0 a = (wholeB 0 GR a || oneOf [.str "self"] a) by kernel_rfl, show partL k "group" 1 b = oneOf [.str "new", .str "mine"] b by kernel_rfl, whole_count (o2 a b e).1]; rfl) (by kernel_rfl)
    by_cases c9 : w = ("front" : Str)
    · subst c9; exact key 1 (one isWho ps) (by kernel_rfl) (all_1 k _ ps fun a e => by
        rw [show partL k "front" 0 a = (wholeB 0 GR a || oneOf [.str "self"] a) by kernel_rfl, whole_count (o1 a e)]; rfl) (by kernel_rfl)
    by_cases c10 : w = ("say" : Str)
    · subst c10; exact key 1 (one (isBelow 100) ps) (by kernel_rfl) (all_1 k _ ps fun a e => (show partL k "say" 0 a = wholeB 0 100 a by kernel_rfl).trans (whole_below 100 a)) (by kernel_rfl)
    by_cases c11 : w = ("goto" : Str)
    · subst c11; exact key 1 (one (isBelow k) ps) (by kernel_rfl) (all_1 k _ ps fun a e => (show partL k "goto" 0 a = wholeB 0 k a by kernel_rfl).trans (whole_below k a)) (by kernel_rfl)
    by_cases c12 : w = ("if" : Str)
    · subst c12; exact key 2 (two (fun a b => (isIntT a && !isBlT a) && isBelow k b) ps) (by kernel_rfl) (all_2 k _ ps fun a b e => by
        rw [show partL k "if" 0 a = wholeB (0 - GR) GR a by kernel_rfl, show partL k "if" 1 b = wholeB 0 k b by kernel_rfl, whole_any (o2 a b e).1, whole_below]) (by kernel_rfl)
    by_cases d1 : w = ("fork" : Str)
    · subst d1; exact key 0 ps.isEmpty (by kernel_rfl) (all_0 k _ ps) (by kernel_rfl)
    by_cases d2 : w = ("pause" : Str)
    · subst d2; exact key 0 ps.isEmpty (by kernel_rfl) (all_0 k _ ps) (by kernel_rfl)
    by_cases d3 : w = ("read" : Str)
    · subst d3; exact key 0 ps.isEmpty (by kernel_rfl) (all_0 k _ ps) (by kernel_rfl)
    by_cases d4 : w = ("return" : Str)
    · subst d4; exact key 0 ps.isEmpty (by kernel_rfl) (all_0 k _ ps) (by kernel_rfl)
    by_cases d5 : w = ("session" : Str)
    · subst d5; exact key 0 ps.isEmpty (by kernel_rfl) (all_0 k _ ps) (by kernel_rfl)
    by_cases d6 : w = ("taker" : Str)
    · subst d6; exact key 0 ps.isEmpty (by kernel_rfl) (all_0 k _ ps) (by kernel_rfl)
    have e : ∀ y : Str, w ≠ y → ¬ (Sum.inr y : Key) = Sum.inr w := fun y hy z => hy (Sum.inr.inj z).symm
    have hm : manyOf w = none := by
      unfold manyOf
      simp only [mm, m1, m2, List.cons_append, List.nil_append, List.map_cons, List.map_nil, lookK]
      rw [if_neg (e _ c1), if_neg (e _ c2), if_neg (e _ c3), if_neg (e _ c4), if_neg (e _ c5), if_neg (e _ c6), if_neg (e _ c7), if_neg (e _ c8), if_neg (e _ c9), if_neg (e _ c10), if_neg (e _ c11), if_neg (e _ c12), if_neg (e _ d1), if_neg (e _ d2), if_neg (e _ d3), if_neg (e _ d4), if_neg (e _ d5), if_neg (e _ d6)]
    have f : ∀ y : Str, w ≠ y → (y == w) = false := fun y hy => beq_eq_false_iff_ne.mpr (Ne.symm hy)
    have hr : rowB k (.tup (.str w :: ps)) = false := by
      have hb : bareB w = false := by
        show ((("fork" : Str) == w) || ((("pause" : Str) == w) || ((("read" : Str) == w) || ((("return" : Str) == w) || ((("session" : Str) == w) || ((("taker" : Str) == w) || false)))))) = false
        rw [f _ d1, f _ d2, f _ d3, f _ d4, f _ d5, f _ d6]; rfl
      show (if bareB w = true then ps.isEmpty else formB k w ps) = false
      rw [hb, if_neg (by decide)]
      unfold formB; rw [if_neg c1, if_neg c2, if_neg c3, if_neg c4, if_neg c5, if_neg c6, if_neg c7, if_neg c8, if_neg c9, if_neg c10, if_neg c11, if_neg c12]
    rw [hr]
    rcases v_tail (S := S) (k := k) n h hdep with q | ⟨e, q1, q2⟩
    · rw [q, hm]
    · rw [hm] at q1; cases q1
  · have e : rowB k d = false := by
      cases d <;> try rfl
      rename_i xs
      cases xs with
      | nil => rfl
      | cons x ps => cases x <;> first | rfl | exact absurd ⟨_, _, rfl⟩ ht
    rw [e]
    refine ⟨[], ?_⟩
    rw [List.append_nil]
    refine call_pb (fd := ⟨2, 5, b__law_is_row⟩) rfl rfl ?_
    have q : ∃ _u : Unit, Pv (callAt T (n + 3)) (startE [d, .int k] 5) S (.or (.not (.blt .isinst [.var 0, .con (.ty "tuple")])) (.or (.cmp .eq (.var 0) (.tup [])) (.not (.blt .isinst [.ix (.var 0) (.con (.int 0)), .con (.ty "str")])))) (.bl true) := by
      by_cases hx : ∃ xs, d = .tup xs
      · obtain ⟨xs, rfl⟩ := hx
        have e0 : Pv (callAt T (n + 3)) (startE [.tup xs, .int k] 5) S (.cmp .eq (.var 0) (.tup [])) (.bl (eqB (.tup xs) (.tup []))) := pv_cmp (o := .eq) (pv_var (i := 0) (d := .tup xs) rfl) (pv_tup pvs_nil (by decide)) (by show cmpD .eq (.tup xs) (.tup []) = _; simp only [cmpD]; cases xs <;> rfl)
        cases xs with
        | nil => exact ⟨(), pv_or (x := false) (y := true) (pv_not (pv_istup (pv_var (i := 0) rfl) hdat)) fun _ => pv_or (x := true) (y := true) e0 fun z => by cases z⟩
        | cons x ps =>
          have es : isStrT x = false := by cases x <;> first | rfl | exact absurd ⟨_, _, rfl⟩ ht
          have hxd : datB x = true := datsB_mem (by simpa only [datB] using hdat) List.mem_cons_self
          have i0 : Pv (callAt T (n + 3)) (startE [.tup (x :: ps), .int k] 5) S (.ix (.var 0) (.con (.int 0))) x := pv_ix (pv_var (d := .tup (x :: ps)) rfl) (pv_con (d := .int 0)) (by show ixD (.tup (x :: ps)) (.int 0) = _; simp only [ixD, atI_0])
          have q := pv_not (pv_isstr i0 hxd)
          rw [es] at q
          exact ⟨(), pv_or (x := false) (y := true) (pv_not (pv_istup (pv_var (i := 0) rfl) hdat)) fun _ => pv_or (x := false) (y := true) e0 fun _ => q⟩
      · have e2 : isTupT d = false := by cases d <;> first | rfl | exact absurd ⟨_, rfl⟩ hx
        have q := pv_or (y := true) (b := .or (.cmp .eq (.var 0) (.tup [])) (.not (.blt .isinst [.ix (.var 0) (.con (.int 0)), .con (.ty "str")]))) (pv_not (pv_istup (F := callAt T (n + 3)) (S := S) (env := startE [d, .int k] 5) (pv_var (i := 0) rfl) hdat)) fun z => by rw [e2] at z; cases z
        rw [e2] at q
        exact ⟨(), q⟩
    obtain ⟨_, q⟩ := q
    exact pb_if q (fun _ => pb_ret pv_con) fun z => by cases z

end MP

set_option maxHeartbeats 0
namespace MP
open PySem L2

/-! what the law draws -/
theorem T_pick : T[27]? = some ⟨2, 4, bPick⟩ := rfl
theorem T_of : T[28]? = some ⟨2, 2, bOf 27⟩ := rfl
theorem T_hand : T[26]? = some ⟨1, 3, bHand⟩ := rfl
theorem tl_joinL : ∀ cs : List Nat, TL.joinL [] (cs.map fun c => [c]) = cs
  | [] => rfl
  | [c] => rfl
  | c :: e :: r => by
    show [c] ++ ([] ++ TL.joinL [] ((e :: r).map fun c => [c])) = c :: e :: r
    rw [tl_joinL (e :: r)]; rfl
theorem join_singles (cs : List Nat) : (Txt.join ("" : Str) (cs.map fun c => (⟨#[c]⟩ : Str))).cps.toList = cs := by
  rw [TL.join_eq]
  show TL.tl _ = _
  rw [TL.tl_join, List.map_map]
  exact tl_joinL cs
theorem singles_of {B : Nat → Prop} : ∀ {ys : List D}, (∀ y ∈ ys, ∃ c, y = .str ⟨#[c]⟩ ∧ B c) → ∃ cs : List Nat, ys = cs.map (fun c => .str ⟨#[c]⟩) ∧ ∀ c ∈ cs, B c
  | [], _ => ⟨[], rfl, fun _ h => by cases h⟩
  | y :: ys, h => by
    obtain ⟨c, rfl, hc⟩ := h y List.mem_cons_self
    obtain ⟨cs, rfl, hcs⟩ := singles_of fun z hz => h z (List.mem_cons_of_mem _ hz)
    exact ⟨c :: cs, rfl, fun z hz => by rcases List.mem_cons.mp hz with rfl | hz; exact hc; exact hcs z hz⟩
theorem mapM_singles : ∀ cs : List Nat, (cs.map fun c => D.str ⟨#[c]⟩).mapM strOf = some (cs.map fun c => (⟨#[c]⟩ : Str))
  | [] => rfl
  | c :: cs => by rw [List.map_cons, List.mapM_cons, mapM_singles cs]; rfl
theorem sum_ones : ∀ cs : List Nat, ((cs.map fun c => (⟨#[c]⟩ : Str)).map (·.length)).sum = cs.length
  | [] => rfl
  | c :: cs => by
    rw [List.map_cons, List.map_cons, List.sum_cons, sum_ones cs, List.length_cons]
    show 1 + _ = _
    omega
theorem oks_all : ∀ {ys : List D}, (∀ y ∈ ys, okB y = true) → oksB ys = true
  | [], _ => rfl
  | y :: ys, h => by simp only [oksB, h y List.mem_cons_self, oks_all fun z hz => h z (List.mem_cons_of_mem _ hz)]; rfl
/-- a small part -/
def p9B (n : Nat) (d : D) : Bool := okB d && (shB 1000000000 9 d && (decide (wt d ≤ n) && asB true d))
theorem p9_of {n : Nat} {d : D} (h1 : okB d = true) (h2 : shB 1000000000 9 d = true) (h3 : wt d ≤ n) (h4 : asB true d = true) : p9B n d = true := by
  unfold p9B
  rw [h1, h2, decide_eq_true h3, h4]; rfl
theorem p9_inv {n : Nat} {d : D} (h : p9B n d = true) : okB d = true ∧ shB 1000000000 9 d = true ∧ wt d ≤ n ∧ asB true d = true := by
  unfold p9B at h
  simp only [Bool.and_eq_true, decide_eq_true_iff] at h
  exact h
theorem p9_int {i : Int} (h0 : -1000000000 ≤ i) (h1 : i ≤ 1000000000) : p9B 64 (.int i) = true :=
  p9_of (by simp only [okB, Bool.and_eq_true, decide_eq_true_iff]; omega) (by simp only [shB, decide_eq_true_iff]; omega) (Nat.le_refl _) rfl
/-- a drawn child's number -/
def Child (d : D) : Prop := ∃ i : Int, d = .int i ∧ 0 ≤ i ∧ i < 1000000000
theorem Child.ok {d : D} (h : Child d) : p9B 64 d = true ∧ isCount d = true := by
  obtain ⟨i, rfl, h0, h1⟩ := h
  exact ⟨p9_int (by omega) (by omega), decide_eq_true h0⟩
section
variable {B : Store} {l m n : Nat} {env : Env}
theorem hv_child (h0 : env[0]? = some (some (.ref l))) : Hv B l m (callAt T (n + 2)) env (.call 28 [.var 0, .lst [.con (.int 0), .con (.int 0), .con (.int 1), .con (.int 2), .con (.int 9), .con (.int 12), .con (.int 999999999)]]) Child :=
  hv_of T_pick T_of h0 (hv_pure (d := .lst [.int 0, .int 0, .int 1, .int 2, .int 9, .int 12, .int 999999999]) (fun S => pv_lst (pvs_cons pv_con (pvs_cons pv_con (pvs_cons pv_con (pvs_cons pv_con (pvs_cons pv_con (pvs_2 pv_con pv_con)))))) (by decide)) ⟨_, .inl rfl, by decide, by decide, fun x hx => by
    simp only [List.mem_cons, List.not_mem_nil, or_false] at hx
    rcases hx with rfl | rfl | rfl | rfl | rfl | rfl | rfl <;> exact ⟨_, rfl, by decide, by decide⟩⟩)
/-- one of some texts that stand there -/
theorem hv_ofC (h0 : env[0]? = some (some (.ref l))) {es : List E} {xs : List D} (he : ∀ S, Pvs (callAt T (n + 2)) env S es xs) (x0 : 0 < xs.length) (x1 : xs.length ≤ 100000) {P : D → Prop} (hP : ∀ x ∈ xs, P x) : Hv B l m (callAt T (n + 2)) env (.call 28 [.var 0, .lst es]) P :=
  hv_of T_pick T_of h0 (hv_pure (d := .lst xs) (fun S => pv_lst (he S) x1) ⟨xs, .inl rfl, x0, x1, hP⟩)
/-! drawn signals -/
def Mask (d : D) : Prop := maskB d = true ∧ p9B 40 d = true
theorem mask_sub {ys : List D} (h : ys.Sublist sigs7) : Mask (.tup ys) := by
  have ho : ∀ y ∈ ys, oneOf sigs7 y = true ∧ okB y = true := fun y hy => by
    have := h.subset hy
    simp only [sigs7, List.mem_cons, List.not_mem_nil, or_false] at this
    rcases this with rfl | rfl | rfl | rfl | rfl | rfl | rfl <;> exact ⟨by kernel_rfl, by kernel_rfl⟩
  constructor
  · rw [← mask_eq]
    show (ys.all (oneOf sigs7) && (pairsOf (ys.map fun z => D.int (ixOf z : Nat))).all stepB) = true
    have e2 : (ys.map fun z => D.int (ixOf z : Nat)) = (ys.map ixOf).map fun (n : Nat) => D.int (n : Nat) := by rw [List.map_map]; rfl
    rw [List.all_eq_true.mpr fun y hy => (ho y hy).1, e2, pairs_inc, Bool.true_and]
    refine (inc_pw _).mpr (List.Pairwise.sublist (h.map ixOf) ?_)
    have : sigs7.map ixOf = List.range 7 := by kernel_rfl
    rw [this]
    exact List.pairwise_lt_range
  · have hsh : ∀ y ∈ sigs7, shB 1000000000 9 y = true := fun y hy => by
      simp only [sigs7, List.mem_cons, List.not_mem_nil, or_false] at hy
      rcases hy with rfl | rfl | rfl | rfl | rfl | rfl | rfl <;> kernel_rfl
    have hl := h.length_le
    have hw := wts_sub h
    have e7 : sigs7.length = 7 := rfl
    have w7 : wts sigs7 = 33 := by kernel_rfl
    refine p9_of ?_ ?_ ?_ ?_
    · simp only [okB, Bool.and_eq_true, decide_eq_true_iff]
      exact ⟨by omega, oks_all fun y hy => (ho y hy).2⟩
    · simp only [shB, Bool.and_eq_true, decide_eq_true_iff]
      exact ⟨by omega, shs_of fun y hy => hsh y (h.subset hy)⟩
    · simp only [wt]; omega
    · simp only [asB]
      refine ass_of fun y hy => ?_
      have hy := h.subset hy
      simp only [sigs7, List.mem_cons, List.not_mem_nil, or_false] at hy
      rcases hy with rfl | rfl | rfl | rfl | rfl | rfl | rfl <;> kernel_rfl
theorem d_signals {S : Store} (H : HandB B S l m) : ∃ d S', callAt T (n + 2) 29 [.ref l] S = .ok d S' ∧ Mask d ∧ HandB B S' l m := by
  refine call_hb (fd := ⟨1, 4, b__law_signals⟩) rfl rfl ?_ H
  refine hb_asg (A := fun d => d = .tup sigs7) (hv_pure (fun S => pv_tup (pvs_cons pv_con (pvs_cons pv_con (pvs_cons pv_con (pvs_cons pv_con (pvs_cons pv_con (pvs_2 pv_con pv_con)))))) (by decide)) rfl) fun d hd => ?_
  subst hd
  refine ⟨_, rfl, hb_asg (A := fun d => ∃ i : Int, d = .int i ∧ 2 ≤ i ∧ i < 5) (hv_bin (A := fun d => d = .int 2) (hv_pure (fun S => pv_con) rfl) fun d1 e1 => hv_pick (k := 3) T_pick rfl (fun S => pv_con) (by decide) (by decide) fun i i0 i1 => ?_) fun d ⟨i, e, i0, i1⟩ => ?_⟩
  · subst e1
    exact ⟨.int (2 + i), fun S => rfl, 2 + i, rfl, by omega, by omega⟩
  · subst e
    refine ⟨_, rfl, hb_ret (hv_blt (hvs_cons (A := fun d => ∃ ys : List D, d = .lst ys ∧ ys.Sublist sigs7) (hv_compF (hvs_pure (ds := [.tup sigs7]) (fun S => pvs_1 (pv_var rfl)) ⟨sigs7, rfl, by decide, fun z hz => ⟨_, rfl, ?_, fun S => pv_var rfl⟩, fun ys hys => ⟨ys, rfl, hys⟩⟩)) fun d ⟨ys, e, hys⟩ => hvs_nil ?_))⟩
    · refine hv_cmp (A := fun d => ∃ i : Int, d = .int i) (hv_pick (k := i) T_pick rfl (fun S => pv_var rfl) (by omega) (by omega) fun i _ _ => ⟨i, rfl⟩) fun d1 ⟨j, e⟩ => hv_pure (fun S => pv_con) ?_
      subst e
      exact ⟨_, fun S => (by show cmpD .eq (.int j) (.int 0) = _; simp only [cmpD]; exact eqD_int j 0), _, rfl⟩
    · subst e
      exact ⟨.tup ys, fun S => rfl, mask_sub hys⟩
end

end MP

set_option maxHeartbeats 0
namespace MP
open PySem L2

/-! the drawn parts, word by word -/
structure PartsOk (k : Int) (w : Str) (ps : List D) : Prop where
  row : rowB k (.tup (.str w :: ps)) = true
  oks : oksB ps = true
  sh : shsB 1000000000 9 ps = true
  as : assB true ps = true
  wt : wts ps ≤ 132
  len : ps.length ≤ 5
  dep : deps ps ≤ 5
def Parts (k : Int) (w : Str) (d : D) : Prop := ∃ ps, d = .tup ps ∧ PartsOk k w ps
theorem mask_dep {d : D} (h : Mask d) : dep d ≤ 1 := by
  obtain ⟨h1, h9⟩ := h
  clear h9
  cases d <;> try (cases h1; done)
  rename_i xs
  have h2 : xs.all masky = true := by
    have h3 : (xs.all masky && eqsB xs (sigs9.filter fun s => inF s xs)) = true := h1
    exact (Bool.and_eq_true_iff.mp h3).1
  simp only [dep, deps_strs (strs_of h2)]
  decide
theorem child_dep {d : D} (h : Child d) : dep d = 0 := by obtain ⟨i, rfl, _⟩ := h; rfl
section
variable {B : Store} {l m n : Nat} {k : Int}
theorem int_ok {i : Int} (h0 : 0 ≤ i) (h1 : i ≤ 1000000) : p9B 64 (.int i) = true := p9_int (by omega) (by omega)
theorem below_ok {i j : Int} (h0 : 0 ≤ i) (h1 : i < j) : isBelow j (.int i) = true := by
  show (decide (0 ≤ i) && decide (i < j)) = true
  rw [decide_eq_true h0, decide_eq_true h1]; rfl
theorem row_1 {w : Str} {a : D} {n : Nat} (h : rowB k (.tup [.str w, a]) = true) (o : p9B n a = true) (d : dep a ≤ 4) (hn : n ≤ 120 := by decide) : PartsOk k w [a] := by
  obtain ⟨o1, o2, o3, o4⟩ := p9_inv o
  exact ⟨h, by simp only [oksB, o1]; rfl, by simp only [shsB, o2]; rfl, by simp only [assB, o4]; rfl, by simp only [wts]; omega, by show 1 ≤ 5; decide, by simp only [deps]; omega⟩
theorem row_2 {w : Str} {a b : D} {n n2 : Nat} (h : rowB k (.tup [.str w, a, b]) = true) (o : p9B n a = true) (o2 : p9B n2 b = true) (d : dep a ≤ 4) (d2 : dep b ≤ 4) (hn : n + n2 ≤ 130 := by decide) : PartsOk k w [a, b] := by
  obtain ⟨q1, q2, q3, q4⟩ := p9_inv o
  obtain ⟨r1, r2, r3, r4⟩ := p9_inv o2
  exact ⟨h, by simp only [oksB, q1, r1]; rfl, by simp only [shsB, q2, r2]; rfl, by simp only [assB, q4, r4]; rfl, by simp only [wts]; omega, by show 2 ≤ 5; decide, by simp only [deps]; omega⟩
theorem d_p_exec {S : Store} (H : HandB B S l m) (k0 : 0 < k) (k1 : k ≤ 40) : ∃ d S', callAt T (n + 4) 30 [.ref l, .str "exec", .int k] S = .ok d S' ∧ Parts k "exec" d ∧ HandB B S' l m := by
  refine call_hb (fd := ⟨3, 7, b__law_parts⟩) rfl rfl (hb_asg (hv_child rfl) fun ch hch => ⟨_, rfl, ?_⟩) H
  refine hb_ifT (fun S => by unfold Pv; kernel_rfl) ?_
  refine hb_ret (hv_tup (hvs_cons (A := fun d => ∃ cs : List Nat, d = .str (Txt.join ("" : Str) (cs.map fun c => (⟨#[c]⟩ : Str))) ∧ 1 ≤ cs.length ∧ cs.length ≤ 8 ∧ ∀ c ∈ cs, c ∈ ("abcmnxyz" : Str).cps.toList) (hv_mth (hv_pure (d := .str "") (fun S => pv_con) ⟨fun S => rfl, hvs_cons (A := fun d => ∃ cs : List Nat, d = .lst (cs.map fun c => .str ⟨#[c]⟩) ∧ 1 ≤ cs.length ∧ cs.length ≤ 8 ∧ ∀ c ∈ cs, c ∈ ("abcmnxyz" : Str).cps.toList)
    (hv_comp (G := fun y => ∃ c, y = .str ⟨#[c]⟩ ∧ c ∈ ("abcmnxyz" : Str).cps.toList) (hvs_cons (A := fun d => ∃ i : Int, d = .int i ∧ 1 ≤ i ∧ i ≤ 8) (hv_bin (A := fun d => d = .int 1) (hv_pure (fun S => pv_con) rfl) fun d1 e1 => hv_pick (k := 8) T_pick rfl (fun S => pv_con) (by decide) (by decide) fun i i0 i1 => ⟨.int (1 + i), fun S => by subst e1; rfl, 1 + i, rfl, by omega, by omega⟩) fun d ⟨i, e, i0, i1⟩ => hvs_nil ?_)) fun d ⟨cs, e, c0, c1, c2⟩ => hvs_nil ?_⟩) (by intro z; cases z) rfl) fun d ⟨cs, e, c0, c1, c2⟩ => hvs_nil ?_))
  · subst e
    refine ⟨rangeD 0 i, ?_, ?_, ?_, ?_⟩
    · show (if -1000000 ≤ i ∧ i ≤ 1000000 then some (rangeD 0 i) else none) = _
      rw [if_pos (by omega)]
    · unfold rangeD; rw [List.length_map, List.length_range]; omega
    · intro z hz
      exact ⟨_, rfl, hv_ofS T_pick T_of rfl (fun S => pv_con) (by decide) (by decide) fun c hc => ⟨c, rfl, hc⟩⟩
    · intro ys hl hys
      obtain ⟨cs, rfl, hcs⟩ := singles_of hys
      refine ⟨cs, rfl, ?_, ?_, hcs⟩ <;> (unfold rangeD at hl; rw [List.length_map, List.length_map, List.length_range] at hl; omega)
  · subst e
    refine ⟨.str (Txt.join ("" : Str) (cs.map fun c => (⟨#[c]⟩ : Str))), fun S => ?_, cs, rfl, c0, c1, c2⟩
    show mthP .join (.str "") [.lst (cs.map fun c => .str ⟨#[c]⟩)] = _
    have hz : ((cs.map fun c => (⟨#[c]⟩ : Str)).map (·.length)).sum + (cs.map fun c => (⟨#[c]⟩ : Str)).length * ("" : Str).length ≤ LIM := by
      rw [sum_ones, List.length_map]
      show cs.length + cs.length * 0 ≤ 100000
      omega
    simp only [mthP, mapM_singles, Option.bind_some, if_pos hz]
  · subst e
    refine ⟨by show 1 ≤ 100000; decide, _, rfl, ?_⟩
    generalize hz : Txt.join ("" : Str) (cs.map fun c => (⟨#[c]⟩ : Str)) = z
    have hcp : z.cps.toList = cs := by rw [← hz]; exact join_singles cs
    have hlen : z.length = cs.length := by rw [← hcp]; simp [Str.length]
    have hsub : ∀ c ∈ ("abcmnxyz" : Str).cps.toList, c ∈ letters.cps.toList ∧ c < 128 := by decide +kernel
    refine row_1 ((show rowB k (.tup [.str "exec", .str z]) = titleB (.str z) by kernel_rfl).trans ?_) (n := 8) ?_ (Nat.zero_le _)
    · show ((decide (1 ≤ z.length) && decide (z.length ≤ 8)) && (signs z).all inLet) = true
      rw [decide_eq_true (by omega), decide_eq_true (by omega)]
      refine List.all_eq_true.mpr fun x hx => ?_
      obtain ⟨c, rfl, hc⟩ := mem_signs hx
      rw [hcp] at hc
      exact decide_eq_true (hsub c (c2 c hc)).1
    · refine p9_of (n := 8) (by simp only [okB, decide_eq_true_iff]; omega) ?_ (by simp only [wt]; omega) ?_
      · simp only [shB]
        rw [hcp]
        exact List.all_eq_true.mpr fun c hc => decide_eq_true (by have := (hsub c (c2 c hc)).2; omega)
      · simp only [asB]
        rw [hcp]
        exact List.all_eq_true.mpr fun c hc => decide_eq_true (hsub c (c2 c hc)).2
theorem d_p_end {S : Store} (H : HandB B S l m) (k0 : 0 < k) (k1 : k ≤ 40) : ∃ d S', callAt T (n + 4) 30 [.ref l, .str "end", .int k] S = .ok d S' ∧ Parts k "end" d ∧ HandB B S' l m := by
  refine call_hb (fd := ⟨3, 7, b__law_parts⟩) rfl rfl (hb_asg (hv_child rfl) fun ch hch => ⟨_, rfl, ?_⟩) H
  refine hb_ifF (fun S => by unfold Pv; kernel_rfl) ?_
  refine hb_ifT (fun S => by unfold Pv; kernel_rfl) ?_
  refine hb_ret (hv_tup (hvs_cons (A := fun d => ∃ i : Int, d = .int i ∧ 0 ≤ i ∧ i < 100) (hv_of T_pick T_of rfl (hv_lst (hvs_cons (A := fun d => d = .int 0) (hv_pure (fun S => pv_con) rfl) fun _ e0 => hvs_cons (A := fun d => d = .int 1) (hv_pure (fun S => pv_con) rfl) fun _ e1 => hvs_cons (A := fun d => d = .int 9) (hv_pure (fun S => pv_con) rfl) fun _ e2 => hvs_cons (A := fun d => d = .int 10) (hv_pure (fun S => pv_con) rfl) fun _ e3 => hvs_cons (A := fun d => d = .int 99) (hv_pure (fun S => pv_con) rfl) fun _ e4 => hvs_cons (A := fun d => ∃ i : Int, d = .int i ∧ 0 ≤ i ∧ i < 100) (hv_pick (k := 100) T_pick rfl (fun S => pv_con) (by decide) (by decide) fun i i0 i1 => ⟨i, rfl, i0, i1⟩) fun _ ⟨i, e5, i0, i1⟩ => hvs_nil ⟨by show 6 ≤ 100000; decide, _, .inl rfl, by show 0 < 6; decide, by show 6 ≤ 100000; decide, fun x hx => ?_⟩))) fun d ⟨i, e, i0, i1⟩ => hvs_nil ⟨by show 1 ≤ 100000; decide, _, rfl, ?_⟩))
  · subst e0 e1 e2 e3 e4 e5
    simp only [List.mem_cons, List.not_mem_nil, or_false] at hx
    rcases hx with rfl | rfl | rfl | rfl | rfl | rfl
    · exact ⟨0, rfl, by decide, by decide⟩
    · exact ⟨1, rfl, by decide, by decide⟩
    · exact ⟨9, rfl, by decide, by decide⟩
    · exact ⟨10, rfl, by decide, by decide⟩
    · exact ⟨99, rfl, by decide, by decide⟩
    · exact ⟨i, rfl, i0, i1⟩
  · subst e
    exact row_1 ((show rowB k (.tup [.str "end", .int i]) = isBelow 100 (.int i) by kernel_rfl).trans (below_ok i0 i1)) (int_ok i0 (by omega)) (Nat.zero_le _)
theorem d_p_say {S : Store} (H : HandB B S l m) (k0 : 0 < k) (k1 : k ≤ 40) : ∃ d S', callAt T (n + 4) 30 [.ref l, .str "say", .int k] S = .ok d S' ∧ Parts k "say" d ∧ HandB B S' l m := by
  refine call_hb (fd := ⟨3, 7, b__law_parts⟩) rfl rfl (hb_asg (hv_child rfl) fun ch hch => ⟨_, rfl, ?_⟩) H
  refine hb_ifF (fun S => by unfold Pv; kernel_rfl) ?_
  refine hb_ifT (fun S => by unfold Pv; kernel_rfl) ?_
  refine hb_ret (hv_tup (hvs_cons (A := fun d => ∃ i : Int, d = .int i ∧ 0 ≤ i ∧ i < 100) (hv_of T_pick T_of rfl (hv_lst (hvs_cons (A := fun d => d = .int 0) (hv_pure (fun S => pv_con) rfl) fun _ e0 => hvs_cons (A := fun d => d = .int 1) (hv_pure (fun S => pv_con) rfl) fun _ e1 => hvs_cons (A := fun d => d = .int 9) (hv_pure (fun S => pv_con) rfl) fun _ e2 => hvs_cons (A := fun d => d = .int 10) (hv_pure (fun S => pv_con) rfl) fun _ e3 => hvs_cons (A := fun d => d = .int 99) (hv_pure (fun S => pv_con) rfl) fun _ e4 => hvs_cons (A := fun d => ∃ i : Int, d = .int i ∧ 0 ≤ i ∧ i < 100) (hv_pick (k := 100) T_pick rfl (fun S => pv_con) (by decide) (by decide) fun i i0 i1 => ⟨i, rfl, i0, i1⟩) fun _ ⟨i, e5, i0, i1⟩ => hvs_nil ⟨by show 6 ≤ 100000; decide, _, .inl rfl, by show 0 < 6; decide, by show 6 ≤ 100000; decide, fun x hx => ?_⟩))) fun d ⟨i, e, i0, i1⟩ => hvs_nil ⟨by show 1 ≤ 100000; decide, _, rfl, ?_⟩))
  · subst e0 e1 e2 e3 e4 e5
    simp only [List.mem_cons, List.not_mem_nil, or_false] at hx
    rcases hx with rfl | rfl | rfl | rfl | rfl | rfl
    · exact ⟨0, rfl, by decide, by decide⟩
    · exact ⟨1, rfl, by decide, by decide⟩
    · exact ⟨9, rfl, by decide, by decide⟩
    · exact ⟨10, rfl, by decide, by decide⟩
    · exact ⟨99, rfl, by decide, by decide⟩
    · exact ⟨i, rfl, i0, i1⟩
  · subst e
    exact row_1 ((show rowB k (.tup [.str "say", .int i]) = isBelow 100 (.int i) by kernel_rfl).trans (below_ok i0 i1)) (int_ok i0 (by omega)) (Nat.zero_le _)
theorem d_p_wait {S : Store} (H : HandB B S l m) (k0 : 0 < k) (k1 : k ≤ 40) : ∃ d S', callAt T (n + 4) 30 [.ref l, .str "wait", .int k] S = .ok d S' ∧ Parts k "wait" d ∧ HandB B S' l m := by
  refine call_hb (fd := ⟨3, 7, b__law_parts⟩) rfl rfl (hb_asg (hv_child rfl) fun ch hch => ⟨_, rfl, ?_⟩) H
  refine hb_ifF (fun S => by unfold Pv; kernel_rfl) ?_
  refine hb_ifF (fun S => by unfold Pv; kernel_rfl) ?_
  refine hb_ifT (fun S => by unfold Pv; kernel_rfl) ?_
  refine hb_ret (hv_tup (hvs_cons (A := fun d => d = .non ∨ Child d) (hv_ofC (xs := [.non, .non, ch]) rfl (fun S => pvs_cons pv_con (pvs_2 pv_con (pv_var rfl))) (by show 0 < 3; decide) (by show 3 ≤ 100000; decide) fun x hx => ?_) fun a ha => hvs_cons (A := fun d => ∃ b, d = .bl b) (hv_cmp (A := fun d => ∃ i : Int, d = .int i) (hv_pick (k := 2) T_pick rfl (fun S => pv_con) (by decide) (by decide) fun i _ _ => ⟨i, rfl⟩) fun d1 ⟨j, e⟩ => hv_pure (fun S => pv_con) ⟨j == 0, fun S => (by subst e; show cmpD .eq (.int j) (.int 0) = _; simp only [cmpD]; exact eqD_int j 0), _, rfl⟩) fun b ⟨z, e⟩ => hvs_nil ⟨by show 2 ≤ 100000; decide, _, rfl, ?_⟩))
  · simp only [List.mem_cons, List.not_mem_nil, or_false] at hx
    rcases hx with rfl | rfl | rfl
    · exact .inl rfl
    · exact .inl rfl
    · exact .inr hch
  · subst e
    rcases ha with rfl | ha
    · exact row_2 (n := 0) (n2 := 0) (by kernel_rfl) rfl rfl (Nat.zero_le _) (Nat.zero_le _)
    · refine row_2 ((show rowB k (.tup [.str "wait", a, .bl z]) = ((noneB a || isCount a) && true) by kernel_rfl).trans ?_) ha.ok.1 (p9_of (n := 0) rfl rfl (Nat.le_refl _) rfl) (by rw [child_dep ha]; decide) (Nat.zero_le _)
      rw [ha.ok.2, Bool.or_true]; rfl
theorem d_p_send {S : Store} (H : HandB B S l m) (k0 : 0 < k) (k1 : k ≤ 40) : ∃ d S', callAt T (n + 4) 30 [.ref l, .str "send", .int k] S = .ok d S' ∧ Parts k "send" d ∧ HandB B S' l m := by
  refine call_hb (fd := ⟨3, 7, b__law_parts⟩) rfl rfl (hb_asg (hv_child rfl) fun ch hch => ⟨_, rfl, ?_⟩) H
  refine hb_ifF (fun S => by unfold Pv; kernel_rfl) ?_
  refine hb_ifF (fun S => by unfold Pv; kernel_rfl) ?_
  refine hb_ifF (fun S => by unfold Pv; kernel_rfl) ?_
  refine hb_ifT (fun S => by unfold Pv; kernel_rfl) ?_
  refine hb_asg (A := fun d => oneOf sigs9 d = true ∧ p9B 8 d = true ∧ dep d = 0) (hv_ofC (xs := sigs9) rfl (fun S => by unfold Pvs; kernel_rfl) (by decide) (by decide) fun x hx => ?_) fun a ⟨a1, a2, a3⟩ => ⟨_, rfl, hb_ret (hv_tup (hvs_cons (A := fun d => d = a) (hv_pure (fun S => pv_var rfl) rfl) fun _ e => hvs_cons (A := fun b => (isCount b || oneOf [.str "self", .str "parent", .str "group"] b) = true ∧ p9B 64 b = true ∧ dep b = 0) (hv_ofC (xs := [.str "self", .str "parent", .str "group", ch]) rfl (fun S => pvs_cons pv_con (pvs_cons pv_con (pvs_2 pv_con (pv_var rfl)))) (by show 0 < 4; decide) (by show 4 ≤ 100000; decide) fun x hx => ?_) fun b ⟨b1, b2, b3⟩ => hvs_nil ⟨by show 2 ≤ 100000; decide, _, rfl, ?_⟩))⟩
  · simp only [sigs9, List.mem_cons, List.not_mem_nil, or_false] at hx
    rcases hx with rfl | rfl | rfl | rfl | rfl | rfl | rfl | rfl | rfl <;> exact ⟨by kernel_rfl, by kernel_rfl, rfl⟩
  · simp only [List.mem_cons, List.not_mem_nil, or_false] at hx
    rcases hx with rfl | rfl | rfl | rfl
    · exact ⟨by kernel_rfl, by kernel_rfl, rfl⟩
    · exact ⟨by kernel_rfl, by kernel_rfl, rfl⟩
    · exact ⟨by kernel_rfl, by kernel_rfl, rfl⟩
    · exact ⟨by rw [hch.ok.2]; rfl, hch.ok.1, child_dep hch⟩
  · rw [e]
    refine row_2 ((show rowB k (.tup [.str "send", a, b]) = (oneOf sigs9 a && (isCount b || oneOf [.str "self", .str "parent", .str "group"] b)) by kernel_rfl).trans ?_) a2 b2 (by omega) (by omega)
    rw [a1, b1]; rfl
theorem d_p_mask {S : Store} (H : HandB B S l m) (k0 : 0 < k) (k1 : k ≤ 40) : ∃ d S', callAt T (n + 4) 30 [.ref l, .str "mask", .int k] S = .ok d S' ∧ Parts k "mask" d ∧ HandB B S' l m := by
  refine call_hb (fd := ⟨3, 7, b__law_parts⟩) rfl rfl (hb_asg (hv_child rfl) fun ch hch => ⟨_, rfl, ?_⟩) H
  refine hb_ifF (fun S => by unfold Pv; kernel_rfl) ?_
  refine hb_ifF (fun S => by unfold Pv; kernel_rfl) ?_
  refine hb_ifF (fun S => by unfold Pv; kernel_rfl) ?_
  refine hb_ifF (fun S => by unfold Pv; kernel_rfl) ?_
  refine hb_ifT (fun S => by unfold Pv; kernel_rfl) ?_
  refine hb_ret (hv_tup (hvs_cons (A := Mask) (hv_call (hvs_pure (fun S => pvs_1 (pv_var (d := .ref l) rfl)) fun S H => d_signals (n := n + 1) H)) fun a ha => hvs_nil ⟨by show 1 ≤ 100000; decide, _, rfl, ?_⟩))
  exact row_1 ((show rowB k (.tup [.str "mask", a]) = maskB a by kernel_rfl).trans ha.1) ha.2 (Nat.le_trans (mask_dep ha) (by decide))
theorem d_p_unmask {S : Store} (H : HandB B S l m) (k0 : 0 < k) (k1 : k ≤ 40) : ∃ d S', callAt T (n + 4) 30 [.ref l, .str "unmask", .int k] S = .ok d S' ∧ Parts k "unmask" d ∧ HandB B S' l m := by
  refine call_hb (fd := ⟨3, 7, b__law_parts⟩) rfl rfl (hb_asg (hv_child rfl) fun ch hch => ⟨_, rfl, ?_⟩) H
  refine hb_ifF (fun S => by unfold Pv; kernel_rfl) ?_
  refine hb_ifF (fun S => by unfold Pv; kernel_rfl) ?_
  refine hb_ifF (fun S => by unfold Pv; kernel_rfl) ?_
  refine hb_ifF (fun S => by unfold Pv; kernel_rfl) ?_
  refine hb_ifT (fun S => by unfold Pv; kernel_rfl) ?_
  refine hb_ret (hv_tup (hvs_cons (A := Mask) (hv_call (hvs_pure (fun S => pvs_1 (pv_var (d := .ref l) rfl)) fun S H => d_signals (n := n + 1) H)) fun a ha => hvs_nil ⟨by show 1 ≤ 100000; decide, _, rfl, ?_⟩))
  exact row_1 ((show rowB k (.tup [.str "unmask", a]) = maskB a by kernel_rfl).trans ha.1) ha.2 (Nat.le_trans (mask_dep ha) (by decide))
theorem d_p_handle {S : Store} (H : HandB B S l m) (k0 : 0 < k) (k1 : k ≤ 40) : ∃ d S', callAt T (n + 4) 30 [.ref l, .str "handle", .int k] S = .ok d S' ∧ Parts k "handle" d ∧ HandB B S' l m := by
  refine call_hb (fd := ⟨3, 7, b__law_parts⟩) rfl rfl (hb_asg (hv_child rfl) fun ch hch => ⟨_, rfl, ?_⟩) H
  refine hb_ifF (fun S => by unfold Pv; kernel_rfl) ?_
  refine hb_ifF (fun S => by unfold Pv; kernel_rfl) ?_
  refine hb_ifF (fun S => by unfold Pv; kernel_rfl) ?_
  refine hb_ifF (fun S => by unfold Pv; kernel_rfl) ?_
  refine hb_ifF (fun S => by unfold Pv; kernel_rfl) ?_
  refine hb_ifT (fun S => by unfold Pv; kernel_rfl) ?_
  refine hb_asg (A := fun d => d = .str "plain" ∨ d = .str "ignore" ∨ d = .int 0) (hv_ofC (xs := [.str "plain", .str "ignore", .int 0, .int 0]) rfl (fun S => by unfold Pvs; kernel_rfl) (by decide) (by show 4 ≤ 100000; decide) fun x hx => ?_) fun h0 hh0 => ⟨_, rfl, hb_asg (A := fun d => howB k d = true ∧ p9B 106 d = true ∧ dep d ≤ 2) (hv_ite (hv_cmp (A := fun d => d = h0) (hv_pure (fun S => pv_var rfl) rfl) fun d1 e1 => hv_pure (fun S => pv_con) ?_)) fun hw ⟨w1, w2, w3⟩ => ⟨_, rfl, hb_ret (hv_tup (hvs_cons (A := fun d => oneOf sigs7 d = true ∧ p9B 8 d = true ∧ dep d = 0) (hv_ofC (xs := sigs7) rfl (fun S => by unfold Pvs; kernel_rfl) (by decide) (by decide) fun x hx => ?_) fun a ⟨a1, a2, a3⟩ => hvs_cons (A := fun d => d = hw) (hv_pure (fun S => pv_var rfl) rfl) fun b e => hvs_nil ⟨by show 2 ≤ 100000; decide, _, rfl, ?_⟩))⟩⟩
  · simp only [List.mem_cons, List.not_mem_nil, or_false] at hx
    rcases hx with rfl | rfl | rfl | rfl
    · exact .inl rfl
    · exact .inr (.inl rfl)
    · exact .inr (.inr rfl)
    · exact .inr (.inr rfl)
  · subst e1
    rcases hh0 with rfl | rfl | rfl
    · exact ⟨false, fun S => by kernel_rfl, false, rfl, fun z => by (cases z), fun _ => hv_pure (fun S => pv_var rfl) ⟨by kernel_rfl, by kernel_rfl, Nat.zero_le _⟩⟩
    · exact ⟨false, fun S => by kernel_rfl, false, rfl, fun z => by (cases z), fun _ => hv_pure (fun S => pv_var rfl) ⟨by kernel_rfl, by kernel_rfl, Nat.zero_le _⟩⟩
    · refine ⟨true, fun S => by kernel_rfl, true, rfl, fun _ => hv_tup (hvs_cons (A := fun d => ∃ i : Int, d = .int i ∧ 0 ≤ i ∧ i < k) (hv_pick (k := k) T_pick rfl (fun S => pv_var rfl) (by omega) (by omega) fun i i0 i1 => ⟨i, rfl, i0, i1⟩) fun a ⟨i, e, i0, i1⟩ => hvs_cons (A := Mask) (hv_call (hvs_pure (fun S => pvs_1 (pv_var (d := .ref l) rfl)) fun S H => d_signals (n := n + 1) H)) fun b hb => hvs_nil ⟨by show 2 ≤ 100000; decide, ?_⟩), fun z => by (cases z)⟩
      subst e
      refine ⟨?_, ?_, ?_⟩
      · show (isBelow k (.int i) && maskB b) = true
        rw [below_ok i0 i1, hb.1]; rfl
      · obtain ⟨q1, q2, q3, q4⟩ := p9_inv hb.2
        obtain ⟨r1, r2, r3, r4⟩ := p9_inv (p9_int (i := i) (by omega) (by omega))
        have l2 : ([.int i, b] : List D).length ≤ 9 := by show 2 ≤ 9; decide
        have l3 : ([.int i, b] : List D).length ≤ 1000 := by show 2 ≤ 1000; decide
        refine p9_of ?_ ?_ ?_ ?_
        · rw [okB, decide_eq_true l3, oksB, oksB, oksB, r1, q1]; rfl
        · rw [shB, decide_eq_true l2, shsB, shsB, shsB, r2, q2]; rfl
        · simp only [wt, wts] at r3 ⊢; omega
        · rw [asB, assB, assB, assB, r4, q4]; rfl
      · have := mask_dep hb
        simp only [dep, deps]; omega
  · simp only [sigs7, List.mem_cons, List.not_mem_nil, or_false] at hx
    rcases hx with rfl | rfl | rfl | rfl | rfl | rfl | rfl <;> exact ⟨by kernel_rfl, by kernel_rfl, rfl⟩
  · rw [e]
    refine row_2 ((show rowB k (.tup [.str "handle", a, hw]) = (masky a && howB k hw) by kernel_rfl).trans ?_) a2 w2 (by omega) (by omega)
    rw [masky_eq, a1, w1]; rfl
theorem d_p_group {S : Store} (H : HandB B S l m) (k0 : 0 < k) (k1 : k ≤ 40) : ∃ d S', callAt T (n + 4) 30 [.ref l, .str "group", .int k] S = .ok d S' ∧ Parts k "group" d ∧ HandB B S' l m := by
  refine call_hb (fd := ⟨3, 7, b__law_parts⟩) rfl rfl (hb_asg (hv_child rfl) fun ch hch => ⟨_, rfl, ?_⟩) H
  refine hb_ifF (fun S => by unfold Pv; kernel_rfl) ?_
  refine hb_ifF (fun S => by unfold Pv; kernel_rfl) ?_
  refine hb_ifF (fun S => by unfold Pv; kernel_rfl) ?_
  refine hb_ifF (fun S => by unfold Pv; kernel_rfl) ?_
  refine hb_ifF (fun S => by unfold Pv; kernel_rfl) ?_
  refine hb_ifF (fun S => by unfold Pv; kernel_rfl) ?_
  refine hb_ifT (fun S => by unfold Pv; kernel_rfl) ?_
  refine hb_ret (hv_tup (hvs_cons (A := fun d => isWho d = true ∧ p9B 64 d = true ∧ dep d = 0) (hv_ofC (xs := [.str "self", ch]) rfl (fun S => pvs_2 pv_con (pv_var rfl)) (by show 0 < 2; decide) (by show 2 ≤ 100000; decide) fun x hx => ?_) fun a ⟨a1, a2, a3⟩ => hvs_cons (A := fun d => oneOf [.str "new", .str "mine"] d = true ∧ p9B 8 d = true ∧ dep d = 0) (hv_ofC (xs := [.str "new", .str "mine"]) rfl (fun S => by unfold Pvs; kernel_rfl) (by decide) (by show 2 ≤ 100000; decide) fun x hx => ?_) fun b ⟨b1, b2, b3⟩ => hvs_nil ⟨by show 2 ≤ 100000; decide, _, rfl, ?_⟩))
  · simp only [List.mem_cons, List.not_mem_nil, or_false] at hx
    rcases hx with rfl | rfl
    · exact ⟨by kernel_rfl, by kernel_rfl, rfl⟩
    · exact ⟨by unfold isWho; rw [hch.ok.2]; rfl, hch.ok.1, child_dep hch⟩
  · simp only [List.mem_cons, List.not_mem_nil, or_false] at hx
    rcases hx with rfl | rfl <;> exact ⟨by kernel_rfl, by kernel_rfl, rfl⟩
  · refine row_2 ((show rowB k (.tup [.str "group", a, b]) = (isWho a && oneOf [.str "new", .str "mine"] b) by kernel_rfl).trans ?_) a2 b2 (by omega) (by omega)
    rw [a1, b1]; rfl
theorem d_p_front {S : Store} (H : HandB B S l m) (k0 : 0 < k) (k1 : k ≤ 40) : ∃ d S', callAt T (n + 4) 30 [.ref l, .str "front", .int k] S = .ok d S' ∧ Parts k "front" d ∧ HandB B S' l m := by
  refine call_hb (fd := ⟨3, 7, b__law_parts⟩) rfl rfl (hb_asg (hv_child rfl) fun ch hch => ⟨_, rfl, ?_⟩) H
  refine hb_ifF (fun S => by unfold Pv; kernel_rfl) ?_
  refine hb_ifF (fun S => by unfold Pv; kernel_rfl) ?_
  refine hb_ifF (fun S => by unfold Pv; kernel_rfl) ?_
  refine hb_ifF (fun S => by unfold Pv; kernel_rfl) ?_
  refine hb_ifF (fun S => by unfold Pv; kernel_rfl) ?_
  refine hb_ifF (fun S => by unfold Pv; kernel_rfl) ?_
  refine hb_ifF (fun S => by unfold Pv; kernel_rfl) ?_
  refine hb_ifT (fun S => by unfold Pv; kernel_rfl) ?_
  refine hb_ret (hv_tup (hvs_cons (A := fun d => isWho d = true ∧ p9B 64 d = true ∧ dep d = 0) (hv_ofC (xs := [.str "self", ch]) rfl (fun S => pvs_2 pv_con (pv_var rfl)) (by show 0 < 2; decide) (by show 2 ≤ 100000; decide) fun x hx => ?_) fun a ⟨a1, a2, a3⟩ => hvs_nil ⟨by show 1 ≤ 100000; decide, _, rfl, ?_⟩))
  · simp only [List.mem_cons, List.not_mem_nil, or_false] at hx
    rcases hx with rfl | rfl
    · exact ⟨by kernel_rfl, by kernel_rfl, rfl⟩
    · exact ⟨by unfold isWho; rw [hch.ok.2]; rfl, hch.ok.1, child_dep hch⟩
  · exact row_1 ((show rowB k (.tup [.str "front", a]) = isWho a by kernel_rfl).trans a1) a2 (by omega)
theorem d_p_goto {S : Store} (H : HandB B S l m) (k0 : 0 < k) (k1 : k ≤ 40) : ∃ d S', callAt T (n + 4) 30 [.ref l, .str "goto", .int k] S = .ok d S' ∧ Parts k "goto" d ∧ HandB B S' l m := by
  refine call_hb (fd := ⟨3, 7, b__law_parts⟩) rfl rfl (hb_asg (hv_child rfl) fun ch hch => ⟨_, rfl, ?_⟩) H
  refine hb_ifF (fun S => by unfold Pv; kernel_rfl) ?_
  refine hb_ifF (fun S => by unfold Pv; kernel_rfl) ?_
  refine hb_ifF (fun S => by unfold Pv; kernel_rfl) ?_
  refine hb_ifF (fun S => by unfold Pv; kernel_rfl) ?_
  refine hb_ifF (fun S => by unfold Pv; kernel_rfl) ?_
  refine hb_ifF (fun S => by unfold Pv; kernel_rfl) ?_
  refine hb_ifF (fun S => by unfold Pv; kernel_rfl) ?_
  refine hb_ifF (fun S => by unfold Pv; kernel_rfl) ?_
  refine hb_ifT (fun S => by unfold Pv; kernel_rfl) ?_
  refine hb_ret (hv_tup (hvs_cons (A := fun d => ∃ i : Int, d = .int i ∧ 0 ≤ i ∧ i < k) (hv_pick (k := k) T_pick rfl (fun S => pv_var rfl) (by omega) (by omega) fun i i0 i1 => ⟨i, rfl, i0, i1⟩) fun a ⟨i, e, i0, i1⟩ => hvs_nil ⟨by show 1 ≤ 100000; decide, _, rfl, ?_⟩))
  subst e
  exact row_1 ((show rowB k (.tup [.str "goto", .int i]) = isBelow k (.int i) by kernel_rfl).trans (below_ok i0 i1)) (int_ok i0 (by omega)) (Nat.zero_le _)
theorem d_p_if {S : Store} (H : HandB B S l m) (k0 : 0 < k) (k1 : k ≤ 40) : ∃ d S', callAt T (n + 4) 30 [.ref l, .str "if", .int k] S = .ok d S' ∧ Parts k "if" d ∧ HandB B S' l m := by
  refine call_hb (fd := ⟨3, 7, b__law_parts⟩) rfl rfl (hb_asg (hv_child rfl) fun ch hch => ⟨_, rfl, ?_⟩) H
  refine hb_ifF (fun S => by unfold Pv; kernel_rfl) ?_
  refine hb_ifF (fun S => by unfold Pv; kernel_rfl) ?_
  refine hb_ifF (fun S => by unfold Pv; kernel_rfl) ?_
  refine hb_ifF (fun S => by unfold Pv; kernel_rfl) ?_
  refine hb_ifF (fun S => by unfold Pv; kernel_rfl) ?_
  refine hb_ifF (fun S => by unfold Pv; kernel_rfl) ?_
  refine hb_ifF (fun S => by unfold Pv; kernel_rfl) ?_
  refine hb_ifF (fun S => by unfold Pv; kernel_rfl) ?_
  refine hb_ifF (fun S => by unfold Pv; kernel_rfl) ?_
  refine hb_ret (hv_ite (hv_pure (d := .bl true) (fun S => by unfold Pv; kernel_rfl) ⟨true, rfl, fun _ => hv_tup (hvs_cons (A := fun d => ∃ i : Int, d = .int i ∧ -1000 ≤ i ∧ i ≤ 999999999) (hv_ofC (xs := [.int 0, .int (-1), .int 1, .int 100, .int 300, .int (-99), .int 999999999]) rfl (fun S => by unfold Pvs; kernel_rfl) (by decide) (by show 7 ≤ 100000; decide) fun x hx => ?_) fun a ⟨j, e2, j0, j1⟩ => hvs_cons (A := fun d => ∃ i : Int, d = .int i ∧ 0 ≤ i ∧ i < k) (hv_pick (k := k) T_pick rfl (fun S => pv_var rfl) (by omega) (by omega) fun i i0 i1 => ⟨i, rfl, i0, i1⟩) fun b ⟨i, e, i0, i1⟩ => hvs_nil ⟨by show 2 ≤ 100000; decide, _, rfl, ?_⟩), fun z => by (cases z)⟩))
  · simp only [List.mem_cons, List.not_mem_nil, or_false] at hx
    rcases hx with rfl | rfl | rfl | rfl | rfl | rfl | rfl <;> exact ⟨_, rfl, by decide, by decide⟩
  · subst e e2
    refine row_2 ((show rowB k (.tup [.str "if", .int j, .int i]) = (true && isBelow k (.int i)) by kernel_rfl).trans (by rw [below_ok i0 i1]; rfl)) (p9_int (by omega) (by omega)) (int_ok i0 (by omega)) (Nat.zero_le _) (Nat.zero_le _)
theorem d_p_fork {S : Store} (H : HandB B S l m) (k0 : 0 < k) (k1 : k ≤ 40) : ∃ d S', callAt T (n + 4) 30 [.ref l, .str "fork", .int k] S = .ok d S' ∧ Parts k "fork" d ∧ HandB B S' l m := by
  refine call_hb (fd := ⟨3, 7, b__law_parts⟩) rfl rfl (hb_asg (hv_child rfl) fun ch hch => ⟨_, rfl, ?_⟩) H
  refine hb_ifF (fun S => by unfold Pv; kernel_rfl) ?_
  refine hb_ifF (fun S => by unfold Pv; kernel_rfl) ?_
  refine hb_ifF (fun S => by unfold Pv; kernel_rfl) ?_
  refine hb_ifF (fun S => by unfold Pv; kernel_rfl) ?_
  refine hb_ifF (fun S => by unfold Pv; kernel_rfl) ?_
  refine hb_ifF (fun S => by unfold Pv; kernel_rfl) ?_
  refine hb_ifF (fun S => by unfold Pv; kernel_rfl) ?_
  refine hb_ifF (fun S => by unfold Pv; kernel_rfl) ?_
  refine hb_ifF (fun S => by unfold Pv; kernel_rfl) ?_
  refine hb_ret (hv_ite (hv_pure (d := .bl false) (fun S => by unfold Pv; kernel_rfl) ⟨false, rfl, fun z => by (cases z), fun _ => hv_tup (hvs_nil ⟨by show 0 ≤ 100000; decide, _, rfl, ⟨by kernel_rfl, rfl, rfl, rfl, by decide, by decide, by decide⟩⟩)⟩))
theorem d_p_pause {S : Store} (H : HandB B S l m) (k0 : 0 < k) (k1 : k ≤ 40) : ∃ d S', callAt T (n + 4) 30 [.ref l, .str "pause", .int k] S = .ok d S' ∧ Parts k "pause" d ∧ HandB B S' l m := by
  refine call_hb (fd := ⟨3, 7, b__law_parts⟩) rfl rfl (hb_asg (hv_child rfl) fun ch hch => ⟨_, rfl, ?_⟩) H
  refine hb_ifF (fun S => by unfold Pv; kernel_rfl) ?_
  refine hb_ifF (fun S => by unfold Pv; kernel_rfl) ?_
  refine hb_ifF (fun S => by unfold Pv; kernel_rfl) ?_
  refine hb_ifF (fun S => by unfold Pv; kernel_rfl) ?_
  refine hb_ifF (fun S => by unfold Pv; kernel_rfl) ?_
  refine hb_ifF (fun S => by unfold Pv; kernel_rfl) ?_
  refine hb_ifF (fun S => by unfold Pv; kernel_rfl) ?_
  refine hb_ifF (fun S => by unfold Pv; kernel_rfl) ?_
  refine hb_ifF (fun S => by unfold Pv; kernel_rfl) ?_
  refine hb_ret (hv_ite (hv_pure (d := .bl false) (fun S => by unfold Pv; kernel_rfl) ⟨false, rfl, fun z => by (cases z), fun _ => hv_tup (hvs_nil ⟨by show 0 ≤ 100000; decide, _, rfl, ⟨by kernel_rfl, rfl, rfl, rfl, by decide, by decide, by decide⟩⟩)⟩))
theorem d_p_read {S : Store} (H : HandB B S l m) (k0 : 0 < k) (k1 : k ≤ 40) : ∃ d S', callAt T (n + 4) 30 [.ref l, .str "read", .int k] S = .ok d S' ∧ Parts k "read" d ∧ HandB B S' l m := by
  refine call_hb (fd := ⟨3, 7, b__law_parts⟩) rfl rfl (hb_asg (hv_child rfl) fun ch hch => ⟨_, rfl, ?_⟩) H
  refine hb_ifF (fun S => by unfold Pv; kernel_rfl) ?_
  refine hb_ifF (fun S => by unfold Pv; kernel_rfl) ?_
  refine hb_ifF (fun S => by unfold Pv; kernel_rfl) ?_
  refine hb_ifF (fun S => by unfold Pv; kernel_rfl) ?_
  refine hb_ifF (fun S => by unfold Pv; kernel_rfl) ?_
  refine hb_ifF (fun S => by unfold Pv; kernel_rfl) ?_
  refine hb_ifF (fun S => by unfold Pv; kernel_rfl) ?_
  refine hb_ifF (fun S => by unfold Pv; kernel_rfl) ?_
  refine hb_ifF (fun S => by unfold Pv; kernel_rfl) ?_
  refine hb_ret (hv_ite (hv_pure (d := .bl false) (fun S => by unfold Pv; kernel_rfl) ⟨false, rfl, fun z => by (cases z), fun _ => hv_tup (hvs_nil ⟨by show 0 ≤ 100000; decide, _, rfl, ⟨by kernel_rfl, rfl, rfl, rfl, by decide, by decide, by decide⟩⟩)⟩))
theorem d_p_return {S : Store} (H : HandB B S l m) (k0 : 0 < k) (k1 : k ≤ 40) : ∃ d S', callAt T (n + 4) 30 [.ref l, .str "return", .int k] S = .ok d S' ∧ Parts k "return" d ∧ HandB B S' l m := by
  refine call_hb (fd := ⟨3, 7, b__law_parts⟩) rfl rfl (hb_asg (hv_child rfl) fun ch hch => ⟨_, rfl, ?_⟩) H
  refine hb_ifF (fun S => by unfold Pv; kernel_rfl) ?_
  refine hb_ifF (fun S => by unfold Pv; kernel_rfl) ?_
  refine hb_ifF (fun S => by unfold Pv; kernel_rfl) ?_
  refine hb_ifF (fun S => by unfold Pv; kernel_rfl) ?_
  refine hb_ifF (fun S => by unfold Pv; kernel_rfl) ?_
  refine hb_ifF (fun S => by unfold Pv; kernel_rfl) ?_
  refine hb_ifF (fun S => by unfold Pv; kernel_rfl) ?_
  refine hb_ifF (fun S => by unfold Pv; kernel_rfl) ?_
  refine hb_ifF (fun S => by unfold Pv; kernel_rfl) ?_
  refine hb_ret (hv_ite (hv_pure (d := .bl false) (fun S => by unfold Pv; kernel_rfl) ⟨false, rfl, fun z => by (cases z), fun _ => hv_tup (hvs_nil ⟨by show 0 ≤ 100000; decide, _, rfl, ⟨by kernel_rfl, rfl, rfl, rfl, by decide, by decide, by decide⟩⟩)⟩))
theorem d_p_session {S : Store} (H : HandB B S l m) (k0 : 0 < k) (k1 : k ≤ 40) : ∃ d S', callAt T (n + 4) 30 [.ref l, .str "session", .int k] S = .ok d S' ∧ Parts k "session" d ∧ HandB B S' l m := by
  refine call_hb (fd := ⟨3, 7, b__law_parts⟩) rfl rfl (hb_asg (hv_child rfl) fun ch hch => ⟨_, rfl, ?_⟩) H
  refine hb_ifF (fun S => by unfold Pv; kernel_rfl) ?_
  refine hb_ifF (fun S => by unfold Pv; kernel_rfl) ?_
  refine hb_ifF (fun S => by unfold Pv; kernel_rfl) ?_
  refine hb_ifF (fun S => by unfold Pv; kernel_rfl) ?_
  refine hb_ifF (fun S => by unfold Pv; kernel_rfl) ?_
  refine hb_ifF (fun S => by unfold Pv; kernel_rfl) ?_
  refine hb_ifF (fun S => by unfold Pv; kernel_rfl) ?_
  refine hb_ifF (fun S => by unfold Pv; kernel_rfl) ?_
  refine hb_ifF (fun S => by unfold Pv; kernel_rfl) ?_
  refine hb_ret (hv_ite (hv_pure (d := .bl false) (fun S => by unfold Pv; kernel_rfl) ⟨false, rfl, fun z => by (cases z), fun _ => hv_tup (hvs_nil ⟨by show 0 ≤ 100000; decide, _, rfl, ⟨by kernel_rfl, rfl, rfl, rfl, by decide, by decide, by decide⟩⟩)⟩))
theorem d_p_taker {S : Store} (H : HandB B S l m) (k0 : 0 < k) (k1 : k ≤ 40) : ∃ d S', callAt T (n + 4) 30 [.ref l, .str "taker", .int k] S = .ok d S' ∧ Parts k "taker" d ∧ HandB B S' l m := by
  refine call_hb (fd := ⟨3, 7, b__law_parts⟩) rfl rfl (hb_asg (hv_child rfl) fun ch hch => ⟨_, rfl, ?_⟩) H
  refine hb_ifF (fun S => by unfold Pv; kernel_rfl) ?_
  refine hb_ifF (fun S => by unfold Pv; kernel_rfl) ?_
  refine hb_ifF (fun S => by unfold Pv; kernel_rfl) ?_
  refine hb_ifF (fun S => by unfold Pv; kernel_rfl) ?_
  refine hb_ifF (fun S => by unfold Pv; kernel_rfl) ?_
  refine hb_ifF (fun S => by unfold Pv; kernel_rfl) ?_
  refine hb_ifF (fun S => by unfold Pv; kernel_rfl) ?_
  refine hb_ifF (fun S => by unfold Pv; kernel_rfl) ?_
  refine hb_ifF (fun S => by unfold Pv; kernel_rfl) ?_
  refine hb_ret (hv_ite (hv_pure (d := .bl false) (fun S => by unfold Pv; kernel_rfl) ⟨false, rfl, fun z => by (cases z), fun _ => hv_tup (hvs_nil ⟨by show 0 ≤ 100000; decide, _, rfl, ⟨by kernel_rfl, rfl, rfl, rfl, by decide, by decide, by decide⟩⟩)⟩))
end

end MP

set_option maxHeartbeats 0
namespace MP
open PySem L2

/-- a thing of the law's -/
def Thing (x : D) : Prop := okB x = true ∧ dep x ≤ 20
/-! the law's loops -/
theorem deps_le {j : Nat} : ∀ {xs : List D}, (∀ x ∈ xs, dep x ≤ j) → deps xs ≤ j
  | [], _ => Nat.zero_le _
  | x :: xs, h => by
    have h1 := h x List.mem_cons_self
    have h2 := deps_le fun y hy => h y (List.mem_cons_of_mem _ hy)
    simp only [deps]; omega
theorem dep_mem : ∀ {xs : List D} {x : D}, x ∈ xs → dep x ≤ deps xs
  | y :: ys, x, h => by
    simp only [deps]
    rcases List.mem_cons.mp h with rfl | h
    · omega
    · have := dep_mem h; omega
theorem thing_tup {xs : List D} (hl : xs.length ≤ 1000) (h : ∀ x ∈ xs, okB x = true ∧ dep x ≤ 19) : Thing (.tup xs) := by
  constructor
  · simp only [okB, Bool.and_eq_true, decide_eq_true_iff]
    exact ⟨hl, oks_all fun x hx => (h x hx).1⟩
  · have := deps_le (j := 19) fun x hx => (h x hx).2
    simp only [dep]; omega
theorem thing_lst {xs : List D} (hl : xs.length ≤ 1000) (h : ∀ x ∈ xs, okB x = true ∧ dep x ≤ 19) : Thing (.lst xs) := by
  constructor
  · simp only [okB, Bool.and_eq_true, decide_eq_true_iff]
    exact ⟨hl, oks_all fun x hx => (h x hx).1⟩
  · have := deps_le (j := 19) fun x hx => (h x hx).2
    simp only [dep]; omega
theorem cut_sub {xs : List D} {lo hi : Option Int} {x : D} (h : x ∈ cutD xs lo hi) : x ∈ xs := List.mem_of_mem_drop (List.mem_of_mem_take h)
theorem cut_len {xs : List D} {lo hi : Option Int} : (cutD xs lo hi).length ≤ xs.length := by
  unfold cutD
  rw [List.length_take, List.length_drop]
  omega

end MP

set_option maxHeartbeats 0
namespace MP
open PySem L2

theorem add_tup {xs ys : List D} (hl : xs.length + ys.length ≤ 100000) : binD .add (.tup xs) (.tup ys) = some (.tup (xs ++ ys)) := by
  have hl : xs.length + ys.length ≤ LIM := hl
  simp only [binD, if_pos hl]
theorem add_lst {xs ys : List D} (hl : xs.length + ys.length ≤ 100000) : binD .add (.lst xs) (.lst ys) = some (.lst (xs ++ ys)) := by
  have hl : xs.length + ys.length ≤ LIM := hl
  simp only [binD, if_pos hl]
theorem pv_add {F : Fn} {S : Store} {env : Env} {e1 e2 : E} {xs ys : List D} (h : Pv F env S e1 (.tup xs)) (k : Pv F env S e2 (.tup ys)) (hl : xs.length + ys.length ≤ 100000) : Pv F env S (.bin .add e1 e2) (.tup (xs ++ ys)) := pv_bin h k (add_tup hl)
theorem pv_addL {F : Fn} {S : Store} {env : Env} {e1 e2 : E} {xs ys : List D} (h : Pv F env S e1 (.lst xs)) (k : Pv F env S e2 (.lst ys)) (hl : xs.length + ys.length ≤ 100000) : Pv F env S (.bin .add e1 e2) (.lst (xs ++ ys)) := pv_bin h k (add_lst hl)
theorem cut_1 (ts : List D) : slD (some 1) none (.lst ts) = some (.lst (ts.drop 1)) := by
  simp only [slD, cutD]
  have e1 : HT.sIx ts.length 0 (some 1) = min 1 ts.length := HT.sIx_nat ts.length 0 1
  rw [e1, HT.sIx_none]
  by_cases hp : 1 ≤ ts.length
  · rw [Nat.min_eq_left hp, List.take_of_length_le (by rw [List.length_drop]; omega)]
  · have : ts = [] := List.length_eq_zero_iff.mp (by omega)
    subst this; rfl
theorem len_tup (xs : List D) : bltD .len [.tup xs] = some (.int (xs.length : Nat)) := by simp only [bltD]

end MP

set_option maxHeartbeats 0
namespace MP
open PySem L2

/-! books: the program's look -/
def ltP (p : D) : Bool := match p with
  | .tup [.str x, .str y] => decide (x.cps.toList < y.cps.toList)
  | _ => false
def headT : D → D
  | .tup (t :: _) => t
  | d => d
def progB : D → Bool
  | .tup [t, .tup rows] => titleB t && (!rows.isEmpty && rows.all (rowB (rows.length : Nat)))
  | _ => false
def bookB : D → Bool
  | .tup ps => !ps.isEmpty && (ps.all progB && (pairsOf (ps.map headT)).all ltP)
  | _ => false
section
variable {F : Fn} {env : Env} {S : Store}
theorem pv_rising {ts : List D} {i p1 p2 : Nat} (hv : env[i]? = some (some (.lst ts))) (hs : ∀ t ∈ ts, ∃ x, t = .str x) (hl : ts.length ≤ 100000)
    (hw : ∀ a b, ∃ env', bindP (.tup [.name p1, .name p2]) (.tup [a, b]) (wipeE env (slotsP (.tup [.name p1, .name p2]))) = some env' ∧ env'[p1]? = some (some a) ∧ env'[p2]? = some (some b)) :
    Pv F env S (.blt .all [.comp false (.tup [.name p1, .name p2]) .zip [.var i, .sl (.var i) [.con (.int 1)] []] [] (.cmp .lt (.var p1) (.var p2))]) (.bl ((pairsOf ts).all ltP)) := by
  have hz : itD .zip [.lst ts, .lst (ts.drop 1)] = some (pairsOf ts) := rfl
  have hlen : (pairsOf ts).length ≤ 100000 := by
    unfold pairsOf
    rw [List.length_map, List.length_zip]
    omega
  refine pv_blt (pvs_1 (pv_comp (g := fun z => .bl (ltP z)) (pvs_2 (pv_var hv) (pv_sl (pv_var hv) (pvs_1 (pv_con (d := .int 1))) pvs_nil rfl rfl (cut_1 ts))) hz hlen fun x hx => ?_)) (all_map _)
  unfold pairsOf at hx
  obtain ⟨⟨a, b⟩, hab, rfl⟩ := List.mem_map.mp hx
  obtain ⟨u, rfl⟩ := hs a (List.of_mem_zip hab).1
  obtain ⟨v, rfl⟩ := hs b (List.mem_of_mem_drop (List.of_mem_zip hab).2)
  obtain ⟨env', w1, w2, w3⟩ := hw (.str u) (.str v)
  refine ⟨env', w1, pv_cmp (pv_var w2) (pv_var w3) ?_⟩
  show cmpD .lt (.str u) (.str v) = _
  simp only [cmpD]; rfl
end
section
variable {S : Store} {d : D}
theorem w_is_program (n : Nat) (h : okB d = true) : callAt T (n + 7) 24 [d] S = .ok (.bl (progB d)) S := by
  have hdat := ok_dat _ h
  by_cases ht : ∃ a b, d = .tup [a, b]
  · obtain ⟨a, b, rfl⟩ := ht
    obtain ⟨ho, hk⟩ := ok_tup h
    obtain ⟨oa, ob⟩ := oks_two hk
    have i0 : ∀ F, Pv F [some (.tup [a, b]), none, none] S (.ix (.var 0) (.con (.int 0))) a := fun F => pv_ix (pv_var (d := .tup [a, b]) rfl) (pv_con (d := .int 0)) rfl
    refine call_pb (fd := ⟨1, 3, b_is_program⟩) rfl rfl ?_
    refine pb_if (x := !titleB a) (?_ : Pv _ _ _ _ (.bl (false || (false || !titleB a)))) (fun z => ?_) fun z => ?_
    · exact pv_or (pv_not (x := true) (pv_istup (pv_var (d := .tup [a, b]) rfl) hdat)) fun _ => pv_or (pv_cmp (d1 := .int 2) (d2 := .int 2) (x := false) (pv_blt (pvs_1 (pv_var (d := .tup [a, b]) rfl)) rfl) pv_con rfl) fun _ => pv_not (pv_call (pvs_1 (i0 _)) (w_is_title (n + 5) (ok_dat _ oa) (ok_short oa)))
    · have e : progB (.tup [a, b]) = false := by
        have z' : titleB a = false := by simpa using z
        cases b <;> first | rfl | (show (titleB a && _) = false; rw [z']; rfl)
      rw [e]
      exact pb_ret pv_con
    · have z' : titleB a = true := by simpa using z
      refine pb_asg (d1 := b) (env' := [some (.tup [a, b]), some b, none]) (pv_ix (pv_var (d := .tup [a, b]) rfl) (pv_con (d := .int 1)) rfl) rfl ?_
      by_cases hb : ∃ rows, b = .tup rows
      · obtain ⟨rows, rfl⟩ := hb
        obtain ⟨rl, rk⟩ := ok_tup ob
        have e : progB (.tup [a, .tup rows]) = (true && (!rows.isEmpty && rows.all (rowB (rows.length : Nat)))) := by
          show (titleB a && _) = _
          rw [z']
        rw [e]
        refine pb_ret (pv_and (pv_istup (pv_var (d := .tup rows) rfl) (ok_dat _ ob)) fun _ => pv_and (pv_cmp (d1 := .int (rows.length : Nat)) (d2 := .int 0) (pv_blt (pvs_1 (pv_var (d := .tup rows) rfl)) (len_tup rows)) pv_con ?_) fun _ => pv_blt (pvs_1 (pv_comp (g := fun z => .bl (rowB (rows.length : Nat) z)) (pvs_1 (pv_var (d := .tup rows) rfl)) (show itD .seq [.tup rows] = some rows from rfl) (by omega) fun x hx => ?_)) (all_map _))
        · show cmpD .gt (.int (rows.length : Nat)) (.int 0) = _
          simp only [cmpD]
          cases rows with
          | nil => rfl
          | cons r rs => simp only [List.length_cons, List.isEmpty_cons]; exact congrArg some (decide_eq_true (by omega))
        · exact ⟨[some (.tup [a, .tup rows]), some (.tup rows), some x], rfl, pv_call (pvs_2 (pv_var rfl) (pv_blt (pvs_1 (pv_var (d := .tup rows) rfl)) (len_tup rows))) (w_is_row n (oks_mem rk hx))⟩
      · have e : progB (.tup [a, b]) = false := by cases b <;> first | rfl | exact absurd ⟨_, rfl⟩ hb
        have e2 : isTupT b = false := by cases b <;> first | rfl | exact absurd ⟨_, rfl⟩ hb
        have q := pv_and (y := true) (b := .and (.cmp .gt (.blt .len [.var 1]) (.con (.int 0))) (.blt .all [.comp false (.name 2) .seq [.var 1] [] (.call 23 [.var 2, .blt .len [.var 1]])])) (pv_istup (F := callAt T (n + 6)) (S := S) (env := [some (.tup [a, b]), some b, none]) (pv_var (i := 1) (d := b) rfl) (ok_dat _ ob)) fun z => by rw [e2] at z; cases z
        rw [e2] at q
        rw [e]
        exact pb_ret q
  · have e : progB d = false := by
      cases d <;> try rfl
      rename_i xs
      match xs, ht with
      | [], _ => rfl
      | [a], _ => rfl
      | [a, b], ht => exact absurd ⟨a, b, rfl⟩ ht
      | a :: b :: c :: r, _ => cases b <;> rfl
    rw [e]
    refine call_pb (fd := ⟨1, 3, b_is_program⟩) rfl rfl ?_
    refine pb_if (x := true) ?_ (fun _ => pb_ret pv_con) fun z => by cases z
    by_cases ht2 : ∃ xs, d = .tup xs
    · obtain ⟨xs, rfl⟩ := ht2
      have hl : xs.length ≠ 2 := fun hh => by
        match xs, hh with
        | [a, b], _ => exact ht ⟨a, b, rfl⟩
      refine (?_ : Pv _ _ _ _ (.bl (false || (true || false))))
      refine pv_or (pv_not (x := true) (pv_istup (pv_var (d := .tup xs) rfl) hdat)) fun _ => pv_or (pv_cmp (d1 := .int (xs.length : Nat)) (d2 := .int 2) (pv_blt (pvs_1 (pv_var (d := .tup xs) rfl)) (len_tup xs)) pv_con ?_) fun z => by cases z
      show cmpD .ne (.int (xs.length : Nat)) (.int 2) = _
      simp only [cmpD, eqD_int]
      show some (!((xs.length : Int) == 2)) = some true
      rw [beq_eq_false_iff_ne.mpr (by omega)]; rfl
    · have e2 : isTupT d = false := by cases d <;> first | rfl | exact absurd ⟨_, rfl⟩ ht2
      have q := pv_or (y := true) (b := .or (.cmp .ne (.blt .len [.var 0]) (.con (.int 2))) (.not (.call 9 [.ix (.var 0) (.con (.int 0))]))) (pv_not (pv_istup (F := callAt T (n + 6)) (S := S) (env := startE [d] 3) (pv_var (i := 0) (d := d) rfl) hdat)) fun z => by rw [e2] at z; cases z
      rw [e2] at q
      exact q
theorem w_are_rising (n : Nat) {ts : List D} (hs : ∀ t ∈ ts, ∃ x, t = .str x) (hl : ts.length ≤ 100000) : callAt T (n + 1) 7 [.lst ts] S = .ok (.bl ((pairsOf ts).all ltP)) S :=
  call_pb (fd := ⟨1, 3, b_are_rising⟩) rfl rfl (pb_ret (pv_rising (i := 0) (p1 := 1) (p2 := 2) rfl hs hl fun a b => ⟨[some (.lst ts), some a, some b], rfl, rfl, rfl⟩))
theorem titleB_str {d : D} (h : titleB d = true) : ∃ x, d = .str x := by
  cases d <;> first | (cases h; done) | exact ⟨_, rfl⟩
theorem prog_shape {p : D} (h : progB p = true) : ∃ t rows, p = .tup [.str t, .tup rows] ∧ titleB (.str t) = true ∧ rows ≠ [] ∧ rows.all (rowB (rows.length : Nat)) = true := by
  cases p <;> try (cases h; done)
  rename_i xs
  match xs, h with
  | [a, .tup rows], h =>
    have h : (titleB a && (!rows.isEmpty && rows.all (rowB (rows.length : Nat)))) = true := h
    simp only [Bool.and_eq_true] at h
    obtain ⟨t, rfl⟩ := titleB_str h.1
    exact ⟨t, rows, rfl, h.1, (by intro e; rw [e] at h; cases h.2.1), h.2.2⟩
theorem w_is_book (n : Nat) (h : okB d = true) : callAt T (n + 8) 25 [d] S = .ok (.bl (bookB d)) S := by
  have hdat := ok_dat _ h
  by_cases ht : ∃ xs, d = .tup xs
  · obtain ⟨ps, rfl⟩ := ht
    obtain ⟨hl, hk⟩ := ok_tup h
    have e : bookB (.tup ps) = (!ps.isEmpty && (ps.all progB && (pairsOf (ps.map headT)).all ltP)) := rfl
    refine call_pb (fd := ⟨1, 4, b_is_book⟩) rfl rfl ?_
    have c0 : cmpD .eq (.int (ps.length : Nat)) (.int 0) = some ps.isEmpty := by
      simp only [cmpD, eqD_int]
      cases ps with
      | nil => rfl
      | cons a r => simp only [List.length_cons, List.isEmpty_cons]; exact congrArg some (beq_eq_false_iff_ne.mpr (by omega))
    refine pb_if (x := ps.isEmpty || !ps.all progB) (?_ : Pv _ _ _ _ (.bl (false || (ps.isEmpty || !ps.all progB)))) (fun z => ?_) fun z => ?_
    · refine pv_or (pv_not (x := true) (pv_istup (pv_var (d := .tup ps) rfl) hdat)) fun _ => pv_or (pv_cmp (d1 := .int (ps.length : Nat)) (d2 := .int 0) (pv_blt (pvs_1 (pv_var (d := .tup ps) rfl)) (len_tup ps)) pv_con c0) fun _ => pv_not (pv_blt (pvs_1 (pv_comp (g := fun z => .bl (progB z)) (pvs_1 (pv_var (d := .tup ps) rfl)) (show itD .seq [.tup ps] = some ps from rfl) (by omega) fun x hx => ?_)) (all_map _))
      exact ⟨[some (.tup ps), some x, none, none], rfl, pv_call (pvs_1 (pv_var rfl)) (w_is_program n (oks_mem hk hx))⟩
    · have e2 : bookB (.tup ps) = false := by
        rw [e]
        rcases Bool.or_eq_true_iff.mp z with z | z
        · rw [z]; rfl
        · rw [show ps.all progB = false by simpa using z]
          cases ps.isEmpty <;> rfl
      rw [e2]
      exact pb_ret pv_con
    · obtain ⟨z1, z2⟩ := Bool.or_eq_false_iff.mp z
      have z2 : ps.all progB = true := by simpa using z2
      have e2 : bookB (.tup ps) = (pairsOf (ps.map headT)).all ltP := by
        rw [e, z1, z2]; rfl
      rw [e2]
      have hs : ∀ t ∈ ps.map headT, ∃ x, t = .str x := fun t htt => by
        obtain ⟨p, hp, rfl⟩ := List.mem_map.mp htt
        obtain ⟨t, rows, rfl, _⟩ := prog_shape (List.all_eq_true.mp z2 p hp)
        exact ⟨t, rfl⟩
      refine pb_ret (pv_call (ds := [.lst (ps.map headT)]) (pvs_1 (pv_comp (g := headT) (pvs_1 (pv_var (d := .tup ps) rfl)) (show itD .seq [.tup ps] = some ps from rfl) (by omega) fun x hx => ?_)) (w_are_rising (n + 6) hs (by rw [List.length_map]; omega)))
      obtain ⟨t, rows, rfl, _⟩ := prog_shape (List.all_eq_true.mp z2 x hx)
      exact ⟨[some (.tup ps), none, some (.str t), some (.tup rows)], rfl, pv_var rfl⟩
  · have e : bookB d = false := by cases d <;> first | rfl | exact absurd ⟨_, rfl⟩ ht
    have e2 : isTupT d = false := by cases d <;> first | rfl | exact absurd ⟨_, rfl⟩ ht
    have q := pv_or (y := true) (b := .or (.cmp .eq (.blt .len [.var 0]) (.con (.int 0))) (.not (.blt .all [.comp false (.name 1) .seq [.var 0] [] (.call 24 [.var 1])]))) (pv_not (pv_istup (F := callAt T (n + 7)) (S := S) (env := startE [d] 4) (pv_var (i := 0) (d := d) rfl) hdat)) fun z => by rw [e2] at z; cases z
    rw [e2] at q
    rw [e]
    exact call_pb (fd := ⟨1, 4, b_is_book⟩) rfl rfl (pb_if q (fun _ => pb_ret pv_con) fun z => by cases z)
end

end MP

set_option maxHeartbeats 0
namespace MP
open PySem L2

/-! books: the law's look -/
def shapeB : D → Bool
  | .tup [a, _] => titleB a
  | _ => false
def rowsB : D → Bool
  | .tup rows => !rows.isEmpty && rows.all (rowB (rows.length : Nat))
  | _ => false
theorem prog_two (a b : D) : progB (.tup [a, b]) = (titleB a && rowsB b) := by
  cases b <;> first | rfl | (show false = (titleB a && false); rw [Bool.and_false])
theorem prog_shapeF {p : D} (h : shapeB p = false) : progB p = false := by
  cases p <;> try rfl
  rename_i xs
  match xs, h with
  | [], _ => rfl
  | [a], _ => rfl
  | [a, b], h => rw [prog_two, show titleB a = false from h]; rfl
  | a :: b :: c :: r, _ => cases b <;> rfl
theorem shape_T {p : D} (h : shapeB p = true) : ∃ a b, p = .tup [a, b] ∧ titleB a = true := by
  cases p <;> try (cases h; done)
  rename_i xs
  match xs, h with
  | [a, b], h => exact ⟨a, b, rfl, h⟩
section
variable {F : Fn} {env : Env} {S : Store}
theorem pv_shape {i f : Nat} {p : D} (hv : env[i]? = some (some p)) (hp : okB p = true) (ht : ∀ t, okB t = true → F f [t] S = .ok (.bl (titleB t)) S) :
    Pv F env S (.or (.not (.blt .isinst [.var i, .con (.ty "tuple")])) (.or (.cmp .ne (.blt .len [.var i]) (.con (.int 2))) (.not (.call f [.ix (.var i) (.con (.int 0))])))) (.bl (!shapeB p)) := by
  have hdat := ok_dat _ hp
  by_cases h1 : ∃ xs, p = .tup xs
  · obtain ⟨xs, rfl⟩ := h1
    have c0 : cmpD .ne (.int (xs.length : Nat)) (.int 2) = some (!decide (xs.length = 2)) := by
      simp only [cmpD, eqD_int]
      by_cases e : xs.length = 2
      · rw [e]; rfl
      · rw [decide_eq_false e]
        show some (!((xs.length : Int) == 2)) = _
        rw [beq_eq_false_iff_ne.mpr (by omega)]
    have q1 := pv_not (pv_istup (F := F) (S := S) (env := env) (pv_var hv) hdat)
    have q2 := pv_cmp (F := F) (S := S) (env := env) (o := .ne) (d1 := .int (xs.length : Nat)) (d2 := .int 2) (pv_blt (pvs_1 (pv_var hv)) (len_tup xs)) pv_con c0
    by_cases e : xs.length = 2
    · match xs, e with
      | [a, b], _ =>
        obtain ⟨oa, ob⟩ := oks_two (ok_tup hp).2
        exact pv_or q1 fun _ => pv_or q2 fun _ => pv_not (pv_call (pvs_1 (pv_ix (pv_var hv) (pv_con (d := .int 0)) rfl)) (ht a oa))
    · have e3 : shapeB (.tup xs) = false := by
        match xs, e with
        | [], _ => rfl
        | [a], _ => rfl
        | a :: b :: c :: r, _ => rfl
        | [a, b], e => exact absurd rfl e
      rw [decide_eq_false e] at q2
      rw [e3]
      exact pv_or (y := true) q1 fun _ => pv_or (y := false) q2 fun z => by cases z
  · have e2 : isTupT p = false := by cases p <;> first | rfl | exact absurd ⟨_, rfl⟩ h1
    have e3 : shapeB p = false := by cases p <;> first | rfl | exact absurd ⟨_, rfl⟩ h1
    have q1 := pv_not (pv_istup (F := F) (S := S) (env := env) (pv_var hv) hdat)
    rw [e2] at q1
    rw [e3]
    exact pv_or (y := true) q1 fun z => by cases z
end
section
variable {F : Fn} {env : Env} {d : D}
theorem eq_nil_tup {xs : List D} (h : datB (.tup xs) = true) (k : dep (.tup xs) ≤ 64) : cmpD .eq (.tup xs) (.tup []) = some xs.isEmpty := by
  simp only [cmpD]
  cases xs <;> rfl
theorem g_is_row (n : Nat) {k : Int} (h : okB d = true) (hd : dep d ≤ 64) : Gc (callAt T (n + 4)) 38 [d, .int k] (.bl (rowB k d)) := fun S => v_is_row n h hd
theorem g_rows (n : Nat) {b : D} {e0 e1 e3 e4 e5 e6 : Option D} (hb : okB b = true) (hd : dep b ≤ 64) : Gv (callAt T (n + 4)) [e0, e1, some b, e3, e4, e5, e6] (.or (.not (.blt .isinst [.var 2, .con (.ty "tuple")])) (.or (.cmp .eq (.var 2) (.tup [])) (.not (.blt .all [.comp false (.name 4) .seq [.var 2] [] (.call 38 [.var 4, .blt .len [.var 2]])])))) (.bl (!rowsB b)) := by
  have hdat := ok_dat _ hb
  by_cases h1 : ∃ xs, b = .tup xs
  · obtain ⟨rows, rfl⟩ := h1
    obtain ⟨rl, rk⟩ := ok_tup hb
    have e : (!rowsB (.tup rows)) = (false || (rows.isEmpty || !rows.all (rowB (rows.length : Nat)))) := by
      show (!(!rows.isEmpty && rows.all (rowB (rows.length : Nat)))) = _
      cases rows.isEmpty <;> rfl
    rw [e]
    refine gv_or (gv_pure fun S => pv_not (x := true) (pv_istup (pv_var (d := .tup rows) rfl) hdat)) fun _ => gv_or (gv_pure fun S => pv_cmp (d1 := .tup rows) (d2 := .tup []) (pv_var rfl) (pv_tup pvs_nil (by decide)) (eq_nil_tup hdat hd)) fun _ => gv_not (gv_blt (gvs_1 (gv_comp (g := fun z => .bl (rowB (rows.length : Nat) z)) (fun S => pvs_1 (pv_var (d := .tup rows) rfl)) (show itD .seq [.tup rows] = some rows from rfl) (by omega) fun x hx => ?_)) fun S => all_map _)
    have hx2 : dep x ≤ 64 := by
      have h2 := dep_mem hx
      simp only [dep] at hd
      omega
    exact ⟨[e0, e1, some (.tup rows), e3, some x, e5, e6], rfl, gv_call (gvs_pure fun S => pvs_2 (pv_var rfl) (pv_blt (pvs_1 (pv_var (d := .tup rows) rfl)) (len_tup rows))) (g_is_row n (oks_mem rk hx) hx2)⟩
  · have e2 : isTupT b = false := by cases b <;> first | rfl | exact absurd ⟨_, rfl⟩ h1
    have e3' : rowsB b = false := by cases b <;> first | rfl | exact absurd ⟨_, rfl⟩ h1
    rw [e3']
    refine gv_or (x := true) (y := true) (gv_pure fun S => ?_) fun z => by cases z
    have q1 := pv_not (pv_istup (F := callAt T (n + 4)) (S := S) (env := [e0, e1, some b, e3, e4, e5, e6]) (pv_var (i := 2) (d := b) rfl) hdat)
    rw [e2] at q1
    exact q1
theorem g_is_book (n : Nat) (h : okB d = true) (hd : dep d ≤ 64) : Gc (callAt T (n + 5)) 39 [d] (.bl (bookB d)) := by
  have hdat := ok_dat _ h
  refine call_gb (fd := ⟨1, 7, b__law_is_book⟩) rfl rfl ?_
  by_cases h1 : ∃ xs, d = .tup xs
  · obtain ⟨ps, rfl⟩ := h1
    obtain ⟨hl, hk⟩ := ok_tup h
    refine gb_if (x := ps.isEmpty) (?_ : Gv _ _ _ (.bl (false || ps.isEmpty))) (fun z => ?_) fun z => ?_
    · exact gv_pure fun S => pv_or (pv_not (x := true) (pv_istup (pv_var (d := .tup ps) rfl) hdat)) fun _ => pv_cmp (d1 := .tup ps) (d2 := .tup []) (pv_var rfl) (pv_tup pvs_nil (by decide)) (eq_nil_tup hdat hd)
    · have e : bookB (.tup ps) = false := by
        show (!ps.isEmpty && _) = false
        rw [z]; rfl
      rw [e]
      exact gb_ret (gv_pure fun S => pv_con)
    · have dp : ∀ p ∈ ps, dep p ≤ 63 := fun p hp => by
        have h2 := dep_mem hp
        simp only [dep] at hd
        omega
      cases ha : ps.all progB with
      | false =>
        have e : bookB (.tup ps) = false := by
          show (!ps.isEmpty && (ps.all progB && _)) = false
          rw [ha, z]; rfl
        rw [e]
        refine gb_for (I := fun en => ∃ a b, en = [some (.tup ps), a, b, none, none, none, none]) (g := progB) (gvs_pure fun S => pvs_1 (pv_var rfl)) (show itD .seq [.tup ps] = some ps from rfl) ⟨none, none, rfl⟩ (fun p hp en hI => ?_) fun z => by rw [ha] at z; cases z
        obtain ⟨a, b, rfl⟩ := hI
        refine ⟨[some (.tup ps), some p, b, none, none, none, none], rfl, fun hg => ?_, fun hg => ?_⟩
        · obtain ⟨t, rows, rfl, k1, k2, k3⟩ := prog_shape hg
          obtain ⟨oa, ob⟩ := oks_two (ok_tup (oks_mem hk hp)).2
          have dr := dp _ hp
          refine ⟨[some (.tup ps), some (.tup [.str t, .tup rows]), some (.tup rows), none, none, none, none], ?_, _, _, rfl⟩
          have c1 := fun S => pv_shape (F := callAt T (n + 4)) (S := S) (env := [some (.tup ps), some (.tup [.str t, .tup rows]), b, none, none, none, none]) (i := 1) (f := 36) rfl (oks_mem hk hp) fun t ot => by rw [← title_eq]; exact v_title (n + 3) (ok_dat _ ot) (ok_short ot)
          have c2 := g_rows n (e0 := some (.tup ps)) (e1 := some (.tup [.str t, .tup rows])) (e3 := none) (e4 := none) (e5 := none) (e6 := none) ob (by simp only [dep, deps] at dr ⊢; omega)
          rw [show shapeB (.tup [.str t, .tup rows]) = true from k1] at c1
          rw [show rowsB (.tup rows) = true by rw [prog_two, k1] at hg; exact hg] at c2
          exact gn_if (gv_pure c1) (gn_asg (gv_pure fun S => pv_ix (pv_var (d := .tup [.str t, .tup rows]) rfl) (pv_con (d := .int 1)) rfl) rfl (gn_if c2 gn_nil))
        · have c1 := fun S => pv_shape (F := callAt T (n + 4)) (S := S) (env := [some (.tup ps), some p, b, none, none, none, none]) (i := 1) (f := 36) rfl (oks_mem hk hp) fun t ot => by rw [← title_eq]; exact v_title (n + 3) (ok_dat _ ot) (ok_short ot)
          refine gb_if (gv_pure c1) (fun _ => gb_ret (gv_pure fun S => pv_con)) fun hs => ?_
          have hs : shapeB p = true := by simpa using hs
          obtain ⟨u, v, rfl, k1⟩ := shape_T hs
          obtain ⟨oa, ob⟩ := oks_two (ok_tup (oks_mem hk hp)).2
          have dr := dp _ hp
          have c2 := g_rows n (e0 := some (.tup ps)) (e1 := some (.tup [u, v])) (e3 := none) (e4 := none) (e5 := none) (e6 := none) ob (by simp only [dep, deps] at dr ⊢; omega)
          rw [show rowsB v = false by rw [prog_two, k1] at hg; exact hg] at c2
          exact gb_asg (gv_pure fun S => pv_ix (pv_var (d := .tup [u, v]) rfl) (pv_con (d := .int 1)) rfl) rfl (gb_if c2 (fun _ => gb_ret (gv_pure fun S => pv_con)) fun z => by cases z)
      | true =>
        have e : bookB (.tup ps) = (pairsOf (ps.map headT)).all ltP := by
          show (!ps.isEmpty && (ps.all progB && _)) = _
          rw [ha, z]; rfl
        rw [e]
        refine gb_for (I := fun en => ∃ a b, en = [some (.tup ps), a, b, none, none, none, none]) (g := progB) (gvs_pure fun S => pvs_1 (pv_var rfl)) (show itD .seq [.tup ps] = some ps from rfl) ⟨none, none, rfl⟩ (fun p hp en hI => ?_) fun z en hI => ?_
        · obtain ⟨a, b, rfl⟩ := hI
          have hg := List.all_eq_true.mp ha p hp
          refine ⟨[some (.tup ps), some p, b, none, none, none, none], rfl, fun _ => ?_, fun z => by rw [hg] at z; cases z⟩
          obtain ⟨t, rows, rfl, k1, k2, k3⟩ := prog_shape hg
          obtain ⟨oa, ob⟩ := oks_two (ok_tup (oks_mem hk hp)).2
          have dr := dp _ hp
          refine ⟨[some (.tup ps), some (.tup [.str t, .tup rows]), some (.tup rows), none, none, none, none], ?_, _, _, rfl⟩
          have c1 := fun S => pv_shape (F := callAt T (n + 4)) (S := S) (env := [some (.tup ps), some (.tup [.str t, .tup rows]), b, none, none, none, none]) (i := 1) (f := 36) rfl (oks_mem hk hp) fun t ot => by rw [← title_eq]; exact v_title (n + 3) (ok_dat _ ot) (ok_short ot)
          have c2 := g_rows n (e0 := some (.tup ps)) (e1 := some (.tup [.str t, .tup rows])) (e3 := none) (e4 := none) (e5 := none) (e6 := none) ob (by simp only [dep, deps] at dr ⊢; omega)
          rw [show shapeB (.tup [.str t, .tup rows]) = true from k1] at c1
          rw [show rowsB (.tup rows) = true by rw [prog_two, k1] at hg; exact hg] at c2
          exact gn_if (gv_pure c1) (gn_asg (gv_pure fun S => pv_ix (pv_var (d := .tup [.str t, .tup rows]) rfl) (pv_con (d := .int 1)) rfl) rfl (gn_if c2 gn_nil))
        · obtain ⟨a, b, rfl⟩ := hI
          have hs : ∀ t ∈ ps.map headT, ∃ x, t = .str x := fun t htt => by
            obtain ⟨p, hp, rfl⟩ := List.mem_map.mp htt
            obtain ⟨t, rows, rfl, _⟩ := prog_shape (List.all_eq_true.mp ha p hp)
            exact ⟨t, rfl⟩
          refine gb_pure fun S => pb_asg (d1 := .lst (ps.map headT)) (env' := [some (.tup ps), a, b, some (.lst (ps.map headT)), none, none, none]) (pv_comp (g := headT) (pvs_1 (pv_var (d := .tup ps) rfl)) (show itD .seq [.tup ps] = some ps from rfl) (by omega) fun x hx => ?_) rfl (pb_ret (pv_rising (i := 3) (p1 := 5) (p2 := 6) rfl hs (by rw [List.length_map]; omega) fun u v => ⟨[some (.tup ps), a, b, some (.lst (ps.map headT)), none, some u, some v], rfl, rfl, rfl⟩))
          obtain ⟨t, rows, rfl, _⟩ := prog_shape (List.all_eq_true.mp ha x hx)
          exact ⟨[some (.tup ps), some (.tup [.str t, .tup rows]), b, none, none, none, none], rfl, pv_ix (pv_var (d := .tup [.str t, .tup rows]) rfl) (pv_con (d := .int 0)) rfl⟩
  · have e : bookB d = false := by cases d <;> first | rfl | exact absurd ⟨_, rfl⟩ h1
    have e2 : isTupT d = false := by cases d <;> first | rfl | exact absurd ⟨_, rfl⟩ h1
    rw [e]
    refine gb_if (x := true) (gv_pure fun S => ?_) (fun _ => gb_ret (gv_pure fun S => pv_con)) fun z => by cases z
    have q := pv_or (y := true) (b := .cmp .eq (.var 0) (.tup [])) (pv_not (pv_istup (F := callAt T (n + 4)) (S := S) (env := startE [d] 7) (pv_var (i := 0) (d := d) rfl) hdat)) fun z => by rw [e2] at z; cases z
    rw [e2] at q
    exact q
end

end MP

set_option maxHeartbeats 0
namespace MP
open PySem L2

/-! drawn rows and books -/
abbrev words18 : List D := [.str "fork", .str "exec", .str "end", .str "wait", .str "pause", .str "read", .str "send", .str "mask", .str "unmask", .str "handle", .str "return", .str "session", .str "group", .str "front", .str "taker", .str "say", .str "goto", .str "if"]
theorem d_words (n : Nat) (S : Store) : callAt T (n + 1) 31 [] S = .ok (.lst words18) S := by kernel_rfl
def Drawn (n l m : Nat) (w : Str) : Prop := ∀ (k : Int) (B S : Store), HandB B S l m → 0 < k → k ≤ 40 → ∃ d S', callAt T (n + 4) 30 [.ref l, .str w, .int k] S = .ok d S' ∧ Parts k w d ∧ HandB B S' l m
theorem drawn_all (n l m : Nat) : ∀ x ∈ words18, ∃ w, x = .str w ∧ p9B 8 (.str w) = true ∧ Drawn n l m w := by
  intro x hx
  simp only [words18, List.mem_cons, List.not_mem_nil, or_false] at hx
  rcases hx with rfl | rfl | rfl | rfl | rfl | rfl | rfl | rfl | rfl | rfl | rfl | rfl | rfl | rfl | rfl | rfl | rfl | rfl
  · exact ⟨_, rfl, by kernel_rfl, fun k B S H k0 k1 => d_p_fork H k0 k1⟩
  · exact ⟨_, rfl, by kernel_rfl, fun k B S H k0 k1 => d_p_exec H k0 k1⟩
  · exact ⟨_, rfl, by kernel_rfl, fun k B S H k0 k1 => d_p_end H k0 k1⟩
  · exact ⟨_, rfl, by kernel_rfl, fun k B S H k0 k1 => d_p_wait H k0 k1⟩
  · exact ⟨_, rfl, by kernel_rfl, fun k B S H k0 k1 => d_p_pause H k0 k1⟩
  · exact ⟨_, rfl, by kernel_rfl, fun k B S H k0 k1 => d_p_read H k0 k1⟩
  · exact ⟨_, rfl, by kernel_rfl, fun k B S H k0 k1 => d_p_send H k0 k1⟩
  · exact ⟨_, rfl, by kernel_rfl, fun k B S H k0 k1 => d_p_mask H k0 k1⟩
  · exact ⟨_, rfl, by kernel_rfl, fun k B S H k0 k1 => d_p_unmask H k0 k1⟩
  · exact ⟨_, rfl, by kernel_rfl, fun k B S H k0 k1 => d_p_handle H k0 k1⟩
  · exact ⟨_, rfl, by kernel_rfl, fun k B S H k0 k1 => d_p_return H k0 k1⟩
  · exact ⟨_, rfl, by kernel_rfl, fun k B S H k0 k1 => d_p_session H k0 k1⟩
  · exact ⟨_, rfl, by kernel_rfl, fun k B S H k0 k1 => d_p_group H k0 k1⟩
  · exact ⟨_, rfl, by kernel_rfl, fun k B S H k0 k1 => d_p_front H k0 k1⟩
  · exact ⟨_, rfl, by kernel_rfl, fun k B S H k0 k1 => d_p_taker H k0 k1⟩
  · exact ⟨_, rfl, by kernel_rfl, fun k B S H k0 k1 => d_p_say H k0 k1⟩
  · exact ⟨_, rfl, by kernel_rfl, fun k B S H k0 k1 => d_p_goto H k0 k1⟩
  · exact ⟨_, rfl, by kernel_rfl, fun k B S H k0 k1 => d_p_if H k0 k1⟩
structure RowOk (k : Int) (d : D) : Prop where
  ok : okB d = true
  dp : dep d ≤ 6
  row : rowB k d = true
  sh : shB 1000000000 9 d = true
  w : wt d ≤ 142
  as : asB true d = true
section
variable {B S : Store} {l m : Nat} {k : Int}
theorem d_row (n : Nat) (H : HandB B S l m) (k0 : 0 < k) (k1 : k ≤ 40) : ∃ d S', callAt T (n + 5) 32 [.ref l, .int k] S = .ok d S' ∧ RowOk k d ∧ HandB B S' l m := by
  refine call_hb (fd := ⟨2, 3, b__law_row⟩) rfl rfl ?_ H
  refine hb_asg (A := fun x => x ∈ words18) (hv_of (n := n + 2) T_pick T_of rfl (hv_pure (d := .lst words18) (fun S => pv_call pvs_nil (d_words _ S)) ⟨words18, .inl rfl, by decide, by decide, fun x hx => hx⟩)) fun d hd => ?_
  obtain ⟨w, rfl, hw, hdr⟩ := drawn_all n l m d hd
  refine ⟨_, rfl, hb_ret (hv_bin (A := fun d => d = .tup [.str w]) (hv_pure (fun S => pv_tup (pvs_1 (pv_var rfl)) (by show 1 ≤ 100000; decide)) rfl) fun d1 e1 => hv_call (hvs_pure (ds := [.ref l, .str w, .int k]) (fun S => pvs_cons (pv_var rfl) (pvs_2 (pv_var rfl) (pv_var rfl))) fun S H => ?_))⟩
  obtain ⟨d, S', c1, ⟨ps, rfl, P⟩, c3⟩ := hdr k B S H k0 k1
  refine ⟨.tup ps, S', c1, ?_, c3⟩
  subst e1
  have zl : [D.str w].length + ps.length ≤ LIM := by have := P.len; show 1 + ps.length ≤ 100000; omega
  obtain ⟨w1, w2, w3, w4⟩ := p9_inv hw
  have h6 := P.as
  have h1 := P.oks
  have h2 := P.len
  have h3 := P.dep
  have h4 := P.sh
  have h5 := P.wt
  refine ⟨.tup (.str w :: ps), fun S => ?_, ?_, ?_, P.row, ?_, ?_, ?_⟩
  · show binD .add (.tup [.str w]) (.tup ps) = _
    simp only [binD, if_pos zl]; rfl
  · rw [okB, decide_eq_true (by rw [List.length_cons]; omega), oksB, w1, h1]; rfl
  · simp only [dep, deps]; omega
  · rw [shB, decide_eq_true (by rw [List.length_cons]; omega), shsB, w2, h4]; rfl
  · simp only [wt, wts] at w3 ⊢; omega
  · rw [asB, assB, w4, h6]; rfl
end

end MP

set_option maxHeartbeats 0
namespace MP
open PySem L2

/-! titles -/
abbrev heads16 : Str := "acegikmoqsuwybdf"
def letterN (i : Nat) : Nat := (heads16.cps.toList[5 * i % 16]?).getD 0
structure Tit (t : Str) (c : Nat) : Prop where
  hd : t.cps.toList.headD 0 = c
  ok : titleB (.str t) = true
  sh : okB (.str t) = true
  asc : ∀ c ∈ t.cps.toList, c < 128
theorem letter_ix {i : Nat} : ixD (.str heads16) (.int ((5 * i % 16 : Nat) : Int)) = some (.str ⟨#[letterN i]⟩) := by
  have hl : heads16.cps.toList.length = 16 := by decide
  have hz : heads16.length ≤ LIM := by decide
  have h2 : 5 * i % 16 < heads16.cps.toList.length := by rw [hl]; omega
  simp only [ixD, if_pos hz, atI]
  rw [ixN_lt (by omega) (by omega), Int.toNat_natCast]
  unfold letterN
  rw [Option.bind_some, List.getElem?_eq_getElem h2]
  rfl
theorem letter_in (i : Nat) : letterN i ∈ heads16.cps.toList := by
  have hl : heads16.cps.toList.length = 16 := by decide
  have h2 : 5 * i % 16 < heads16.cps.toList.length := by rw [hl]; omega
  unfold letterN
  rw [List.getElem?_eq_getElem h2]
  exact List.getElem_mem h2
theorem tit_of {i : Nat} {cs : List Nat} {x : Str} (hx : x.cps.toList = cs) (hl : cs.length ≤ 6) (hc : ∀ c ∈ cs, c ∈ ("abcxyz" : Str).cps.toList) : Tit (⟨#[letterN i]⟩ ++ x) (letterN i) := by
  have e : ((⟨#[letterN i]⟩ ++ x : Str)).cps.toList = letterN i :: cs := by
    show (#[letterN i] ++ x.cps).toList = _
    rw [Array.toList_append, hx]; rfl
  generalize ((⟨#[letterN i]⟩ ++ x : Str)) = t at e
  have hlen : t.length = cs.length + 1 := by
    have : t.length = t.cps.toList.length := by simp [Str.length]
    rw [this, e, List.length_cons]
  have s1 : ∀ c ∈ heads16.cps.toList, c ∈ letters.cps.toList ∧ c < 128 := by decide +kernel
  have s2 : ∀ c ∈ ("abcxyz" : Str).cps.toList, c ∈ letters.cps.toList ∧ c < 128 := by decide +kernel
  have all : ∀ c ∈ t.cps.toList, c ∈ letters.cps.toList ∧ c < 128 := fun c h => by
    rw [e] at h
    rcases List.mem_cons.mp h with rfl | h
    · exact s1 _ (letter_in i)
    · exact s2 _ (hc c h)
  refine ⟨by rw [e]; rfl, ?_, ?_, fun c h => (all c h).2⟩
  · show ((decide (1 ≤ t.length) && decide (t.length ≤ 8)) && (signs t).all inLet) = true
    rw [decide_eq_true (by omega), decide_eq_true (by omega)]
    refine List.all_eq_true.mpr fun y hy => ?_
    obtain ⟨c, rfl, hc⟩ := mem_signs hy
    exact decide_eq_true (all c hc).1
  · simp only [okB, decide_eq_true_iff]
    omega

end MP

set_option maxHeartbeats 0
namespace MP
open PySem L2

/-! a thing with one thing otherwise at a path -/
theorem cut_pre {α : Type} (xs : List α) (k : Nat) : cutD xs none (some (k : Int)) = xs.take k := by
  unfold cutD
  rw [HT.sIx_none, HT.sIx_nat, List.drop_zero, Nat.sub_zero]
  by_cases h : k ≤ xs.length
  · rw [Nat.min_eq_left h]
  · rw [Nat.min_eq_right (by omega), List.take_of_length_le (Nat.le_refl _), List.take_of_length_le (by omega)]
theorem cut_post {α : Type} (xs : List α) (k : Nat) : cutD xs (some (k : Int)) none = xs.drop k := by
  unfold cutD
  rw [HT.sIx_none, HT.sIx_nat]
  by_cases h : k ≤ xs.length
  · rw [Nat.min_eq_left h, List.take_of_length_le (by rw [List.length_drop]; exact Nat.le_refl _)]
  · rw [Nat.min_eq_right (by omega), Nat.sub_self, List.take_zero, List.drop_of_length_le (by omega)]
/-- where a path leads -/
inductive PathTo : D → List Nat → D → Prop
  | nil (d : D) : PathTo d [] d
  | cons {xs : List D} {k : Nat} {y e : D} {is : List Nat} : xs[k]? = some y → PathTo y is e → PathTo (.tup xs) (k :: is) e
theorem PathTo.snoc {d : D} {is : List Nat} {xs : List D} {k : Nat} {y : D} (h : PathTo d is (.tup xs)) (hk : xs[k]? = some y) : PathTo d (is ++ [k]) y := by
  generalize he : D.tup xs = e at h
  induction h with
  | nil d => subst he; exact .cons hk (.nil y)
  | cons h1 h2 ih => exact .cons h1 (ih he)
theorem PathTo.dep {d e : D} {is : List Nat} (h : PathTo d is e) : is.length + MP.dep e ≤ MP.dep d := by
  induction h with
  | nil d => simp
  | cons h1 h2 ih =>
    have := dep_mem (List.mem_of_getElem? h1)
    simp only [List.length_cons, MP.dep]; omega
theorem PathTo.sh {M L : Nat} {d e : D} {is : List Nat} (h : PathTo d is e) (s : shB M L d = true) : shB M L e = true := by
  induction h with
  | nil d => exact s
  | cons h1 h2 ih =>
    simp only [shB, Bool.and_eq_true] at s
    exact ih (shs_mem s.2 (List.mem_of_getElem? h1))
theorem PathTo.wt {d e : D} {is : List Nat} (h : PathTo d is e) : MP.wt e ≤ MP.wt d := by
  induction h with
  | nil d => exact Nat.le_refl _
  | cons h1 h2 ih =>
    have := wts_mem (List.mem_of_getElem? h1)
    simp only [MP.wt]; omega
theorem PathTo.as {nl : Bool} {d e : D} {is : List Nat} (h : PathTo d is e) (s : asB nl d = true) : asB nl e = true := by
  induction h with
  | nil d => exact s
  | cons h1 h2 ih =>
    simp only [asB] at s
    exact ih (ass_mem s (List.mem_of_getElem? h1))
/-- what the law puts there -/
structure PutOk (M L : Nat) (d p r : D) : Prop where
  sh : shB M L r = true
  wt : MP.wt r ≤ MP.wt d + MP.wt p
  dp : MP.dep r ≤ MP.dep d + MP.dep p
  as : asB false d = true → asB false p = true → asB false r = true
theorem atI_nat {α : Type} {xs : List α} {k : Nat} {y : α} (h : xs[k]? = some y) : atI xs (k : Int) = some y := by
  unfold atI
  obtain ⟨h1, h2⟩ := List.getElem?_eq_some_iff.mp h
  rw [ixN_lt (by omega) (by omega), Option.bind_some, Int.toNat_natCast]
  exact h
theorem split_at {xs : List D} {k : Nat} {y : D} (h : xs[k]? = some y) : wts (xs.take k) + (wt y + 1) + wts (xs.drop (k + 1)) = wts xs ∧ (xs.take k).length + 1 + (xs.drop (k + 1)).length = xs.length := by
  obtain ⟨h1, h2⟩ := List.getElem?_eq_some_iff.mp h
  have e : xs = xs.take k ++ y :: xs.drop (k + 1) := by
    have := List.take_append_drop k xs
    rw [List.drop_eq_getElem_cons h1, h2] at this
    exact this.symm
  constructor
  · have e2 := congrArg wts e
    rw [wts_app, wts] at e2
    omega
  · rw [List.length_take, List.length_drop]; omega
section
variable {S : Store}
theorem put_step {xs : List D} {k : Nat} {y z : D} (h : xs[k]? = some y) {M L : Nat} {p : D} (sx : shB M L (.tup xs) = true) (P : PutOk M L y p z) : PutOk M L (.tup xs) p (.tup ((xs.take k ++ [z]) ++ xs.drop (k + 1))) := by
  obtain ⟨w1, w2⟩ := split_at h
  simp only [shB, Bool.and_eq_true, decide_eq_true_iff] at sx
  have hy := dep_mem (List.mem_of_getElem? h)
  refine ⟨?_, ?_, ?_, fun a1 a2 => ?_⟩
  · simp only [shB, Bool.and_eq_true, decide_eq_true_iff]
    refine ⟨by rw [List.length_append, List.length_append, List.length_singleton]; omega, shs_of fun x hx => ?_⟩
    rcases List.mem_append.mp hx with hx | hx
    · rcases List.mem_append.mp hx with hx | hx
      · exact shs_mem sx.2 (List.mem_of_mem_take hx)
      · rw [List.mem_singleton] at hx
        subst hx
        exact P.sh
    · exact shs_mem sx.2 (List.mem_of_mem_drop hx)
  · have := P.wt
    simp only [wt]
    rw [wts_app, wts_app, wts, wts]
    omega
  · have h3 := P.dp
    have : deps ((xs.take k ++ [z]) ++ xs.drop (k + 1)) ≤ deps xs + dep p := deps_le fun x hx => by
      rcases List.mem_append.mp hx with hx | hx
      · rcases List.mem_append.mp hx with hx | hx
        · have := dep_mem (List.mem_of_mem_take hx); omega
        · rw [List.mem_singleton] at hx
          subst hx
          omega
      · have := dep_mem (List.mem_of_mem_drop hx); omega
    simp only [dep]; omega
  · simp only [asB] at a1 ⊢
    refine ass_of fun x hx => ?_
    rcases List.mem_append.mp hx with hx | hx
    · rcases List.mem_append.mp hx with hx | hx
      · exact ass_mem a1 (List.mem_of_mem_take hx)
      · rw [List.mem_singleton] at hx
        subst hx
        exact P.as (ass_mem a1 (List.mem_of_getElem? h)) a2
    · exact ass_mem a1 (List.mem_of_mem_drop hx)
theorem eq_lst_nil {is : List Nat} : cmpD .eq (.lst (is.map fun (k : Nat) => .int (k : Nat))) (.lst []) = some is.isEmpty := by
  simp only [cmpD]
  have e : (is.map fun (k : Nat) => D.int (k : Nat)) = (is.map fun (k : Nat) => (k : Int)).map D.int := by rw [List.map_map]; rfl
  rw [e, eqD_ints_nil]
  cases is <;> rfl
end

end MP

set_option maxHeartbeats 0
namespace MP
open PySem L2

/-! another thing in a part's place -/
section
variable {B : Store} {l m : Nat} {F : Fn} {env : Env} {a b c e : E} {P A G : D → Prop}
theorem Hvs.weak {es : List E} {P Q : List D → Prop} (h : Hvs B l m F env es P) (k : ∀ ds, P ds → Q ds) : Hvs B l m F env es Q := fun S H => by
  obtain ⟨d, S', h1, h2, h3⟩ := h S H
  exact ⟨d, S', h1, k d h2, h3⟩
theorem hb_par {i j : Nat} {r : List SA} (h : Hv B l m F env a A) (k : Hv B l m F env b G) (hi : i < env.length ∧ j < env.length) (c : ∀ d1 d2, A d1 → G d2 → Hb B l m F ((env.set i (some d1)).set j (some d2)) r P) : Hb B l m F env (.par i j a b :: r) P := fun S H => by
  obtain ⟨d1, S1, h1, h2, h3⟩ := h S H
  obtain ⟨d2, S2, k1, k2, k3⟩ := k S1 h3
  obtain ⟨d, S3, c1, c2, c3⟩ := c d1 d2 h2 k2 S2 k3
  exact ⟨d, S3, by simp only [exs, ex, h1, k1, Out.of, if_pos hi, Out.then, c1], c2, c3⟩
theorem hv_ix (h : Hv B l m F env a A) (k : ∀ d1, A d1 → Hv B l m F env b fun d2 => ∃ d, (∀ S, ixD (deref S d1) d2 = some d) ∧ P d) : Hv B l m F env (.ix a b) P := fun S H => by
  obtain ⟨d1, S1, h1, h2, h3⟩ := h S H
  obtain ⟨d2, S2, k1, ⟨d, k2, k3⟩, k4⟩ := k d1 h2 S1 h3
  exact ⟨d, S2, by simp only [ev, h1, k1, Res.bind_ok, k2, opt], k3, k4⟩
theorem evs_app {fs : List E} : ∀ (es : List E) (S : Store), evs F (es ++ fs) env S = (evs F es env S).bind fun ds S1 => (evs F fs env S1).bind fun zs S2 => .ok (ds ++ zs) S2
  | [], S => by
    simp only [List.nil_append, evs, Res.bind_ok]
    cases evs F fs env S <;> rfl
  | e :: es, S => by
    simp only [List.cons_append, evs, evs_app es]
    cases ev F e env S with
    | bad => rfl
    | ok d S1 =>
      simp only [Res.bind_ok]
      cases evs F es env S1 with
      | bad => rfl
      | ok ds S2 =>
        simp only [Res.bind_ok]
        cases evs F fs env S2 <;> rfl
theorem hvs_snoc {es : List E} {ds : List D} (h : ∀ S, Pvs F env S es ds) (k : Hv B l m F env e A) : Hvs B l m F env (es ++ [e]) (fun zs => ∃ d, zs = ds ++ [d] ∧ A d) := fun S H => by
  obtain ⟨d, S1, k1, k2, k3⟩ := k S H
  have h1 : evs F es env S = .ok ds S := h S
  exact ⟨ds ++ [d], S1, by rw [evs_app, h1]; simp only [Res.bind_ok, evs, k1], ⟨d, rfl, k2⟩, k3⟩
end
structure OddOk (M L : Nat) (x d : D) : Prop where
  sh : shB (2 * M + 100000010) (2 * L + 12) d = true
  wt : MP.wt d ≤ 16 * MP.wt x + 400
  dp : MP.dep d ≤ MP.dep x + 4
  as : asB true x = true → asB false d = true
/-- a thing among -/
structure It (M L : Nat) (x d : D) : Prop where
  sh : shB (2 * M + 100000010) (2 * L + 12) d = true
  dp : MP.dep d ≤ MP.dep x + 3
  as : asB true x = true → asB false d = true
def Cg (d : D) : Prop := shB 100000000 12 d = true ∧ wt d ≤ 100 ∧ dep d ≤ 2 ∧ asB false d = true
section
variable {M L : Nat} {x d : D}
theorem Cg.odd (h : Cg d) : OddOk M L x d := ⟨sh_mono (by omega) (by omega) d h.1, by have := h.2.1; omega, by have := h.2.2.1; omega, fun _ => h.2.2.2⟩
theorem Cg.it (h : Cg d) : It M L x d := ⟨sh_mono (by omega) (by omega) d h.1, by have := h.2.2.1; omega, fun _ => h.2.2.2⟩
theorem it_self (h : shB M L x = true) : It M L x x := ⟨sh_mono (by omega) (by omega) x h, by omega, as_weak x⟩
theorem it_mem {xs : List D} (h : shB M L (.tup xs) = true) (hd : d ∈ xs) : It M L (.tup xs) d := by
  have h2 := h
  simp only [shB, Bool.and_eq_true] at h2
  have := dep_mem hd
  exact ⟨sh_mono (by omega) (by omega) d (shs_mem h2.2 hd), by simp only [dep]; omega, fun z => as_weak d (ass_mem (by simpa only [asB] using z) hd)⟩
theorem odd_tup {ys : List D} (hl : ys.length ≤ 2 * L + 12) (hw : wts ys ≤ 16 * wt x + 400) (h : ∀ y ∈ ys, It M L x y) : OddOk M L x (.tup ys) := by
  refine ⟨?_, by simpa only [wt] using hw, ?_, fun z => ?_⟩
  · simp only [shB, Bool.and_eq_true, decide_eq_true_iff]
    exact ⟨hl, shs_of fun y hy => (h y hy).sh⟩
  · have := deps_le (j := dep x + 3) fun y hy => (h y hy).dp
    simp only [dep]; omega
  · simp only [asB]
    exact ass_of fun y hy => (h y hy).as z
theorem odd_lst {ys : List D} (hl : ys.length ≤ 2 * L + 12) (hw : wts ys ≤ 16 * wt x + 400) (h : ∀ y ∈ ys, It M L x y) : OddOk M L x (.lst ys) := by
  refine ⟨?_, by simpa only [wt] using hw, ?_, fun z => ?_⟩
  · simp only [shB, Bool.and_eq_true, decide_eq_true_iff]
    exact ⟨hl, shs_of fun y hy => (h y hy).sh⟩
  · have := deps_le (j := dep x + 3) fun y hy => (h y hy).dp
    simp only [dep]; omega
  · simp only [asB]
    exact ass_of fun y hy => (h y hy).as z
theorem odd_str {s : Str} (h : chS s) (hw : s.length ≤ 16 * wt x + 400) (ha : asB true x = true → ∀ c ∈ s.cps.toList, c < 128) : OddOk M L x (.str s) :=
  ⟨by simp only [shB]; exact List.all_eq_true.mpr fun c hc => decide_eq_true (h c hc), by simpa only [wt] using hw, Nat.zero_le _, fun z => by simp only [asB]; exact List.all_eq_true.mpr fun c hc => decide_eq_true (ha z c hc)⟩
theorem odd_int {i : Int} (h : i.natAbs ≤ 2 * M + 100000010) : OddOk M L x (.int i) := ⟨by simp only [shB, decide_eq_true_iff]; exact h, by simp only [wt]; omega, Nat.zero_le _, fun _ => rfl⟩
end
abbrev more12 : List D := [.non, .int 0, .int 1, .bl true, .tup [], .str "call", .str "self", .int (-1), .tup [.str "fork"], .str "kill", .str "reads", .tup [.str "a", .tup []]]
theorem more_g : ∀ d ∈ more12, Cg d := by
  intro d hd
  simp only [more12, List.mem_cons, List.not_mem_nil, or_false] at hd
  rcases hd with rfl | rfl | rfl | rfl | rfl | rfl | rfl | rfl | rfl | rfl | rfl | rfl <;> exact ⟨by kernel_rfl, by decide +kernel, by decide +kernel, by kernel_rfl⟩
abbrev more4 : List D := [.non, .int 0, .emp, .str "a"]
theorem more4_g : ∀ d ∈ more4, Cg d := by
  intro d hd
  simp only [more4, List.mem_cons, List.not_mem_nil, or_false] at hd
  rcases hd with rfl | rfl | rfl | rfl <;> exact ⟨by kernel_rfl, by decide +kernel, by decide +kernel, by kernel_rfl⟩
section
variable {B S : Store} {l m : Nat} {M L : Nat}
end

end MP

set_option maxHeartbeats 0
namespace MP
open PySem L2

theorem upper_ascii : ∀ cs : List Nat, (∀ c ∈ cs, c < 128) → (∀ c ∈ (Txt.upper ⟨cs.toArray⟩).cps.toList, c < 128) ∧ (Txt.upper ⟨cs.toArray⟩).length = cs.length
  | [], _ => ⟨fun c h => by (have h : c ∈ ([] : List Nat) := h; cases h), rfl⟩
  | c :: cs, h => by
    obtain ⟨h1, h2⟩ := upper_ascii cs fun z hz => h z (List.mem_cons_of_mem _ hz)
    have e : (⟨(c :: cs).toArray⟩ : Str) = ⟨#[c]⟩ ++ ⟨cs.toArray⟩ := by
      show _ = (⟨#[c] ++ cs.toArray⟩ : Str)
      congr 1
      simp
    have hc := h c List.mem_cons_self
    have e2 : Txt.upper ⟨(c :: cs).toArray⟩ = ⟨#[if 97 ≤ c ∧ c ≤ 122 then c - 32 else c]⟩ ++ Txt.upper ⟨cs.toArray⟩ := by
      rw [e, PySem.W.KOpn.upper_app, PySem.W.KOpn.upper_one hc]
    rw [e2]
    have e3 : ((⟨#[if 97 ≤ c ∧ c ≤ 122 then c - 32 else c]⟩ ++ Txt.upper ⟨cs.toArray⟩ : Str)).cps.toList = (if 97 ≤ c ∧ c ≤ 122 then c - 32 else c) :: (Txt.upper ⟨cs.toArray⟩).cps.toList := by
      show (#[if 97 ≤ c ∧ c ≤ 122 then c - 32 else c] ++ (Txt.upper ⟨cs.toArray⟩).cps).toList = _
      rw [Array.toList_append]; rfl
    refine ⟨fun z hz => ?_, ?_⟩
    · rw [e3] at hz
      rcases List.mem_cons.mp hz with rfl | hz
      · split <;> omega
      · exact h1 z hz
    · have l1 : ∀ s : Str, s.length = s.cps.toList.length := fun s => by simp [Str.length]
      rw [l1, e3, List.length_cons, ← l1, h2, List.length_cons]
theorem upper_up {t : Str} (h : ∀ c ∈ t.cps.toList, c < 128) : (∀ c ∈ (Txt.upper t).cps.toList, c < 128) ∧ (Txt.upper t).length = t.length := by
  have e : t = ⟨t.cps.toList.toArray⟩ := by simp
  have hl2 : t.cps.toList.length = t.length := by simp [Str.length]
  obtain ⟨h1, h2⟩ := upper_ascii t.cps.toList h
  rw [← e] at h1 h2
  exact ⟨h1, by omega⟩
theorem app_len (x y : Str) : (x ++ y).length = x.length + y.length := by
  show (x.cps ++ y.cps).size = _
  rw [Array.size_append]; rfl
theorem app_asc {x y : Str} (h : ∀ c ∈ x.cps.toList, c < 128) (k : ∀ c ∈ y.cps.toList, c < 128) : ∀ c ∈ (x ++ y).cps.toList, c < 128 := fun c hc => by
  rw [PySem.Str.cps_append, Array.toList_append] at hc
  exact (List.mem_append.mp hc).elim (h c) (k c)
abbrev w12 : List D := [.str "kill", .str "halt", .str "on", .str "call", .str "kin", .str "reads", .str "self", .str "parent", .str "group", .str "plain", .str "ignore", .str "new"]
abbrev e11 (z : Str) : List D := [.str (z ++ ("s" : Str)), .str (cutS z (some 1) none), .str (Txt.upper z), .str ((" " : Str) ++ z), .tup [.str z], .lst [.str z], .str "", .str "goto", .str "abcdefghi", .str "front", .str "if"]
abbrev m6 : List D := [.non, .int 0, .bl true, .str "fork", .str "mask", .str "handle"]
theorem cg_all : ∀ d ∈ w12 ++ m6 ++ [.str "", .str "goto", .str "abcdefghi", .str "front", .str "if", .bl false, .tup [], .int 1, .int 99, .int 100, .int 100000000, .emp, .str "0"], Cg d := by
  intro d hd
  simp only [List.cons_append, List.nil_append, List.mem_cons, List.not_mem_nil, or_false] at hd
  have one : ∀ d : D, (shB 100000000 12 d && (decide (wt d ≤ 100) && (decide (dep d ≤ 2) && asB false d))) = true → Cg d := fun d h => by
    simp only [Bool.and_eq_true, decide_eq_true_iff] at h
    exact ⟨h.1, h.2.1, h.2.2.1, h.2.2.2⟩
  repeat' (first | (rcases hd with rfl | hd; exact one _ (by kernel_rfl)) | (subst hd; exact one _ (by kernel_rfl)))
mutual
theorem sh_dat {M L : Nat} : ∀ d : D, shB M L d = true → datB d = true
  | .non, _ => rfl | .bl _, _ => rfl | .int _, _ => rfl | .str _, _ => rfl | .emp, _ => rfl
  | .tup xs, h => by
    simp only [shB, Bool.and_eq_true] at h
    simp only [datB]; exact shs_dat xs h.2
  | .lst xs, h => by
    simp only [shB, Bool.and_eq_true] at h
    simp only [datB]; exact shs_dat xs h.2
  | .scr _, h => by simp only [shB] at h; cases h
  | .ref _, h => by simp only [shB] at h; cases h
  | .fn _, h => by simp only [shB] at h; cases h
  | .ty _, h => by simp only [shB] at h; cases h
  | .dct ks xs, h => by
    simp only [shB, Bool.and_eq_true] at h
    simp only [datB]; exact shs_dat xs h.2.2
theorem shs_dat {M L : Nat} : ∀ d : List D, shsB M L d = true → datsB d = true
  | [], _ => rfl
  | x :: xs, h => by
    simp only [shsB, Bool.and_eq_true] at h
    simp only [datsB, sh_dat x h.1, shs_dat xs h.2]; rfl
end
theorem cut_mem {z : Str} {lo hi : Option Int} {c : Nat} (h : c ∈ (cutS z lo hi).cps.toList) : c ∈ z.cps.toList := by
  unfold cutS at h
  exact List.mem_of_mem_drop (List.mem_of_mem_take (by simpa using h))
theorem cutS_len {z : Str} {lo hi : Option Int} : (cutS z lo hi).length ≤ z.length := by
  have e : ∀ s : Str, s.length = s.cps.toList.length := fun s => by simp [Str.length]
  rw [e, e]
  unfold cutS
  show (List.toArray _).toList.length ≤ _
  simp only [List.length_take, List.length_drop]
  omega
section
variable {B S : Store} {l m : Nat} {M L : Nat}
/-! what is neither a tuple nor a text -/
def nv : D → Int
  | .int i => i
  | .bl b => if b = true then 1 else 0
  | _ => 0
theorem str_ok {x : D} (sx : shB M L x = true) (hM : M < 10 ^ 12) (hd : dep x ≤ 60) (hw : wt x ≤ 1000000) (ht : isTupT x = false) (hs : isStrT x = false) :
    ∃ s, (∀ S, bltD .str [deref S x] = some (.str s)) ∧ chS s ∧ s.length ≤ 15 * wt x + 13 ∧ (asB true x = true → ∀ c ∈ s.cps.toList, c < 128) := by
  cases x <;> try (simp only [shB] at sx; cases sx; done)
  case non => exact ⟨"None", fun S => rfl, chS_lit _, by show 4 ≤ _; omega, fun _ => by decide⟩
  case bl b =>
    cases b
    · exact ⟨"False", fun S => rfl, chS_lit _, by show 5 ≤ _; omega, fun _ => by decide⟩
    · exact ⟨"True", fun S => rfl, chS_lit _, by show 4 ≤ _; omega, fun _ => by decide⟩
  case int i =>
    simp only [shB, decide_eq_true_iff] at sx
    have hi : i.natAbs < 10 ^ 12 := by omega
    have hlog : i.natAbs.log2 < 1920 := by have := log_lt hi; omega
    refine ⟨toString i, fun S => by simp only [deref, bltD, if_pos hlog], chS_lit _, ?_, fun _ c hc => ?_⟩
    · have := int_shown hi
      exact Nat.le_trans this (by omega)
    · rw [Str.ofString_eq_toList] at hc
      obtain ⟨d, hd', rfl⟩ := List.mem_map.mp (show c ∈ (toString i).toList.map Char.toNat from hc)
      have dig : ∀ n : Nat, ∀ d ∈ (Nat.repr n).toList, d.toNat < 128 := fun n d hd => by
        have e : (Nat.repr n).toList = Nat.toDigits 10 n := by simp [Nat.repr]
        rw [e] at hd
        have := Nat.isDigit_of_mem_toDigits (by decide) (by decide) hd
        unfold Char.isDigit at this
        simp only [Bool.and_eq_true, decide_eq_true_iff] at this
        have h2 := this.2
        have h3 : d.val.toNat ≤ 57 := h2
        show d.val.toNat < 128
        omega
      cases i with
      | ofNat n => exact dig n d hd'
      | negSucc n =>
        have hd' : d ∈ ("-" ++ Nat.repr (n + 1)).toList := hd'
        rw [String.toList_append] at hd'
        rcases List.mem_append.mp hd' with h | h
        · have : d ∈ ['-'] := h
          rw [List.mem_singleton] at this
          subst this
          decide
        · exact dig _ d h
  case str z => cases hs
  case tup xs => cases ht
  case lst xs =>
    obtain ⟨z, h1, h2, h3⟩ := shownD_of hM sx hd (by omega)
    exact ⟨z, fun S => by simp only [deref, bltD, h1]; rfl, h2, h3, fun h => by simp only [asB] at h; cases h⟩
  case dct ks vs =>
    obtain ⟨z, h1, h2, h3⟩ := shownD_of hM sx hd (by omega)
    exact ⟨z, fun S => by simp only [deref, bltD, h1]; rfl, h2, h3, fun h => by simp only [asB] at h; cases h⟩
  case emp =>
    obtain ⟨z, h1, h2, h3⟩ := shownD_of hM sx hd (by omega)
    exact ⟨z, fun S => by simp only [deref, bltD, h1]; rfl, h2, h3, fun h => by simp only [asB] at h; cases h⟩
abbrev o14 (s : Str) (w : D) : List D := [.non, .bl true, .bl false, .str s, .tup [], .tup [w], .lst [w], .int (nv w + 1), .int (nv w - 1), .int (0 - 1 - nv w), .int 0, .int 1, .int 99, .int 100]
abbrev o6 (w : D) : List D := [.int 100000000, .emp, .str "0", .str "self", .str "group", .int (nv w + nv w)]
end

end MP

set_option maxHeartbeats 0
namespace MP
open PySem L2

/-! a thing spoilt at a drawn place -/
abbrev natD (is : List Nat) : List D := is.map fun (k : Nat) => .int (k : Nat)
abbrev sCond : E := .and (.blt .isinst [.var 3, .con (.ty "tuple")]) (.and (.cmp .ne (.var 3) (.tup [])) (.cmp .gt (.call 27 [.var 0, .con (.int 6)]) (.con (.int 0))))
abbrev sB1 : SA := .expr (.mth .append (.var 2) [.call 27 [.var 0, .blt .len [.var 3]]])
abbrev sB2 : SA := .asg (.name 3) (.ix (.var 3) (.ix (.var 2) (.neg (.con (.int 1)))))
abbrev senv (l : Nat) (x : D) (j : Nat) (h : D) : Env := [some (.ref l), some x, some (.ref j), some h]
theorem last_snoc (xs : List D) (z : D) : atI (xs ++ [z]) (-1) = some z := by
  unfold atI ixN
  have h : (xs ++ [z]).length = xs.length + 1 := by rw [List.length_append]; rfl
  rw [if_neg (by decide), if_pos (by omega)]
  rw [show ((-1 : Int) + ((xs ++ [z]).length : Int)).toNat = xs.length by omega, Option.bind_some, List.getElem?_append_right (Nat.le_refl _), Nat.sub_self]
  rfl
theorem ev_andT {F : Fn} {env : Env} {S S1 : Store} {a b : E} (h : ev F a env S = .ok (.bl true) S1) : ev F (.and a b) env S = ev F b env S1 := by
  simp only [ev, h, Res.bind_ok]
theorem ev_andF {F : Fn} {env : Env} {S S1 : Store} {a b : E} (h : ev F a env S = .ok (.bl false) S1) : ev F (.and a b) env S = .ok (.bl false) S1 := by
  simp only [ev, h, Res.bind_ok]
section
variable {S : Store} {l m j : Nat} {x : D} {M L : Nat}
theorem sp_cond (n : Nat) {h : D} (hs : shB M L h = true) (H : HandOk S l m) : ∃ b S', ev (callAt T (n + 1)) sCond (senv l x j h) S = .ok (.bl b) S' ∧ HandB S S' l m ∧ (b = true → ∃ xs, h = .tup xs ∧ xs ≠ []) := by
  have hdat := sh_dat h hs
  have it := pv_istup (F := callAt T (n + 1)) (S := S) (env := senv l x j h) (a := .var 3) (pv_var rfl) hdat
  unfold Pv at it
  cases ht : isTupT h with
  | false =>
    rw [ht] at it
    exact ⟨false, S, ev_andF it, H.base, fun z => by cases z⟩
  | true =>
    rw [ht] at it
    obtain ⟨xs, rfl⟩ := istup_of ht
    have ne : Pv (callAt T (n + 1)) (senv l x j (.tup xs)) S (.cmp .ne (.var 3) (.tup [])) (.bl (!xs.isEmpty)) := pv_cmp (d1 := .tup xs) (d2 := .tup []) (pv_var rfl) (pv_tup pvs_nil (by decide)) rfl
    unfold Pv at ne
    cases xs with
    | nil =>
      exact ⟨false, S, (ev_andT it).trans (ev_andF ne), H.base, fun z => by cases z⟩
    | cons y ys =>
      have pk : Hv S l m (callAt T (n + 1)) (senv l x j (.tup (y :: ys))) (.cmp .gt (.call 27 [.var 0, .con (.int 6)]) (.con (.int 0))) (fun d => ∃ b, d = .bl b) :=
        hv_cmp (A := fun d => ∃ i : Int, d = .int i) (hv_pick (n := n) (k := 6) T_pick rfl (fun S => pv_con) (by decide) (by decide) fun i _ _ => ⟨i, rfl⟩) fun d1 ⟨i, e⟩ => hv_pure (fun S => pv_con) ⟨decide (0 < i), fun S => by subst e; rfl, _, rfl⟩
      obtain ⟨_, S', e1, ⟨b, rfl⟩, H'⟩ := pk S H.base
      exact ⟨b, S', (ev_andT it).trans ((ev_andT ne).trans e1), H', fun _ => ⟨_, rfl, fun z => by cases z⟩⟩
theorem sp_turn (n : Nat) {xs : List D} {is : List Nat} (h0 : xs ≠ []) (h1 : xs.length ≤ 90000) (h2 : is.length ≤ 90000) (LA : ListAt S l m j (natD is)) : ∃ k y S', xs[k]? = some y ∧ exs (callAt T (n + 1)) [sB1, sB2] (senv l x j (.tup xs)) S = .nx (senv l x j y) S' ∧ ListAt S' l m j (natD (is ++ [k])) := by
  have hp : 0 < xs.length := List.length_pos_iff.mpr h0
  have pk : Hv S l m (callAt T (n + 1)) (senv l x j (.tup xs)) (.call 27 [.var 0, .blt .len [.var 3]]) (fun d => ∃ k : Nat, d = .int (k : Nat) ∧ k < xs.length) :=
    hv_pick (n := n) (k := (xs.length : Nat)) T_pick rfl (fun S => pv_blt (ds := [.tup xs]) (pvs_1 (pv_var rfl)) (len_tup xs)) (by omega) (by omega) fun i i0 i1 => ⟨i.toNat, by rw [Int.toNat_of_nonneg i0], by omega⟩
  obtain ⟨_, S1, e1, ⟨k, rfl, k1⟩, H1⟩ := pk S LA.hand.base
  have L1 := LA.step H1
  have L2 := L1.put (natD is ++ [.int (k : Nat)])
  have hi : (natD is).length = is.length := by show (List.map _ _).length = _; rw [List.length_map]
  refine ⟨k, xs[k], _, List.getElem?_eq_getElem k1, exs_2 (ex_append rfl LA.lj e1 L1.lj (by omega)) (ex_asg (d := xs[k]) (S1 := S1.set j (.lst (natD is ++ [.int (k : Nat)]))) ?_ rfl), by
    show ListAt _ l m j ((is ++ [k]).map _)
    rw [List.map_append]; exact L2⟩
  have nn : Pv (callAt T (n + 1)) (senv l x j (.tup xs)) (S1.set j (.lst (natD is ++ [.int (k : Nat)]))) (.neg (.con (.int 1))) (.int (-1)) := by unfold Pv; simp only [ev, Res.bind_ok]
  exact pv_ix (d1 := .tup xs) (d2 := .int (k : Nat)) (pv_var rfl) (pv_ix (d1 := .ref j) (d2 := .int (-1)) (pv_var rfl) nn (by rw [L2.deref]; simp only [ixD, last_snoc])) (by show ixD (.tup xs) (.int (k : Nat)) = _; simp only [ixD, atI_nat (List.getElem?_eq_getElem k1)])
theorem sp_loop (n : Nat) (sx : shB M L x = true) (hL : L ≤ 90000) (hdx : dep x ≤ 60) : ∀ (k : Nat) (here : D) (is : List Nat) (S : Store), dep here < k → PathTo x is here → ListAt S l m j (natD is) →
    ∃ here' is' S', loopW (ev (callAt T (n + 1)) sCond) (exs (callAt T (n + 1)) [sB1, sB2]) k (senv l x j here) S = .nx (senv l x j here') S' ∧ PathTo x is' here' ∧ ListAt S' l m j (natD is')
  | 0, here, is, S, hk, _, _ => absurd hk (Nat.not_lt_zero _)
  | k + 1, here, is, S, hk, hP, LA => by
    have sh := hP.sh sx
    obtain ⟨b, S1, e1, H1, hb⟩ := sp_cond (x := x) (j := j) n sh LA.hand
    have L1 := LA.step H1
    cases b with
    | false => exact ⟨here, is, S1, by simp only [loopW, e1], hP, L1⟩
    | true =>
      obtain ⟨xs, rfl, hx⟩ := hb rfl
      have hxl : xs.length ≤ L := by
        simp only [shB, Bool.and_eq_true, decide_eq_true_iff] at sh
        exact sh.1
      have hdp := hP.dep
      obtain ⟨i, y, S2, hy, e2, L2⟩ := sp_turn (x := x) n hx (by omega) (by omega) L1
      have hdy := dep_mem (List.mem_of_getElem? hy)
      obtain ⟨here', is', S', e3, P', L3⟩ := sp_loop n sx hL hdx k y (is ++ [i]) S2 (by simp only [dep] at hk; omega) (hP.snoc hy) L2
      exact ⟨here', is', S', by simp only [loopW, e1, e2, e3], P', L3⟩
structure Spoilt (M L : Nat) (x r : D) : Prop where
  sh : shB (2 * M + 100000010) (2 * L + 12) r = true
  wt : MP.wt r ≤ 17 * MP.wt x + 400
  dp : MP.dep r ≤ 2 * MP.dep x + 4
  as : asB true x = true → asB false r = true
end

end MP

set_option maxHeartbeats 0
namespace MP
open PySem L2

/-! small enough -/
mutual
theorem sh_ok {M L : Nat} (hM : M < 1000000000000) (hL : L ≤ 1000) : ∀ d : D, shB M L d = true → wt d ≤ 9000000 → okB d = true
  | .non, _, _ => rfl | .bl _, _, _ => rfl | .emp, _, _ => rfl
  | .int i, h, _ => by
    simp only [shB, decide_eq_true_iff] at h
    simp only [okB, Bool.and_eq_true, decide_eq_true_iff]
    omega
  | .str z, _, w => by
    simp only [wt] at w
    simp only [okB, decide_eq_true_iff]
    exact w
  | .tup xs, h, w => by
    simp only [shB, Bool.and_eq_true, decide_eq_true_iff] at h
    simp only [wt] at w
    simp only [okB, Bool.and_eq_true, decide_eq_true_iff]
    exact ⟨by omega, shs_ok hM hL xs h.2 w⟩
  | .lst xs, h, w => by
    simp only [shB, Bool.and_eq_true, decide_eq_true_iff] at h
    simp only [wt] at w
    simp only [okB, Bool.and_eq_true, decide_eq_true_iff]
    exact ⟨by omega, shs_ok hM hL xs h.2 w⟩
  | .scr _, h, _ => by simp only [shB] at h; cases h
  | .ref _, h, _ => by simp only [shB] at h; cases h
  | .fn _, h, _ => by simp only [shB] at h; cases h
  | .ty _, h, _ => by simp only [shB] at h; cases h
  | .dct ks xs, h, w => by
    simp only [shB, Bool.and_eq_true] at h
    simp only [wt] at w
    simp only [okB]
    exact shs_ok hM hL xs h.2.2 (by omega)
theorem shs_ok {M L : Nat} (hM : M < 1000000000000) (hL : L ≤ 1000) : ∀ d : List D, shsB M L d = true → wts d ≤ 9000000 → oksB d = true
  | [], _, _ => rfl
  | x :: xs, h, w => by
    simp only [shsB, Bool.and_eq_true] at h
    simp only [wts] at w
    simp only [oksB, sh_ok hM hL x h.1 (by omega), shs_ok hM hL xs h.2 (by omega)]; rfl
end
/-- a thing that the law asks of -/
structure Ask (x : D) : Prop where
  sh : shB 100000000000 1000 x = true
  wt : MP.wt x ≤ 1060000
  dp : MP.dep x ≤ 60
theorem Ask.ok {x : D} (h : Ask x) : okB x = true := sh_ok (by decide) (by decide) x h.sh (by have := h.wt; omega)
theorem eq_blT (b : Bool) : cmpD .eq (.bl b) (.bl b) = some true := by
  simp only [cmpD, eqD_dat (a := .bl b) (b := .bl b) rfl rfl (Nat.zero_le _) (Nat.zero_le _)]
  cases b <;> rfl
theorem eq_strT (z : Str) : cmpD .eq (.str z) (.str z) = some true := by
  show some (z == z) = some true
  rw [beq_self_eq_true]
theorem pv_repr {F : Fn} {env : Env} {S : Store} {e : E} {x : D} {z : Str} (h : Pv F env S e x) (hd : deref S x = x) (hz : shownD x = some z) : Pv F env S (.blt .repr [e]) (.str z) :=
  pv_blt (ds := [x]) (pvs_1 h) (by
    rw [List.map_cons, List.map_nil, hd]
    show (shownD x).map D.str = _
    rw [hz]; rfl)
section
variable {B : Store} {l m : Nat} {F : Fn} {env : Env} {e : E} {P : D → Prop}
theorem evs_pair {F : Fn} {env : Env} {a b : E} {S S1 S2 : Store} {d1 d2 : D} (h1 : ev F a env S = .ok d1 S1) (h2 : ev F b env S1 = .ok d2 S2) : evs F [a, b] env S = .ok [d1, d2] S2 := by
  simp only [evs, h1, h2, Res.bind_ok]
theorem ex_ifT1 {F : Fn} {env en1 : Env} {c : E} {s : SA} {S S1 S2 : Store} (h1 : ev F c env S = .ok (.bl true) S1) (h2 : ex F s env S1 = .nx en1 S2) : ex F (.ifs c [s] []) env S = .nx en1 S2 := by
  simp only [ex, h1, Out.of, exs, h2, Out.then]
/-- a pick of so many as is drawn -/
theorem hv_pickE {T : List FD} {p n v : Nat} {Q : Int → Prop} (hT : T[p]? = some ⟨2, 4, bPick⟩) (h0 : env[v]? = some (some (.ref l))) (he : Hv B l m (callAt T (n + 1)) env e fun d => ∃ k : Int, d = .int k ∧ 0 < k ∧ k ≤ 1000000 ∧ Q k) (hP : ∀ k i : Int, Q k → 0 ≤ i → i < k → P (.int i)) :
    Hv B l m (callAt T (n + 1)) env (.call p [.var v, e]) P :=
  hv_call (hvs_cons (A := fun d => d = .ref l) (hv_pure (fun S => pv_var h0) rfl) fun d hd => hvs_cons he fun d2 ⟨k, e2, k0, k1, hq⟩ => hvs_nil fun S H => by
    subst hd e2
    obtain ⟨i, S', e1, e2, e3, e4, st⟩ := pick_ok (n := n) hT H.1 k0 k1
    exact ⟨.int i, S', e1, hP k i hq e2 e3, H.step e4 st⟩)
/-- a loop at the hand -/
theorem h_loop {p : MP.P} {body : List SA} {I : Env → Prop} : ∀ {xs : List D}, (∀ z ∈ xs, ∀ en S, I en → HandOk S l m → ∃ en' S', turnF F p body z en S = .nx en' S' ∧ I en' ∧ HandOk S' l m) → ∀ (en : Env) (S : Store), I en → HandOk S l m → ∃ (en' : Env) (S' : Store), loopF (turnF F p body) xs en S = .nx en' S' ∧ I en' ∧ HandOk S' l m
  | [], _, en, S, hI, H => ⟨en, S, rfl, hI, H⟩
  | z :: xs, h, en, S, hI, H => by
    obtain ⟨en1, S1, h1, h2, h3⟩ := h z List.mem_cons_self en S hI H
    obtain ⟨en2, S2, k1, k2, k3⟩ := h_loop (fun y hy => h y (List.mem_cons_of_mem _ hy)) en1 S1 h2 h3
    exact ⟨en2, S2, by simp only [loopF, h1]; exact k1, k2, k3⟩
end

end MP

set_option maxHeartbeats 0
namespace MP
open PySem L2

/-! things of any kind -/
structure Sm (w j : Nat) (x : D) : Prop where
  sh : shB 1000000000 9 x = true
  wt : MP.wt x ≤ w
  dp : MP.dep x ≤ j
theorem Sm.mono {w j w' j' : Nat} {x : D} (h : Sm w j x) (hw : w ≤ w') (hj : j ≤ j') : Sm w' j' x := ⟨h.sh, Nat.le_trans h.wt hw, Nat.le_trans h.dp hj⟩
theorem sm_1 {w j : Nat} {x : D} (h : Sm w j x) : Sm (w + 1) (j + 1) (.tup [x]) := by
  have h1 := h.wt
  have h2 := h.dp
  refine ⟨?_, by simp only [MP.wt, wts]; omega, by simp only [MP.dep, deps]; omega⟩
  rw [shB, shsB, shsB, h.sh]; rfl
theorem sm_l {w j : Nat} {x : D} (h : Sm w j x) : Sm (w + 1) (j + 1) (.lst [x]) := by
  have h1 := h.wt
  have h2 := h.dp
  refine ⟨?_, by simp only [MP.wt, wts]; omega, by simp only [MP.dep, deps]; omega⟩
  rw [shB, shsB, shsB, h.sh]; rfl
theorem sm_2 {w v j : Nat} {x y : D} (h : Sm w j x) (k : Sm v j y) : Sm (w + v + 2) (j + 1) (.tup [x, y]) := by
  have h1 := h.wt
  have h2 := h.dp
  have k1 := k.wt
  have k2 := k.dp
  refine ⟨?_, by simp only [MP.wt, wts]; omega, by simp only [MP.dep, deps]; omega⟩
  rw [shB, shsB, shsB, shsB, h.sh, k.sh]; rfl
theorem sm_3 {w v u j : Nat} {x y z : D} (h : Sm w j x) (k : Sm v j y) (g : Sm u j z) : Sm (w + v + u + 3) (j + 1) (.tup [x, y, z]) := by
  have h1 := h.wt
  have h2 := h.dp
  have k1 := k.wt
  have k2 := k.dp
  have g1 := g.wt
  have g2 := g.dp
  refine ⟨?_, by simp only [MP.wt, wts]; omega, by simp only [MP.dep, deps]; omega⟩
  rw [shB, shsB, shsB, shsB, shsB, h.sh, k.sh, g.sh]; rfl
theorem sm_d {w j : Nat} {x : D} (h : Sm w j x) : Sm (w + 3) (j + 1) (.dct [.inr ("a" : Str)] [x]) := by
  have h1 := h.wt
  have h2 := h.dp
  have e : decide (([.inr ("a" : Str)] : List Key) = [.inr ("a" : Str)]) = true := decide_eq_true rfl
  refine ⟨?_, by simp only [MP.wt, wts]; omega, by simp only [MP.dep, deps]; omega⟩
  rw [shB, shsB, shsB, h.sh, e]; rfl
theorem pv_fdict1 {F : Fn} {env : Env} {S : Store} {e : E} {z : Str} {x : D} (h : Pv F env S e x) : Pv F env S (.fdict [.con (.str z), e]) (.dct [.inr z] [x]) := by
  have h2 : Pvs F env S [.con (.str z), e] [.str z, x] := pvs_2 pv_con h
  unfold Pv; unfold Pvs at h2
  rw [ev, h2]
  rfl
abbrev wraps (x : D) : List D := [.tup [x], .tup [x, .str "on"], .lst [x], .tup [.str "mask", x], .dct [.inr ("a" : Str)] [x]]
theorem sm_str {z : Str} (n : Nat) (h : (shB 1000000000 9 (.str z) && decide (z.length ≤ n)) = true) (j : Nat) : Sm n j (.str z) := by
  simp only [Bool.and_eq_true, decide_eq_true_iff] at h
  exact ⟨h.1, h.2, Nat.zero_le _⟩
theorem wraps_ok {w j : Nat} {x : D} (h : Sm w j x) : ∀ y ∈ wraps x, Sm (w + 6) (j + 1) y := by
  have hon := sm_str (z := ("on" : Str)) 2 (by decide +kernel) j
  have hma := sm_str (z := ("mask" : Str)) 4 (by decide +kernel) j
  intro y hy
  simp only [wraps, List.mem_cons, List.not_mem_nil, or_false] at hy
  rcases hy with rfl | rfl | rfl | rfl | rfl
  · exact (sm_1 h).mono (by omega) (by omega)
  · exact (sm_2 h hon).mono (by omega) (by omega)
  · exact (sm_l h).mono (by omega) (by omega)
  · exact (sm_2 hma h).mono (by omega) (by omega)
  · exact (sm_d h).mono (by omega) (by omega)
abbrev seeds : List D := [.tup [], .int 0, .non, .str "call", .tup [.str "fork"]]
theorem seeds_ok : ∀ y ∈ seeds, Sm 64 1 y := by
  have h : (seeds.all fun y => shB 1000000000 9 y && (decide (MP.wt y ≤ 64) && decide (MP.dep y ≤ 1))) = true := by decide +kernel
  intro y hy
  have := List.all_eq_true.mp h y hy
  simp only [Bool.and_eq_true, decide_eq_true_iff] at this
  exact ⟨this.1, this.2.1, this.2.2⟩
section
variable {B S : Store} {l m : Nat}
abbrev dB : SA := .asg (.name 1) (.call 28 [.var 0, .lst [.tup [.var 1], .tup [.var 1, .con (.str "on")], .lst [.var 1], .tup [.con (.str "mask"), .var 1], .fdict [.con (.str "a"), .var 1]]])
theorem deep_loop (n : Nat) : ∀ (xs : List D) (j : Nat) (x : D) (e : Option D) (S : Store), Sm (64 + 6 * j) (1 + j) x → HandB B S l m →
    ∃ y e' S', loopF (turnF (callAt T (n + 2)) (.name 2) [dB]) xs [some (.ref l), some x, e] S = .nx [some (.ref l), some y, e'] S' ∧ Sm (64 + 6 * (j + xs.length)) (1 + (j + xs.length)) y ∧ HandB B S' l m
  | [], j, x, e, S, h, H => ⟨x, e, S, rfl, h, H⟩
  | z :: xs, j, x, e, S, h, H => by
    have b1 : bindP (.name 2) z [some (.ref l), some x, e] = some [some (.ref l), some x, some z] := rfl
    have q : Hv B l m (callAt T (n + 2)) [some (.ref l), some x, some z] (.call 28 [.var 0, .lst [.tup [.var 1], .tup [.var 1, .con (.str "on")], .lst [.var 1], .tup [.con (.str "mask"), .var 1], .fdict [.con (.str "a"), .var 1]]]) (fun y => Sm (64 + 6 * (j + 1)) (1 + (j + 1)) y) := by
      refine hv_of (n := n) T_pick T_of rfl (hv_pure (d := .lst (wraps x)) (fun S => ?_) ⟨wraps x, .inl rfl, by show 0 < 5; decide, by show 5 ≤ 100000; decide, fun y hy => (wraps_ok h y hy).mono (by omega) (by omega)⟩)
      have v1 : Pv (callAt T (n + 2)) [some (.ref l), some x, some z] S (.var 1) x := pv_var rfl
      exact pv_lst (pvs_cons (pv_tup (pvs_1 v1) (by show 1 ≤ 100000; decide)) (pvs_cons (pv_tup (pvs_2 v1 pv_con) (by show 2 ≤ 100000; decide)) (pvs_cons (pv_lst (pvs_1 v1) (by show 1 ≤ 100000; decide)) (pvs_cons (pv_tup (pvs_2 pv_con v1) (by show 2 ≤ 100000; decide)) (pvs_1 (pv_fdict1 v1)))))) (by show 5 ≤ 100000; decide)
    obtain ⟨y, S1, e1, P1, H1⟩ := q S H
    obtain ⟨y2, e2, S2, r1, r2, r3⟩ := deep_loop n xs (j + 1) y (some z) S1 P1 H1
    refine ⟨y2, e2, S2, ?_, by rw [List.length_cons, show j + (xs.length + 1) = j + 1 + xs.length by omega]; exact r2, r3⟩
    have t : turnF (callAt T (n + 2)) (.name 2) [dB] z [some (.ref l), some x, e] S = .nx [some (.ref l), some y, some z] S1 := by
      rw [turn_eq b1]
      exact (exs_nx (ex_asg e1 rfl)).trans exs_0
    simp only [loopF, t]
    exact r1
theorem T_deep : T[40]? = some ⟨1, 3, b__law_deep⟩ := rfl
abbrev dR : E := .bin .add (.con (.int 9)) (.call 27 [.var 0, .con (.int 8)])
theorem b_deep_eq : b__law_deep = [.asg (.name 1) (.call 28 [.var 0, .lst [.tup [], .con (.int 0), .con (.non), .con (.str "call"), .tup [.con (.str "fork")]]]), .for_ (.name 2) .range [dR] [dB], .ret (.var 1)] := rfl
theorem d_deep (n : Nat) (H : HandB B S l m) : ∃ d S', callAt T (n + 3) 40 [.ref l] S = .ok d S' ∧ Sm 160 17 d ∧ HandB B S' l m := by
  have q : Hv B l m (callAt T (n + 2)) (startE [.ref l] 3) (.call 28 [.var 0, .lst [.tup [], .con (.int 0), .con (.non), .con (.str "call"), .tup [.con (.str "fork")]]]) (fun y => Sm 64 1 y) :=
    hv_of (n := n) T_pick T_of rfl (hv_pure (d := .lst seeds) (fun S => pv_lst (pvs_cons (pv_tup pvs_nil (by decide)) (pvs_cons pv_con (pvs_cons pv_con (pvs_cons pv_con (pvs_1 (pv_tup (pvs_1 pv_con) (by show 1 ≤ 100000; decide))))))) (by show 5 ≤ 100000; decide)) ⟨seeds, .inl rfl, by decide, by decide, seeds_ok⟩)
  obtain ⟨x, S1, e1, P1, H1⟩ := q S H
  have q2 : Hv B l m (callAt T (n + 2)) [some (.ref l), some x, none] dR (fun d => ∃ k : Int, d = .int k ∧ 9 ≤ k ∧ k ≤ 16) :=
    hv_bin (A := fun d => d = .int 9) (hv_pure (fun S => pv_con) rfl) fun d1 e1 => hv_pick (n := n + 1) (k := 8) T_pick rfl (fun S => pv_con) (by decide) (by decide) fun i i0 i1 => ⟨.int (9 + i), fun S => by subst e1; rfl, 9 + i, rfl, by omega, by omega⟩
  obtain ⟨_, S2, e2, ⟨k, rfl, k0, k1⟩, H2⟩ := q2 S1 H1
  have it := range_it (i := k) (by omega) (by omega)
  obtain ⟨y, e', S3, e3, P3, H3⟩ := deep_loop n ((List.range' 0 k.toNat).map fun (k : Nat) => .int (k : Nat)) 0 x none S2 P1 H2
  rw [List.length_map, List.length_range'] at P3
  refine ⟨y, S3, ?_, P3.mono (by omega) (by omega), H3⟩
  refine call_rt (n := n + 2) T_deep rfl ?_
  show exs (callAt T (n + 2)) b__law_deep (startE [.ref l] 3) S = _
  rw [b_deep_eq]
  generalize callAt T (n + 2) = F at e1 e2 e3
  have s1 : ex F (.asg (.name 1) (.call 28 [.var 0, .lst [.tup [], .con (.int 0), .con (.non), .con (.str "call"), .tup [.con (.str "fork")]]])) (startE [.ref l] 3) S = .nx [some (.ref l), some x, none] S1 := ex_asg e1 rfl
  have s2 : ex F (.for_ (.name 2) .range [dR] [dB]) [some (.ref l), some x, none] S1 = .nx [some (.ref l), some y, e'] S3 := by
    refine (ex_for_eq (ds := [.int k]) (S1 := S2) ?_ it).trans e3
    rw [evs, e2]
    simp only [Res.bind_ok, evs]
  exact (exs_nx s1).trans ((exs_nx s2).trans (exs_ret (pv_var rfl)))
abbrev some16 : List D := [.non, .bl true, .bl false, .int 0, .int (-1), .int 100000000, .str "", .str "fork", .str "a", .tup [], .lst [], .emp, .tup [.str "fork"], .lst [.str "fork"], .tup [.tup [.str "fork"]], .tup [.tup []]]
abbrev some5 : List D := [.tup [.str "a", .tup [.tup [.str "fork"]]], .tup [.tup [.str "a", .tup [.tup [.str "fork"]]]], .lst [.tup [.str "a", .tup [.tup [.str "fork"]]]], .tup [.str "end", .int 0], .tup [.str "end", .str "0"]]
theorem somes_ok : ∀ y ∈ some16 ++ some5, Sm 160 17 y := by
  have h : ((some16 ++ some5).all fun y => shB 1000000000 9 y && (decide (MP.wt y ≤ 160) && decide (MP.dep y ≤ 17))) = true := by decide +kernel
  intro y hy
  have := List.all_eq_true.mp h y hy
  simp only [Bool.and_eq_true, decide_eq_true_iff] at this
  exact ⟨this.1, this.2.1, this.2.2⟩
abbrev e16 : E := .lst [.con (.non), .con (.bl true), .con (.bl false), .con (.int 0), .neg (.con (.int 1)), .bin .pow (.con (.int 10)) (.con (.int 8)), .con (.str ""), .con (.str "fork"), .con (.str "a"), .tup [], .lst [], .edict, .tup [.con (.str "fork")], .lst [.con (.str "fork")], .tup [.tup [.con (.str "fork")]], .tup [.tup []]]
abbrev e5 : E := .lst [.tup [.con (.str "a"), .tup [.tup [.con (.str "fork")]]], .tup [.tup [.con (.str "a"), .tup [.tup [.con (.str "fork")]]]], .lst [.tup [.con (.str "a"), .tup [.tup [.con (.str "fork")]]]], .tup [.con (.str "end"), .con (.int 0)], .tup [.con (.str "end"), .con (.str "0")]]
theorem T_thing : T[41]? = some ⟨1, 2, b__law_thing⟩ := rfl
theorem pv_e16 {F : Fn} {env : Env} {S : Store} : Pv F env S e16 (.lst some16) := by
  have p1 : ∀ z : Str, Pv F env S (.tup [.con (.str z)]) (.tup [.str z]) := fun z => pv_tup (pvs_1 pv_con) (by show 1 ≤ 100000; decide)
  have p0 : Pv F env S (.tup []) (.tup []) := pv_tup pvs_nil (by decide)
  have ng : Pv F env S (.neg (.con (.int 1))) (.int (-1)) := by
    unfold Pv
    simp only [ev, Res.bind_ok]
  have pw : Pv F env S (.bin .pow (.con (.int 10)) (.con (.int 8))) (.int 100000000) := pv_bin pv_con pv_con (show binD .pow (.int 10) (.int 8) = some (.int 100000000) by kernel_rfl)
  have em : Pv F env S .edict .emp := by unfold Pv; simp only [ev]
  exact pv_lst (pvs_cons pv_con (pvs_cons pv_con (pvs_cons pv_con (pvs_cons pv_con (pvs_cons ng (pvs_cons pw (pvs_cons pv_con (pvs_cons pv_con (pvs_cons pv_con (pvs_cons p0 (pvs_cons (pv_lst pvs_nil (by decide)) (pvs_cons em (pvs_cons (p1 _) (pvs_cons (pv_lst (pvs_1 pv_con) (by show 1 ≤ 100000; decide)) (pvs_2 (pv_tup (pvs_1 (p1 _)) (by show 1 ≤ 100000; decide)) (pv_tup (pvs_1 p0) (by show 1 ≤ 100000; decide))))))))))))))))) (by show 16 ≤ 100000; decide)
theorem pv_e5 {F : Fn} {env : Env} {S : Store} : Pv F env S e5 (.lst some5) := by
  have p2 : Pv F env S (.tup [.con (.str "a"), .tup [.tup [.con (.str "fork")]]]) (.tup [.str "a", .tup [.tup [.str "fork"]]]) := pv_tup (pvs_2 pv_con (pv_tup (pvs_1 (pv_tup (pvs_1 pv_con) (by show 1 ≤ 100000; decide))) (by show 1 ≤ 100000; decide))) (by show 2 ≤ 100000; decide)
  exact pv_lst (pvs_cons p2 (pvs_cons (pv_tup (pvs_1 p2) (by show 1 ≤ 100000; decide)) (pvs_cons (pv_lst (pvs_1 p2) (by show 1 ≤ 100000; decide)) (pvs_2 (pv_tup (pvs_2 pv_con pv_con) (by show 2 ≤ 100000; decide)) (pv_tup (pvs_2 pv_con pv_con) (by show 2 ≤ 100000; decide)))))) (by show 5 ≤ 100000; decide)
theorem b_thing_eq : b__law_thing = [.asg (.name 1) e16, .asg (.name 1) (.bin .add (.var 1) e5), .ret (.ite (.cmp .eq (.call 27 [.var 0, .con (.int 2)]) (.con (.int 0))) (.call 40 [.var 0]) (.call 28 [.var 0, .var 1]))] := rfl
theorem d_thing (n : Nat) (H : HandB B S l m) : ∃ d S', callAt T (n + 4) 41 [.ref l] S = .ok d S' ∧ Sm 160 17 d ∧ HandB B S' l m := by
  refine call_hb (fd := ⟨1, 2, b__law_thing⟩) T_thing rfl ?_ H
  show Hb B l m (callAt T (n + 3)) _ b__law_thing _
  rw [b_thing_eq]
  refine hb_asg (A := fun d => d = .lst some16) (hv_pure (fun S => pv_e16) rfl) fun d1 e1 => ⟨[some (.ref l), some (.lst some16)], by subst e1; rfl, ?_⟩
  refine hb_asg (A := fun d => d = .lst (some16 ++ some5)) (hv_pure (fun S => pv_addL (pv_var rfl) pv_e5 (by decide)) rfl) fun d2 e2 => ⟨[some (.ref l), some (.lst (some16 ++ some5))], by subst e2; rfl, hb_ret (hv_ite ?_)⟩
  refine hv_cmp (A := fun d => ∃ i : Int, d = .int i) (hv_pick (n := n + 2) (k := 2) T_pick rfl (fun S => pv_con) (by decide) (by decide) fun i _ _ => ⟨i, rfl⟩) fun d1 ⟨i, e⟩ => hv_pure (fun S => pv_con) ⟨i == 0, fun S => by subst e; show cmpD .eq (.int i) (.int 0) = _; simp only [cmpD]; exact eqD_int i 0, _, rfl, fun _ => ?_, fun _ => ?_⟩
  · exact hv_call (hvs_pure (ds := [.ref l]) (fun S => pvs_1 (pv_var rfl)) fun S H => d_deep n H)
  · exact hv_of (n := n + 1) T_pick T_of rfl (hv_pure (d := .lst (some16 ++ some5)) (fun S => pv_var rfl) ⟨some16 ++ some5, .inl rfl, by decide, by decide, somes_ok⟩)
end

end MP

set_option maxHeartbeats 0
namespace MP
open PySem L2

/-! the law of rows and books of anything -/
section
variable {F : Fn} {env : Env} {e f : E} {d1 d2 : D}
theorem gv_lst {es : List E} {ds : List D} (h : Gvs F env es ds) (hl : ds.length ≤ 100000) : Gv F env (.lst es) (.lst ds) := fun S => by
  obtain ⟨Z, h1⟩ := h S
  have hl : ds.length ≤ LIM := hl
  exact ⟨Z, by simp only [ev, h1, Res.bind_ok, if_pos hl]⟩
theorem gvs_2 (h : Gv F env e d1) (k : Gv F env f d2) : Gvs F env [e, f] [d1, d2] := gvs_cons h (gvs_1 k)
theorem pv_neg1 {S : Store} : Pv F env S (.neg (.con (.int 1))) (.int (-1)) := by
  unfold Pv
  simp only [ev, Res.bind_ok]
end
theorem shown_bls (a b : Bool) : ∃ z, shownD (.lst [.bl a, .bl b]) = some z := by
  obtain ⟨z, hz, _⟩ := shownD_of (M := 10) (L := 10) (d := .lst [.bl a, .bl b]) (by decide) rfl (by simp only [dep, deps]; omega) (by simp only [wt, wts]; omega)
  exact ⟨z, hz⟩
theorem T_right : T[42]? = some ⟨1, 4, b__law_right⟩ := rfl
theorem g_right (n : Nat) {x : D} (h : Ask x) : Gc (callAt T (n + 71)) 42 [x] (.bl true) := by
  have ho := h.ok
  have hdp := h.dp
  obtain ⟨z, hz, _⟩ := shownD_of (by decide) h.sh h.dp h.wt
  obtain ⟨y, hy⟩ := shown_bls (rowB 3 x) (bookB x)
  have hd : ∀ S, deref S x = x := fun S => deref_dat (sh_dat x h.sh)
  refine call_gb (n := n + 70) (fd := ⟨1, 4, b__law_right⟩) T_right rfl ?_
  refine gb_asg (gv_pure fun S => pv_repr (pv_var rfl) (hd S) hz) (env' := [some x, some (.str z), none, none]) rfl ?_
  refine gb_asg (d1 := .lst [.bl (rowB 3 x), .bl (bookB x)]) (gv_pure fun S => pv_lst (pvs_2 (pv_call (pvs_2 (pv_var rfl) pv_con) (w_is_row (n + 64) ho)) (pv_call (pvs_1 (pv_var rfl)) (w_is_book (n + 62) ho))) (by show 2 ≤ 100000; decide)) (env' := [some x, some (.str z), some (.lst [.bl (rowB 3 x), .bl (bookB x)]), none]) rfl ?_
  refine gb_asg (d1 := .lst [.bl (rowB 3 x), .bl (bookB x)]) (gv_lst (gvs_2 (gv_call (gvs_pure fun S => pvs_2 (pv_var rfl) pv_con) (g_is_row (n + 66) ho (by omega))) (gv_call (gvs_pure fun S => pvs_1 (pv_var rfl)) (g_is_book (n + 65) ho (by omega)))) (by show 2 ≤ 100000; decide)) (env' := [some x, some (.str z), some (.lst [.bl (rowB 3 x), .bl (bookB x)]), some (.lst [.bl (rowB 3 x), .bl (bookB x)])]) rfl ?_
  exact gb_ret (gv_pure fun S => pv_and (x := true) (y := true) (pv_cmp (d1 := .str y) (d2 := .str y) (pv_repr (x := .lst [.bl (rowB 3 x), .bl (bookB x)]) (pv_var rfl) rfl hy) (pv_repr (x := .lst [.bl (rowB 3 x), .bl (bookB x)]) (pv_var rfl) rfl hy) (eq_strT y)) fun _ => pv_cmp (d1 := .str z) (d2 := .str z) (pv_repr (pv_var rfl) (hd S) hz) (pv_var rfl) (eq_strT z))
theorem ask_sm {w j : Nat} {x : D} (h : Sm w j x) (hw : w ≤ 1000000) (hj : j ≤ 60) : Ask x := by
  have h1 := h.wt
  have h2 := h.dp
  exact ⟨sh_mono (by decide) (by decide) x h.sh, by omega, by omega⟩
theorem ask_mix {rs : List D} {x : D} (hr : RowOk 3 (.tup rs)) (hx : Sm 160 17 x) {ys : List D} (hl : ys.length ≤ 1000) (h : ∀ y ∈ ys, y = x ∨ y ∈ rs) (hw : wts ys ≤ 2 * wts rs + wt x + 10) : Ask (.tup ys) := by
  have r1 := hr.sh
  have r2 := hr.w
  have r3 := hr.dp
  have x1 := hx.wt
  have x2 := hx.dp
  simp only [shB, Bool.and_eq_true] at r1
  simp only [wt] at r2
  simp only [dep] at r3
  have each : ∀ y ∈ ys, shB 1000000000 9 y = true ∧ dep y ≤ 17 := fun y hy => by
    rcases h y hy with rfl | hy
    · exact ⟨hx.sh, x2⟩
    · have := dep_mem hy
      exact ⟨shs_mem r1.2 hy, by omega⟩
  refine ⟨?_, by simp only [wt]; omega, ?_⟩
  · simp only [shB, Bool.and_eq_true, decide_eq_true_iff]
    exact ⟨hl, shs_of fun y hy => sh_mono (by decide) (by decide) y (each y hy).1⟩
  · have := deps_le (j := 17) fun y hy => (each y hy).2
    simp only [dep]; omega
theorem row_tup {k : Int} {r : D} (h : rowB k r = true) : ∃ xs, r = .tup xs := by
  cases r <;> first | exact ⟨_, rfl⟩ | cases h
abbrev lenv (s0 : D) (l : Nat) (t a b c d e : Option D) : Env := [some s0, some (.ref l), t, a, b, c, d, e]
abbrev oP : SA := .par 3 4 (.call 41 [.var 1]) (.call 32 [.var 1, .con (.int 3)])
abbrev oA5 : SA := .asg (.name 5) (.tup [.var 4, .tup [.con (.str "fork")], .var 4])
abbrev oA6 : SA := .asg (.name 6) (.lst [.var 3, .tup [.var 3], .tup [.tup [.var 3, .var 5]], .tup [.tup [.con (.str "a"), .var 3]], .tup [.tup [.con (.str "a"), .tup [.var 3]]], .tup [.tup [.con (.str "a"), .var 5], .var 3]])
abbrev oA7 : SA := .asg (.name 6) (.bin .add (.var 6) (.lst [.bin .add (.sl (.var 4) [] [.neg (.con (.int 1))]) (.tup [.var 3]), .bin .add (.bin .add (.sl (.var 4) [] [.con (.int 1)]) (.tup [.var 3])) (.sl (.var 4) [.con (.int 2)] []), .bin .add (.tup [.var 3]) (.sl (.var 4) [.con (.int 1)] [])]))
abbrev oI : SA := .ifs (.not (.blt .all [.comp false (.name 7) .seq [.var 6] [] (.call 42 [.var 7])])) [.ret (.con (.bl false))] []
abbrev rows3 (r : D) : D := .tup [r, .tup [.str "fork"], r]
abbrev it6 (x r : D) : List D := [x, .tup [x], .tup [.tup [x, rows3 r]], .tup [.tup [.str "a", x]], .tup [.tup [.str "a", .tup [x]]], .tup [.tup [.str "a", rows3 r], x]]
abbrev it3 (x : D) (rs : List D) : List D := [.tup (cutD rs none (some (-1)) ++ [x]), .tup (cutD rs none (some 1) ++ [x] ++ cutD rs (some 2) none), .tup ([x] ++ cutD rs (some 1) none)]
section
variable {s0 : D} {l m : Nat} {S : Store} {t : Option D}
theorem it_ask {x : D} {rs : List D} (hr : RowOk 3 (.tup rs)) (hx : Sm 160 17 x) : ∀ y ∈ it6 x (.tup rs) ++ it3 x rs, Ask y := by
  have sr : Sm 142 17 (.tup rs) := ⟨hr.sh, hr.w, by have := hr.dp; omega⟩
  have sf := sm_1 (sm_str (z := ("fork" : Str)) 4 (by decide +kernel) 16)
  have sa : ∀ j, Sm 1 j (.str ("a" : Str)) := fun j => sm_str (z := ("a" : Str)) 1 (by decide +kernel) j
  have s3 : Sm 300 18 (rows3 (.tup rs)) := (sm_3 sr sf sr).mono (by omega) (by omega)
  have x8 : Sm 160 18 x := hx.mono (by omega) (by omega)
  have c1 : ∀ {lo hi : Option Int}, (cutD rs lo hi).length ≤ 9 := fun {lo hi} => by
    have := cut_len (xs := rs) (lo := lo) (hi := hi)
    have h := hr.sh
    simp only [shB, Bool.and_eq_true, decide_eq_true_iff] at h
    omega
  intro y hy
  rcases List.mem_append.mp hy with hy | hy
  · simp only [it6, List.mem_cons, List.not_mem_nil, or_false] at hy
    rcases hy with rfl | rfl | rfl | rfl | rfl | rfl
    · exact ask_sm hx (by omega) (by omega)
    · exact ask_sm (sm_1 hx) (by omega) (by omega)
    · exact ask_sm (sm_1 (sm_2 x8 s3)) (by omega) (by omega)
    · exact ask_sm (sm_1 (sm_2 (sa _) hx)) (by omega) (by omega)
    · exact ask_sm (sm_1 (sm_2 (sa _) (sm_1 hx))) (by omega) (by omega)
    · exact ask_sm (sm_2 (sm_2 (sa 18) s3) (show Sm 160 19 x from hx.mono (by omega) (by omega))) (by omega) (by omega)
  · simp only [it3, List.mem_cons, List.not_mem_nil, or_false] at hy
    rcases hy with rfl | rfl | rfl
    · refine ask_mix hr hx (by have := c1 (lo := none) (hi := some (-1)); rw [List.length_append, List.length_singleton]; omega) (fun y hy => ?_) ?_
      · rcases List.mem_append.mp hy with hy | hy
        · exact .inr (cut_sub hy)
        · exact .inl (List.mem_singleton.mp hy)
      · have := wts_cut (xs := rs) (lo := none) (hi := some (-1))
        rw [wts_app]; simp only [wts]; omega
    · refine ask_mix hr hx (by have := c1 (lo := none) (hi := some 1); have := c1 (lo := some 2) (hi := none); rw [List.length_append, List.length_append, List.length_singleton]; omega) (fun y hy => ?_) ?_
      · rcases List.mem_append.mp hy with hy | hy
        · rcases List.mem_append.mp hy with hy | hy
          · exact .inr (cut_sub hy)
          · exact .inl (List.mem_singleton.mp hy)
        · exact .inr (cut_sub hy)
      · have := wts_cut (xs := rs) (lo := none) (hi := some 1)
        have := wts_cut (xs := rs) (lo := some 2) (hi := none)
        rw [wts_app, wts_app]; simp only [wts]; omega
    · refine ask_mix hr hx (by have := c1 (lo := some 1) (hi := none); rw [List.length_append, List.length_singleton]; omega) (fun y hy => ?_) ?_
      · rcases List.mem_append.mp hy with hy | hy
        · exact .inl (List.mem_singleton.mp hy)
        · exact .inr (cut_sub hy)
      · have := wts_cut (xs := rs) (lo := some 1) (hi := none)
        rw [wts_app]; simp only [wts]; omega
theorem i_rest (n : Nat) {x : D} {rs : List D} (hr : RowOk 3 (.tup rs)) (hx : Sm 160 17 x) (c d e : Option D) :
    Gn (callAt T (n + 71)) (lenv s0 l t (some x) (some (.tup rs)) c d e) [oA5, oA6, oA7, oI] (lenv s0 l t (some x) (some (.tup rs)) (some (rows3 (.tup rs))) (some (.lst (it6 x (.tup rs) ++ it3 x rs))) e) := by
  have hl : rs.length ≤ 9 := by
    have h := hr.sh
    simp only [shB, Bool.and_eq_true, decide_eq_true_iff] at h
    exact h.1
  have c1 : ∀ {lo hi : Option Int}, (cutD rs lo hi).length ≤ 9 := fun {lo hi} => Nat.le_trans cut_len hl
  refine gn_asg (d1 := rows3 (.tup rs)) (gv_pure fun S => pv_tup (pvs_cons (pv_var rfl) (pvs_2 (pv_tup (pvs_1 pv_con) (by show 1 ≤ 100000; decide)) (pv_var rfl))) (by show 3 ≤ 100000; decide)) (env' := lenv s0 l t (some x) (some (.tup rs)) (some (rows3 (.tup rs))) d e) rfl ?_
  refine gn_asg (d1 := .lst (it6 x (.tup rs))) (gv_pure fun S => ?_) (env' := lenv s0 l t (some x) (some (.tup rs)) (some (rows3 (.tup rs))) (some (.lst (it6 x (.tup rs)))) e) rfl ?_
  · have vx : Pv (callAt T (n + 71)) (lenv s0 l t (some x) (some (.tup rs)) (some (rows3 (.tup rs))) d e) S (.var 3) x := pv_var rfl
    have vr : Pv (callAt T (n + 71)) (lenv s0 l t (some x) (some (.tup rs)) (some (rows3 (.tup rs))) d e) S (.var 5) (rows3 (.tup rs)) := pv_var rfl
    have t1 : ∀ {a : E} {u : D}, Pv (callAt T (n + 71)) (lenv s0 l t (some x) (some (.tup rs)) (some (rows3 (.tup rs))) d e) S a u → Pv (callAt T (n + 71)) (lenv s0 l t (some x) (some (.tup rs)) (some (rows3 (.tup rs))) d e) S (.tup [a]) (.tup [u]) := fun h => pv_tup (pvs_1 h) (by show 1 ≤ 100000; decide)
    have t2 : ∀ {a b : E} {u v : D}, Pv (callAt T (n + 71)) (lenv s0 l t (some x) (some (.tup rs)) (some (rows3 (.tup rs))) d e) S a u → Pv (callAt T (n + 71)) (lenv s0 l t (some x) (some (.tup rs)) (some (rows3 (.tup rs))) d e) S b v → Pv (callAt T (n + 71)) (lenv s0 l t (some x) (some (.tup rs)) (some (rows3 (.tup rs))) d e) S (.tup [a, b]) (.tup [u, v]) := fun h k => pv_tup (pvs_2 h k) (by show 2 ≤ 100000; decide)
    exact pv_lst (pvs_cons vx (pvs_cons (t1 vx) (pvs_cons (t1 (t2 vx vr)) (pvs_cons (t1 (t2 pv_con vx)) (pvs_2 (t1 (t2 pv_con (t1 vx))) (t2 (t2 pv_con vr) vx)))))) (by show 6 ≤ 100000; decide)
  refine gn_asg (d1 := .lst (it6 x (.tup rs) ++ it3 x rs)) (gv_pure fun S => pv_addL (pv_var rfl) ?_ (by show 6 + 3 ≤ 100000; decide)) (env' := lenv s0 l t (some x) (some (.tup rs)) (some (rows3 (.tup rs))) (some (.lst (it6 x (.tup rs) ++ it3 x rs))) e) rfl ?_
  · have tx : Pv (callAt T (n + 71)) (lenv s0 l t (some x) (some (.tup rs)) (some (rows3 (.tup rs))) (some (.lst (it6 x (.tup rs)))) e) S (.tup [.var 3]) (.tup [x]) := pv_tup (pvs_1 (pv_var rfl)) (by show 1 ≤ 100000; decide)
    have vr : Pv (callAt T (n + 71)) (lenv s0 l t (some x) (some (.tup rs)) (some (rows3 (.tup rs))) (some (.lst (it6 x (.tup rs)))) e) S (.var 4) (.tup rs) := pv_var rfl
    have s1 := pv_sl (d := .tup (cutD rs none (some (-1)))) (lo := []) (hi := [.neg (.con (.int 1))]) vr pvs_nil (pvs_1 pv_neg1) rfl rfl rfl
    have s2 := pv_sl (d := .tup (cutD rs none (some 1))) (lo := []) (hi := [.con (.int 1)]) vr pvs_nil (pvs_1 pv_con) rfl rfl rfl
    have s3 := pv_sl (d := .tup (cutD rs (some 2) none)) (lo := [.con (.int 2)]) (hi := []) vr (pvs_1 pv_con) pvs_nil rfl rfl rfl
    have s4 := pv_sl (d := .tup (cutD rs (some 1) none)) (lo := [.con (.int 1)]) (hi := []) vr (pvs_1 pv_con) pvs_nil rfl rfl rfl
    have l1 := c1 (lo := none) (hi := some (-1))
    have l2 := c1 (lo := none) (hi := some 1)
    have l3 := c1 (lo := some 2) (hi := none)
    have l4 := c1 (lo := some 1) (hi := none)
    exact pv_lst (pvs_cons (pv_add s1 tx (by rw [List.length_singleton]; omega)) (pvs_2 (pv_add (pv_add s2 tx (by rw [List.length_singleton]; omega)) s3 (by rw [List.length_append, List.length_singleton]; omega)) (pv_add tx s4 (by rw [List.length_singleton]; omega)))) (by show 3 ≤ 100000; decide)
  refine gn_if ?_ gn_nil
  refine gv_not (x := true) (gv_blt (gvs_1 (gv_comp (g := fun _ => .bl true) (fun S => pvs_1 (pv_var (d := .lst (it6 x (.tup rs) ++ it3 x rs)) rfl)) (show itD .seq [.lst (it6 x (.tup rs) ++ it3 x rs)] = some (it6 x (.tup rs) ++ it3 x rs) from rfl) (by show 6 + 3 ≤ 100000; decide) fun z hz => ?_)) fun S => ?_)
  · exact ⟨lenv s0 l t (some x) (some (.tup rs)) (some (rows3 (.tup rs))) (some (.lst (it6 x (.tup rs) ++ it3 x rs))) (some z), rfl, gv_call (gvs_pure fun S => pvs_1 (pv_var rfl)) (g_right n (it_ask hr hx z hz))⟩
  · rfl
theorem o_turn (n : Nat) (H : HandOk S l m) (z : D) (t a b c d e : Option D) : ∃ en' S', turnF (callAt T (n + 72)) (.name 2) [oP, oA5, oA6, oA7, oI] z (lenv s0 l t a b c d e) S = .nx en' S' ∧ (∃ t a b c d e, en' = lenv s0 l t a b c d e) ∧ HandOk S' l m := by
  have b1 : bindP (.name 2) z (lenv s0 l t a b c d e) = some (lenv s0 l (some z) a b c d e) := rfl
  obtain ⟨x, S1, e1, hx, H1⟩ := d_thing (n + 68) H.base
  obtain ⟨r, S2, e2, hr, H2⟩ := d_row (n + 67) (k := 3) H1.1.base (by decide) (by decide)
  obtain ⟨rs, rfl⟩ := row_tup hr.row
  obtain ⟨Z, e3⟩ := i_rest (s0 := s0) (l := l) (t := some z) (n + 1) hr hx c d e S2
  refine ⟨lenv s0 l (some z) (some x) (some (.tup rs)) (some (rows3 (.tup rs))) (some (.lst (it6 x (.tup rs) ++ it3 x rs))) e, S2 ++ Z, ?_, ⟨_, _, _, _, _, _, rfl⟩, H2.1.more Z⟩
  rw [turn_eq b1]
  have e1 : callAt T (n + 72) 41 [.ref l] S = .ok x S1 := e1
  have e2 : callAt T (n + 72) 32 [.ref l, .int 3] S1 = .ok (.tup rs) S2 := e2
  have e3 : exs (callAt T (n + 72)) [oA5, oA6, oA7, oI] (lenv s0 l (some z) (some x) (some (.tup rs)) c d e) S2 = .nx _ (S2 ++ Z) := e3
  generalize callAt T (n + 72) = F at e1 e2 e3
  refine (exs_nx (en1 := lenv s0 l (some z) (some x) (some (.tup rs)) c d e) (S1 := S2) ?_).trans e3
  have q1 : ev F (.call 41 [.var 1]) (lenv s0 l (some z) a b c d e) S = .ok x S1 := by
    rw [ev, show evs F [.var 1] (lenv s0 l (some z) a b c d e) S = .ok [.ref l] S from pvs_1 (pv_var rfl)]
    exact e1
  have q2 : ev F (.call 32 [.var 1, .con (.int 3)]) (lenv s0 l (some z) a b c d e) S1 = .ok (.tup rs) S2 := by
    rw [ev, show evs F [.var 1, .con (.int 3)] (lenv s0 l (some z) a b c d e) S1 = .ok [.ref l, .int 3] S1 from pvs_2 (pv_var rfl) pv_con]
    exact e2
  rw [ex, q1]
  simp only [Out.of, q2]
  rfl
end
theorem b_law_eq : b_law = [.asg (.name 1) (.call 26 [.var 0]), .for_ (.name 2) .range [.con (.int 30)] [oP, oA5, oA6, oA7, oI], .ret (.con (.bl true))] := rfl
theorem T_law : T[43]? = some ⟨1, 8, b_law⟩ := rfl
theorem plain (ns : List Int) (hn : ns.length ≤ 63) : ∃ S, callAt (ds.map (·.fd)) 73 43 [.scr ns] [] = .ok (.bl true) S := by
  obtain ⟨S1, e1, H1, _⟩ := hand_ok (n := 71) T_hand ns hn
  obtain ⟨en', S2, e2, _, H2⟩ := h_loop (F := callAt T (0 + 72)) (p := .name 2) (body := [oP, oA5, oA6, oA7, oI]) (I := fun en => ∃ t a b c d e, en = lenv (.scr ns) 1 t a b c d e) (xs := (List.range' 0 30).map fun (k : Nat) => .int (k : Nat)) (fun y hy en S hI H => by
    obtain ⟨t, a, b, c, d, e, rfl⟩ := hI
    exact o_turn 0 H y t a b c d e) (lenv (.scr ns) 1 none none none none none none) S1 ⟨_, _, _, _, _, _, rfl⟩ H1
  refine ⟨S2, call_rt (n := 72) T_law rfl ?_⟩
  show exs (callAt T 72) b_law _ [] = _
  have e1 : callAt T 72 26 [.scr ns] [] = .ok (.ref 1) S1 := e1
  have e2 : loopF (turnF (callAt T 72) (.name 2) [oP, oA5, oA6, oA7, oI]) ((List.range' 0 30).map fun (k : Nat) => .int (k : Nat)) (lenv (.scr ns) 1 none none none none none none) S1 = .nx en' S2 := e2
  have r2 := range_it (i := 30) (by decide) (by decide)
  generalize callAt T 72 = F at e1 e2 ⊢
  have s1 : ex F (.asg (.name 1) (.call 26 [.var 0])) (startE [.scr ns] 8) [] = .nx (lenv (.scr ns) 1 none none none none none none) S1 := by
    refine ex_asg (d := .ref 1) ?_ rfl
    rw [ev, show evs F [.var 0] (startE [.scr ns] 8) [] = .ok [.scr ns] [] from pvs_1 (pv_var rfl)]
    exact e1
  have s2 : ex F (.for_ (.name 2) .range [.con (.int 30)] [oP, oA5, oA6, oA7, oI]) (lenv (.scr ns) 1 none none none none none none) S1 = .nx en' S2 := (ex_for_eq (ds := [.int 30]) (pvs_1 pv_con) r2).trans e2
  have s3 : ev F (.con (.bl true)) en' S2 = .ok (.bl true) S2 := pv_con
  rw [b_law_eq]
  exact (exs_nx s1).trans ((exs_nx s2).trans (exs_ret s3))

end MP

set_option maxHeartbeats 0
namespace MP
open PySem PySem.W PySem.Calls PyProof.Rows
abbrev RR : OpenRow := OpenLaw.row PySem.Challenge.rw_kinsignals_k03_rows_and_books_of_anythin
abbrev qv : Program := view RR.prog [55]
def names0 : List PySem.Str := ["SIGNALS", "SURE", "rising_signals", "is_signal", "may_be_masked", "are_maskable", "is_whole", "is_count", "is_below", "are_rising", "MANY_SAID", "MOST_LETTERS", "LETTERS", "SELF", "is_said", "is_title", "is_who", "is_one_of", "is_how", "is_exec", "is_said_row", "is_wait", "is_send", "is_masking", "is_handle", "is_grouping", "is_front", "is_going", "is_asking", "BARE"]
def names1 : List PySem.Str := ["FORMS", "is_row", "is_program", "is_book", "_law_hand", "_law_pick", "_law_of", "_law_signals", "_law_parts", "_law_words", "_law_row", "_law_whole", "_law_word", "_law_are_signals", "_law_is_title", "_law_is_part", "_law_is_row", "_law_is_book", "_law_deep", "_law_thing", "_law_right"]
def names : List PySem.Str := names0 ++ names1
theorem run_false (w : World) : HandSHeadRun.RunEq RR qv (hookM 5 glob ds) (obM 5 glob ds) 12000 names (w.withFollow "special-get-raises" false) := by
  intro os
  kernel_rfl
theorem run_true (w : World) : HandSHeadRun.RunEq RR qv (hookM 5 glob ds) (obM 5 glob ds) 12000 names (w.withFollow "special-get-raises" true) := by
  intro os
  kernel_rfl
theorem run (w : World) : HandSHeadRun.RunEq RR qv (hookM 5 glob ds) (obM 5 glob ds) 12000 names w := byRow2 "special-get-raises" run_false run_true w
end MP

set_option maxHeartbeats 0
open PySem PySem.W PySem.Calls PyProof.Rows
theorem PySem.Challenge.cw_kinsignals_k03_rows_and_books_of_anythin_holds : PySem.Challenge.rw_kinsignals_k03_rows_and_books_of_anythin.Holds := by
  w_on; o_law
  refine HandSHeadRun.head_any (r := MP.RR) (q := MP.qv) (H := MP.hookM 5 MP.glob MP.ds) (ob := MP.obM 5 MP.glob MP.ds) (M := 12000) (loose := MP.names) (d := HandSHeadRun.topDef MP.RR.prog 55) (kwd := []) (MP.obM_eq 5 MP.glob MP.ds)
    (by kernel_rfl) (fun s => by kernel_rfl) MP.run (by kernel_rfl) (by kernel_rfl) (by kernel_rfl) (by rfl) (by first | assumption | decide +kernel) (by decide +kernel) ⟨rfl, rfl, rfl, rfl, rfl, by decide +kernel⟩ ?hw ?hc
  case hw => w_witness2
  case hc =>
    exact MP.law_end (l := PySem.Challenge.rw_kinsignals_k03_rows_and_books_of_anythin) (n := 73) (i := 43) (dt := MP.d_law) (x := "_law_script") rfl (by kernel_rfl) ⟨rfl, by decide, by decide⟩ (by kernel_rfl) rfl rfl rfl MP.tab_ok MP.def_ok MP.plain
