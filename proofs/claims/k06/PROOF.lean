import PyProof.Rows.All
import Wide.All
import OpenK.AllK
import Wide.FinOn
import HandS.ForMost
import HandS.TupAny
import HandS.TupLe
import HandS.Wide
import HandS.Style
import HandS.IsInst
import HandS.Deep
import HandS.Walk
import HandS.Zip
import HandS.Flow
import HandS.Defaults
import HandS.CallLocal
import HandS.More
import HandS.Exc
import PyProof.P3In
import PyProof.StrOps2
import PyProof.ReprRoads
import HandS.SetTxt0
import HandS.SetFor
import HandS.HeadEnd
import HandS.FStr
import KE.GoesMore
import KE.KUnpackStar
import HandS.ExcOwn
import HandS.ExcInit
import HandS.ExcIs
import HandS.ExcField
import HandS.ExcValue
import HandS.ClsMeth
import KE.KIsAll
import HandS.HeadHook3
import HandS.Head0
import HandS.Head1
import HandS.Head2
import PyProof.ReprLen
import PyProof.Rows.StrIntSpec
import PySem.Challenge.RW_kinsignals_k06_signals_and_refusals
set_option Elab.async false
set_option linter.all false
set_option maxRecDepth 100000
/-! MP0: a plain machine for the part of Python that these programs use: data (tuples, lists that nobody changes) as values, what is changed as objects in a store; its meaning as plain functions. -/
namespace MP
open PySem L2

/-- data: what is never changed stands as a value; an object that is changed by its place in the store -/
inductive D where
  | non | bl (b : Bool) | int (i : Int) | str (x : Str)
  | tup (xs : List D) | lst (xs : List D) | scr (ns : List Int)
  | ref (l : Nat) | fn (i : Nat) | ty (n : String)
  /-- a dict that is never changed; a dict of the store as it is read -/
  | dct (ks : List Key) (vs : List D)
  /-- an empty dict that is never changed -/
  | emp
  /-- an exception of a class of the text that was caught: its class, a field's name, what it holds (or nothing) -/
  | exn (k f : Str) (ds : List D)
  deriving Inhabited
/-- an object of the store -/
inductive Ob where
  | lst (xs : List D)
  | dK (kvs : List (Key × D))
  | dT (kvs : List (List Key × D))
  | ins (c : Nat) (fs : List (Nat × D))
  deriving Inhabited
abbrev Store := List Ob
abbrev Env := List (Option D)
inductive Res (α : Type) where
  | ok (a : α) (S : Store)
  | exc (d : D) (S : Store)
  | bad
def Res.bind {α β : Type} (r : Res α) (f : α → Store → Res β) : Res β := match r with
  | .ok a S => f a S
  | .exc _ _ => .bad
  | .bad => .bad
theorem Res.bind_ok {α β : Type} (a : α) (S : Store) (f : α → Store → Res β) : (Res.ok a S).bind f = f a S := rfl
theorem Res.bind_bad {α β : Type} (f : α → Store → Res β) : (Res.bad : Res α).bind f = .bad := rfl
theorem Res.bind_eq {α β : Type} {r : Res α} {f : α → Store → Res β} {b : β} {S' : Store} (h : r.bind f = .ok b S') : ∃ a S, r = .ok a S ∧ f a S = .ok b S' := by
  cases r with
  | ok a S => exact ⟨a, S, rfl, h⟩
  | exc _ _ => cases h
  | bad => cases h
def opt {α : Type} (o : Option α) (S : Store) : Res α := match o with
  | some a => .ok a S
  | none => .bad
theorem opt_eq {α : Type} {o : Option α} {S S' : Store} {a : α} (h : opt o S = .ok a S') : o = some a ∧ S' = S := by
  cases o with
  | none => cases h
  | some b => cases h; exact ⟨rfl, rfl⟩

/-! ### syntax -/
inductive BOp | add | sub | mul | fdiv | mod | pow deriving DecidableEq
inductive COp | eq | ne | lt | le | gt | ge | inn | notin | is | isnot deriving DecidableEq
inductive Blt | len | isinst | all | any | tuple | list | abs | min | max | sorted | str | int | repr | sset deriving DecidableEq
inductive Mth | append | pop0 | pop1 | extend | index | join | upper | remove | insert | update | split deriving DecidableEq
inductive IK | seq | live | range | zip | enum deriving DecidableEq
/-- a target of names -/
inductive P where
  | name (i : Nat)
  | tup (ps : List P)
  | star (i : Nat) (ps : List P)
inductive E where
  | var (i : Nat)
  | con (d : D)
  | tup (es : List E) | lst (es : List E) | nlst (es : List E) | ndict (es : List E)
  | nadd (a b : E)
  | bin (o : BOp) (a b : E) | neg (a : E)
  | cmp (o : COp) (a b : E) | chain (o o' : COp) (a b c : E)
  | and (a b : E) | or (a b : E) | not (a : E)
  | ite (c a b : E)
  | ix (a b : E) | sl (a : E) (lo hi : List E) | rev (a : E)
  | call (f : Nat) (es : List E) | callk (f : Nat) (es ks : List E) | callv (i : Nat) (fs : List Nat) (es : List E)
  | blt (b : Blt) (es : List E) | mth (m : Mth) (o : E) (es : List E)
  | comp (mu : Bool) (p : P) (k : IK) (its : List E) (cond : List E) (e : E)
  | cin (neg : Bool) (kvs : List (Str × D)) (a : E) | cget (kvs : List (Str × D)) (a : E) | edict | fdict (es : List E)
  | fstr (es : List E)
  | compL (mu : Bool) (p : P) (it : E) (cond : List E) (e : E)
  | isx (a : E) (ans : List (Str × Bool)) | xfld (a : E) (f : Str) (ks : List Str) | xnew (k f : Str) (es : List E)
inductive SA where
  | asg (p : P) (e : E)
  | par (i j : Nat) (a b : E)
  | setIx (e o i : E)
  | expr (e : E) | ret (e : E) | retN
  | ifs (c : E) (t f : List SA)
  | for_ (p : P) (k : IK) (its : List E) (body : List SA)
  | while_ (c : E) (body : List SA)
  | brk | cont | pass | die
  | rais (k f : Str) (es : List E) | tryc (i f : Nat) (es : List E) (ks : List Str) (j m : Nat)

/-! ### values -/
/-- flat things: compared at once -/
def flat : D → Bool
  | .non => true | .bl _ => true | .int _ => true | .str _ => true
  | _ => false
def eqF : D → D → Bool
  | .non, .non => true
  | .bl a, .bl b => a == b
  | .bl a, .int b => (if a then 1 else 0) == b
  | .int a, .bl b => a == (if b then 1 else 0)
  | .int a, .int b => a == b
  | .str a, .str b => a == b
  | _, _ => false
def inF (x : D) (xs : List D) : Bool := xs.any fun y => eqF y x
mutual
def toPy : D → Option PyData
  | .non => some .none
  | .bl b => some (.bool b)
  | .int i => some (.int i)
  | .str x => some (.str x)
  | .tup xs => (toPys xs).map .tuple
  | .lst xs => (toPys xs).map .list
  | _ => none
def toPys : List D → Option (List PyData)
  | [] => some []
  | x :: xs => (toPy x).bind fun a => (toPys xs).map fun r => a :: r
end
/-! with dicts: what is shown -/
def keyPy : Key → PyData
  | .inl i => .int i
  | .inr x => .str x
mutual
def toPyE : D → Option PyData
  | .non => some .none
  | .bl b => some (.bool b)
  | .int i => some (.int i)
  | .str x => some (.str x)
  | .emp => some (.dict [])
  | .dct ks vs => (toPysE vs).bind fun ps => if ks.length = ps.length then some (.dict ((ks.map keyPy).zip ps)) else none
  | .tup xs => (toPysE xs).map .tuple
  | .lst xs => (toPysE xs).map .list
  | _ => none
def toPysE : List D → Option (List PyData)
  | [] => some []
  | x :: xs => (toPyE x).bind fun a => (toPysE xs).map fun r => a :: r
end
/-- what repr tells -/
def shownD (d : D) : Option Str := (toPyE d).bind fun p => if p.showable && decide (p.depth ≤ 64) && decide (p.shown.length ≤ 16000000) then some p.shown else none
mutual
/-- the same data -/
def beqD : D → D → Bool
  | .non, .non => true
  | .bl a, .bl b => a == b
  | .int a, .int b => a == b
  | .str a, .str b => a == b
  | .tup a, .tup b => beqDs a b
  | .lst a, .lst b => beqDs a b
  | .ref a, .ref b => a == b
  | .fn a, .fn b => a == b
  | _, _ => false
def beqDs : List D → List D → Bool
  | [], [] => true
  | a :: as, b :: bs => beqD a b && beqDs as bs
  | _, _ => false
end
mutual
theorem beqD_eq : ∀ a b : D, beqD a b = true → a = b
  | .non, b, h => by cases b <;> first | rfl | cases h
  | .bl a, b, h => by cases b <;> first | (rw [beqD, beq_iff_eq] at h; rw [h]) | cases h
  | .int a, b, h => by cases b <;> first | (rw [beqD, beq_iff_eq] at h; rw [h]) | cases h
  | .str a, b, h => by cases b <;> first | (rw [beqD, beq_iff_eq] at h; rw [h]) | cases h
  | .tup a, b, h => by cases b <;> first | (rw [beqD] at h; rw [beqDs_eq a _ h]) | cases h
  | .lst a, b, h => by cases b <;> first | (rw [beqD] at h; rw [beqDs_eq a _ h]) | cases h
  | .ref a, b, h => by cases b <;> first | (rw [beqD, beq_iff_eq] at h; rw [h]) | cases h
  | .fn a, b, h => by cases b <;> first | (rw [beqD, beq_iff_eq] at h; rw [h]) | cases h
  | .scr _, b, h => by cases b <;> cases h
  | .ty _, b, h => by cases b <;> cases h
  | .dct _ _, b, h => by cases b <;> cases h
  | .emp, b, h => by cases b <;> cases h
  | .exn _ _ _, b, h => by cases b <;> cases h
theorem beqDs_eq : ∀ a b : List D, beqDs a b = true → a = b
  | [], b, h => by cases b <;> first | rfl | cases h
  | x :: xs, b, h => by
    cases b with
    | nil => cases h
    | cons y ys =>
      rw [beqDs, Bool.and_eq_true] at h
      rw [beqD_eq x y h.1, beqDs_eq xs ys h.2]
end
/-- the list at l is still xs -/
def stillL (l : Nat) (xs : List D) (S : Store) : Bool := match S[l]? with
  | some (.lst ys) => beqDs ys xs
  | _ => false
/-- a list in the store read as a value -/
def deref (S : Store) : D → D
  | .ref l => match S[l]? with
    | some (.lst xs) => .lst xs
    | some (.dK kvs) => .dct (kvs.map (·.1)) (kvs.map (·.2))
    | _ => .ref l
  | d => d
def keyD : D → Option Key
  | .int i => some (.inl i)
  | .str x => some (.inr x)
  | _ => none
/-- the value at a key -/
def lookK (k : Key) : List Key → List D → Option D
  | q :: ks, d :: ds => if q = k then some d else lookK k ks ds
  | _, _ => none
def putD (kvs : List (Key × D)) (k : Key) (v : D) : List (Key × D) := if (kvs.any fun kv => decide (kv.1 = k)) = true then kvs.map (fun kv => if kv.1 = k then (kv.1, v) else kv) else kvs ++ [(k, v)]
def mergeD (kvs more : List (Key × D)) : List (Key × D) := more.foldl (fun acc kv => putD acc kv.1 kv.2) kvs
def pairsD : List D → Option (List (Key × D))
  | [] => some []
  | k :: v :: r => (keyD k).bind fun q => (pairsD r).map fun l => (q, v) :: l
  | _ => none
def eqG (a b : D) : Option Bool := (toPy a).bind fun x => (toPy b).bind fun y =>
  if SeqAt.shaped x && SeqAt.shaped y then some (PyData.eqv x y) else none
def eqD : D → D → Option Bool
  | .str x, .str y => some (x == y)
  | .tup xs, .tup [] => some xs.isEmpty
  | .lst xs, .lst [] => some xs.isEmpty
  | a, b => eqG a b
abbrev LIM : Nat := 100000
def mulOk (i j : Int) : Bool := decide (i.natAbs < 2 ^ 4096) && decide (j.natAbs < 2 ^ 4096)
def binD : BOp → D → D → Option D
  | .add, .int i, .int j => some (.int (i + j))
  | .add, .bl i, .int j => some (.int ((if i = true then 1 else 0) + j))
  | .add, .bl i, .bl j => some (.int ((if i = true then 1 else 0) + (if j = true then 1 else 0)))
  | .add, .str x, .str y => if x.length + y.length ≤ LIM then some (.str (x ++ y)) else none
  | .add, .tup xs, .tup ys => if xs.length + ys.length ≤ LIM then some (.tup (xs ++ ys)) else none
  | .add, .lst xs, .lst ys => if xs.length + ys.length ≤ LIM then some (.lst (xs ++ ys)) else none
  | .sub, .int i, .int j => some (.int (i - j))
  | .sub, .bl i, .int j => some (.int ((if i = true then 1 else 0) - j))
  | .sub, .int i, .bl j => some (.int (i - (if j = true then 1 else 0)))
  | .mul, .lst xs, .int n => if 0 ≤ n ∧ n ≤ 1000 ∧ xs.length ≤ 100 then some (.lst (List.replicate n.toNat xs).flatten) else none
  | .mul, .str x, .int n => if 2 ≤ n ∧ n ≤ 5000 ∧ 1 ≤ x.length ∧ x.length ≤ 100 then some (.str ⟨(List.replicate n.toNat x.cps).foldl (· ++ ·) #[]⟩) else none
  | .mul, .int i, .int j => if mulOk i j then some (.int (i * j)) else none
  | .fdiv, .int i, .int j => if 0 < j ∧ j.natAbs < 2 ^ 4096 then some (.int (i / j)) else none
  | .mod, .int i, .int j => if 0 < j then some (.int (i % j)) else none
  | .pow, .int i, .int j => if 0 ≤ j ∧ j ≤ 1000 ∧ i.natAbs < 2 ^ 64 then some (.int (i ^ j.toNat)) else none
  | _, _, _ => none
def inD (x : D) : D → Option Bool
  | .tup xs => if flat x && xs.all flat then some (inF x xs) else
      (toPy x).bind fun d => (toPys xs).bind fun ds => if SeqAt.shaped d && SeqAt.shaped (.tuple ds) then some (ds.any fun z => PyData.eqv z d) else none
  | .lst xs => if flat x && xs.all flat then some (inF x xs) else
      (toPy x).bind fun d => (toPys xs).bind fun ds => if SeqAt.shaped d && SeqAt.shaped (.list ds) then some (ds.any fun z => PyData.eqv z d) else none
  | .str z => match x with
    | .str ⟨⟨[c]⟩⟩ => some (decide (c ∈ z.cps.toList))
    | _ => none
  | .dct ks vs => (keyD x).map fun k => (lookK k ks vs).isSome
  | _ => none
def cmpD : COp → D → D → Option Bool
  | .eq, a, b => eqD a b
  | .ne, a, b => (eqD a b).map (!·)
  | .lt, .int i, .int j => some (decide (i < j))
  | .lt, .str x, .str y => some (decide (x.cps.toList < y.cps.toList))
  | .le, .int i, .int j => some (decide (i ≤ j))
  | .le, .str x, .str y => some (!decide (y.cps.toList < x.cps.toList))
  | .gt, .int i, .int j => some (decide (j < i))
  | .ge, .int i, .int j => some (decide (j ≤ i))
  | .inn, a, b => inD a b
  | .notin, a, b => (inD a b).map (!·)
  | .is, .bl a, .bl b => some (decide (a = b))
  | .is, .non, .non => some true
  | .is, .bl _, .non => some false | .is, .int _, .non => some false | .is, .str _, .non => some false
  | .is, .tup _, .non => some false | .is, .lst _, .non => some false | .is, .ref _, .non => some false | .is, .emp, .non => some false | .is, .dct _ _, .non => some false | .is, .exn _ _ _, .non => some false
  | .isnot, .bl a, .bl b => some (!decide (a = b))
  | .isnot, .non, .non => some false
  | .isnot, .bl _, .non => some true | .isnot, .int _, .non => some true | .isnot, .str _, .non => some true
  | .isnot, .tup _, .non => some true | .isnot, .lst _, .non => some true | .isnot, .ref _, .non => some true | .isnot, .emp, .non => some true | .isnot, .dct _ _, .non => some true | .isnot, .exn _ _ _, .non => some true
  | _, _, _ => none
def ixD : D → D → Option D
  | .tup xs, .int i => atI xs i
  | .lst xs, .int i => atI xs i
  | .scr ns, .int i => (atI ns i).map .int
  | .str z, .int i => if z.length ≤ LIM then (atI z.cps.toList i).map fun c => .str ⟨#[c]⟩ else none
  | .dct ks vs, y => (keyD y).bind fun k => lookK k ks vs
  | _, _ => none
def cutD {α : Type} (xs : List α) (lo hi : Option Int) : List α := (xs.drop (HT.sIx xs.length 0 lo)).take (HT.sIx xs.length xs.length hi - HT.sIx xs.length 0 lo)
def slD (lo hi : Option Int) : D → Option D
  | .tup xs => some (.tup (cutD xs lo hi))
  | .lst xs => some (.lst (cutD xs lo hi))
  | .scr ns => some (.lst ((cutD ns lo hi).map .int))
  | .str z => if z.length ≤ LIM then some (.str (cutS z lo hi)) else none
  | _ => none
def partD : List D → Option (Option Int)
  | [] => some none
  | [.int i] => some (some i)
  | _ => none
def strOf : D → Option Str
  | .str x => some x
  | _ => none
def blOf : D → Option Bool
  | .bl b => some b
  | _ => none
def intOf : D → Option Int
  | .int b => some b
  | _ => none
def tyOf : D → Option String
  | .non => some "NoneType" | .bl _ => some "bool" | .int _ => some "int" | .str _ => some "str"
  | .tup _ => some "tuple" | .lst _ => some "list" | .emp => some "dict" | .dct _ _ => some "dict"
  | _ => none
def isinst : D → D → Option Bool
  | d, .ty n => (tyOf d).bind fun t => kitB t n
  | _, _ => none
/-- texts sorted by their signs -/
def insS (x : Str) : List Str → List Str
  | [] => [x]
  | y :: r => if y.cps.toList < x.cps.toList then y :: insS x r else x :: y :: r
def sortS : List Str → List Str
  | [] => []
  | x :: r => insS x (sortS r)
/-- each once -/
def uniqS : List Str → List Str
  | [] => []
  | x :: r => if x ∈ r then uniqS r else x :: uniqS r
def bltD : Blt → List D → Option D
  | .len, [.tup xs] => some (.int xs.length)
  | .len, [.lst xs] => some (.int xs.length)
  | .len, [.scr xs] => some (.int xs.length)
  | .len, [.str z] => if z.length ≤ 10000000 then some (.int z.length) else none
  | .isinst, [d, t] => (isinst d t).map .bl
  | .all, [.lst xs] => (xs.mapM blOf).map fun bs => .bl (bs.all id)
  | .any, [.lst xs] => (xs.mapM blOf).map fun bs => .bl (bs.any id)
  | .tuple, [.lst xs] => some (.tup xs)
  | .tuple, [.tup xs] => some (.tup xs)
  | .list, [.lst xs] => some (.lst xs)
  | .list, [.tup xs] => some (.lst xs)
  | .abs, [.int i] => some (.int (if i < 0 then -i else i))
  | .min, [.int i, .int j] => some (.int (if j < i then j else i))
  | .max, [.int i, .int j] => some (.int (if j > i then j else i))
  | .int, [.bl b] => some (.int (if b then 1 else 0))
  | .int, [.int i] => some (.int i)
  | .int, [.str a] => (PySem.intText? a).bind fun n => if a.length ≤ 640 then some (.int n) else none
  | .sorted, [.lst xs] => (xs.mapM strOf).bind fun ys => if ys.length < 64 then some (.lst ((sortS ys).map .str)) else none
  | .sset, [.lst xs] => (xs.mapM strOf).bind fun ys => if ys.length < 64 then some (.lst ((sortS (uniqS ys)).map .str)) else none
  | .str, [.int i] => if i.natAbs.log2 < 1920 then some (.str (toString i)) else none
  | .str, [.str x] => some (.str x)
  | .str, [.non] => some (.str "None")
  | .str, [.bl b] => some (.str (if b then "True" else "False"))
  | .str, [.lst xs] => (shownD (.lst xs)).map .str
  | .str, [.tup xs] => (shownD (.tup xs)).map .str
  | .str, [.emp] => (shownD .emp).map .str
  | .str, [.dct ks vs] => (shownD (.dct ks vs)).map .str
  | .repr, [d] => (shownD d).map .str
  | _, _ => none
def idxF (x : D) : List D → Nat → Option Nat
  | [], _ => none
  | y :: ys, n => if eqF y x then some n else idxF x ys (n + 1)
/-- methods that change nothing -/
def mthP : Mth → D → List D → Option D
  | .index, .lst xs, [x] => if flat x && xs.all flat then (idxF x xs 0).map fun (n : Nat) => D.int (n : Int) else none
  | .join, .str a, [.lst xs] => (xs.mapM strOf).bind fun ys => if (ys.map (·.length)).sum + ys.length * a.length ≤ LIM then some (.str (Txt.join a ys)) else none
  | .split, .str a, [.str b] => if b.length ≠ 0 ∧ a.length ≤ LIM then some (.lst ((Txt.split a b).map .str)) else none
  | .upper, .str a, [] => if a.length ≤ LIM then some (.str (Txt.upper a)) else none
  | _, _, _ => none
/-- methods that change a list of the store -/
def isMut : Mth → Bool
  | .append => true | .pop0 => true | .pop1 => true | .extend => true | .remove => true | .insert => true
  | _ => false
def mthM (S : Store) : Mth → List D → List D → Option (D × List D)
  | .append, xs, [x] => if xs.length < LIM then some (.non, xs ++ [x]) else none
  | .pop0, xs, [] => (xs[xs.length - 1]?).map fun y => (y, xs.dropLast)
  | .pop1, xs, [.int i] => if xs.length ≤ LIM then (ixN xs.length i).bind fun k => (xs[k]?).map fun y => (y, xs.eraseIdx k) else none
  | .extend, xs, [y] => match deref S y with
    | .lst ys => if xs.length + ys.length ≤ LIM then some (.non, xs ++ ys) else none
    | _ => none
  | _, _, _ => none
/-- what a method is of -/
def mty : Mth → D → Bool
  | .join, .str _ => true | .upper, .str _ => true | .split, .str _ => true
  | .join, _ => false | .upper, _ => false | .split, _ => false
  | .update, .dct _ _ => true
  | .update, _ => false
  | _, .lst _ => true
  | _, _ => false
def updD (o : D) (as : List D) (S : Store) : Res D := match o, as with
  | .ref l, [.ref j] => match S[l]?, S[j]? with
    | some (.dK kvs), some (.dK more) => if l ≠ j ∧ kvs.length + more.length ≤ LIM then .ok .non (S.set l (.dK (mergeD kvs more))) else .bad
    | _, _ => .bad
  | _, _ => .bad
def mthD (m : Mth) (o : D) (as : List D) (S : Store) : Res D := if m = .update then updD o as S else match isMut m with
  | true => match o with
    | .ref l => match S[l]? with
      | some (.lst xs) => match mthM S m xs as with
        | some (r, ys) => .ok r (S.set l (.lst ys))
        | none => .bad
      | _ => .bad
    | _ => .bad
  | false => opt (mthP m (deref S o) (as.map (deref S))) S
/-- what a loop walks, as it stands ahead of it -/
def signs (z : Str) : List D := z.cps.toList.map fun c => .str ⟨#[c]⟩
def rangeD (lo hi : Int) : List D := (List.range (hi - lo).toNat).map fun (i : Nat) => .int (lo + i)
def itD : IK → List D → Option (List D)
  | .seq, [.tup xs] => some xs
  | .seq, [.lst xs] => some xs
  | .seq, [.scr ns] => some (ns.map .int)
  | .seq, [.str z] => some (signs z)
  | .range, [.int n] => if -1000000 ≤ n ∧ n ≤ 1000000 then some (rangeD 0 n) else none
  | .range, [.int m, .int n] => if (-1000000 ≤ m ∧ m ≤ 1000000) ∧ (-1000000 ≤ n ∧ n ≤ 1000000) then some (rangeD m n) else none
  | .zip, [.lst xs, .lst ys] => some ((xs.zip ys).map fun p => .tup [p.1, p.2])
  | .zip, [.tup xs, .lst ys] => some ((xs.zip ys).map fun p => .tup [p.1, p.2])
  | .zip, [.tup xs, .tup ys] => some ((xs.zip ys).map fun p => .tup [p.1, p.2])
  | .enum, [.lst xs] => some (((List.range xs.length).zip xs).map fun p => .tup [.int (p.1 : Nat), p.2])
  | .enum, [.tup xs] => some (((List.range xs.length).zip xs).map fun p => .tup [.int (p.1 : Nat), p.2])
  | _, _ => none
/-- a, *rest, b = ds: n targets, the i-th with the star -/
def starD (i n : Nat) (ds : List D) : List D := ds.take i ++ [.lst ((ds.drop i).take (ds.length - i - (n - 1 - i)))] ++ (ds.drop i).drop (ds.length - i - (n - 1 - i))
mutual
def bindP : P → D → Env → Option Env
  | .name i, d, env => if i < env.length then some (env.set i (some d)) else none
  | .tup ps, .tup ds, env => bindPs ps ds env
  | .tup _, _, _ => none
  | .star i ps, .tup ds, env => if i < ps.length ∧ ps.length ≤ ds.length + 1 then bindPs ps (starD i ps.length ds) env else none
  | .star i ps, .lst ds, env => if i < ps.length ∧ ps.length ≤ ds.length + 1 then bindPs ps (starD i ps.length ds) env else none
  | .star _ _, _, _ => none
def bindPs : List P → List D → Env → Option Env
  | [], [], env => some env
  | p :: ps, d :: ds, env => (bindP p d env).bind fun env' => bindPs ps ds env'
  | _, _, _ => none
end
mutual
def slotsP : P → List Nat
  | .name i => [i]
  | .tup ps => slotsPs ps
  | .star _ ps => slotsPs ps
def slotsPs : List P → List Nat
  | [] => []
  | p :: ps => slotsP p ++ slotsPs ps
end
def wipeE (env : Env) : List Nat → Env
  | [] => env
  | i :: is => (wipeE env is).set i none
def lookS (x : Str) : List (Str × D) → Option D
  | [] => none
  | (y, d) :: r => if x = y then some d else lookS x r

/-- what a text shows of a part -/
def fmtD : D → Option Str
  | .str y => if y.length ≤ LIM then some y else none
  | .int i => if i.natAbs.log2 < 1920 then some (toString i) else none
  | _ => none
def catS (ys : List Str) : Str := ys.foldl (· ++ ·) Str.empty
def fstrD (ds : List D) : Option D := (ds.mapM fmtD).bind fun ys => if (ys.map (·.length)).sum ≤ LIM then some (.str (catS ys)) else none

/-! ### expressions -/
/-- the turns of a comprehension -/
def loopC (g : D → Store → Res (Option D)) : List D → Store → Res (List D)
  | [], S => .ok [] S
  | x :: xs, S => (g x S).bind fun o S1 => (loopC g xs S1).bind fun r S2 => .ok (match o with | some y => y :: r | none => r) S2
/-- a sum of lists, to be changed later -/
def naddD (x y : D) (S : Store) : Res D := match deref S x, deref S y with
  | .lst xs, .lst ys => if xs.length + ys.length ≤ LIM then .ok (.ref S.length) (S ++ [.lst (xs ++ ys)]) else .bad
  | _, _ => .bad
abbrev Fn := Nat → List D → Store → Res D
mutual
def ev (F : Fn) : E → Env → Store → Res D
  | .var i, env, S => match env[i]? with
    | some (some d) => .ok d S
    | _ => .bad
  | .con d, _, S => .ok d S
  | .tup es, env, S => (evs F es env S).bind fun ds S1 => if ds.length ≤ LIM then .ok (.tup ds) S1 else .bad
  | .lst es, env, S => (evs F es env S).bind fun ds S1 => if ds.length ≤ LIM then .ok (.lst ds) S1 else .bad
  | .nlst es, env, S => (evs F es env S).bind fun ds S1 => if ds.length ≤ LIM then .ok (.ref S1.length) (S1 ++ [.lst ds]) else .bad
  | .ndict es, env, S => (evs F es env S).bind fun ds S1 => (opt (pairsD ds) S1).bind fun kvs S2 => if kvs.length ≤ 15 then .ok (.ref S2.length) (S2 ++ [.dK (mergeD [] kvs)]) else .bad
  | .nadd a b, env, S => (ev F a env S).bind fun x S1 => (ev F b env S1).bind fun y S2 => naddD x y S2
  | .bin o a b, env, S => (ev F a env S).bind fun x S1 => (ev F b env S1).bind fun y S2 => opt (binD o (deref S2 x) (deref S2 y)) S2
  | .neg a, env, S => (ev F a env S).bind fun x S1 => match x with
    | .int i => .ok (.int (-i)) S1
    | _ => .bad
  | .cmp o a b, env, S => (ev F a env S).bind fun x S1 => (ev F b env S1).bind fun y S2 => opt ((cmpD o (deref S2 x) (deref S2 y)).map .bl) S2
  | .chain o o' a b c, env, S => (ev F a env S).bind fun x S1 => (ev F b env S1).bind fun y S2 => (opt (cmpD o (deref S2 x) (deref S2 y)) S2).bind fun k S3 =>
      match k with
      | true => (ev F c env S3).bind fun z S4 => opt ((cmpD o' (deref S4 y) (deref S4 z)).map .bl) S4
      | false => .ok (.bl false) S3
  | .and a b, env, S => (ev F a env S).bind fun x S1 => match x with
    | .bl true => ev F b env S1
    | .bl false => .ok (.bl false) S1
    | _ => .bad
  | .or a b, env, S => (ev F a env S).bind fun x S1 => match x with
    | .bl false => ev F b env S1
    | .bl true => .ok (.bl true) S1
    | _ => .bad
  | .not a, env, S => (ev F a env S).bind fun x S1 => match x with
    | .bl b => .ok (.bl (!b)) S1
    | _ => .bad
  | .ite c a b, env, S => (ev F c env S).bind fun x S1 => match x with
    | .bl true => ev F a env S1
    | .bl false => ev F b env S1
    | _ => .bad
  | .ix a b, env, S => (ev F a env S).bind fun x S1 => (ev F b env S1).bind fun y S2 => opt (ixD (deref S2 x) y) S2
  | .sl a lo hi, env, S => (ev F a env S).bind fun x S1 => (evs F lo env S1).bind fun l S2 => (opt (partD l) S2).bind fun l' S2 => (evs F hi env S2).bind fun h S3 =>
      (opt (partD h) S3).bind fun h' S3 => opt (slD l' h' (deref S3 x)) S3
  | .rev a, env, S => (ev F a env S).bind fun x S1 => match x with
    | .lst xs => .ok (.lst xs.reverse) S1
    | .tup xs => .ok (.tup xs.reverse) S1
    | _ => .bad
  | .call f es, env, S => (evs F es env S).bind fun ds S1 => F f ds S1
  | .callk f es ks, env, S => (evs F es env S).bind fun ds S1 => (evs F ks env S1).bind fun zs S2 => F f (ds ++ zs) S2
  | .callv i fs es, env, S => (match env[i]? with
    | some (some (.fn f)) => if f ∈ fs then (evs F es env S).bind fun ds S1 => F f ds S1 else .bad
    | _ => .bad)
  | .blt b es, env, S => (evs F es env S).bind fun ds S1 => opt (bltD b (ds.map (deref S1))) S1
  | .mth m o es, env, S => (ev F o env S).bind fun x S1 => match mty m (deref S1 x) with
    | true => (evs F es env S1).bind fun ds S2 => mthD m x ds S2
    | false => .bad
  | .comp mu p k its cond e, env, S => (evs F its env S).bind fun ds S1 => (opt (itD k ds) S1).bind fun xs S1 =>
      (loopC (fun x S => match bindP p x (wipeE env (slotsP p)) with
        | none => .bad
        | some env' => (evs F cond env' S).bind fun cs S2 => match cs with
          | [] => (ev F e env' S2).bind fun y S3 => .ok (some y) S3
          | [.bl true] => (ev F e env' S2).bind fun y S3 => .ok (some y) S3
          | [.bl false] => .ok none S2
          | _ => .bad) xs S1).bind fun ys S2 => if ys.length ≤ LIM then (match mu with
          | true => .ok (.ref S2.length) (S2 ++ [.lst ys])
          | false => .ok (.lst ys) S2) else .bad
  | .cin neg kvs a, env, S => (ev F a env S).bind fun x S1 => match x with
    | .str y => .ok (.bl (if neg then (lookS y kvs).isNone else (lookS y kvs).isSome)) S1
    | _ => .bad
  | .cget kvs a, env, S => (ev F a env S).bind fun x S1 => match x with
    | .str y => opt (lookS y kvs) S1
    | _ => .bad
  | .edict, _, S => .ok .emp S
  | .isx a ans, env, S => (ev F a env S).bind fun x S1 => match x with
    | .exn k _ _ => opt ((ans.lookup k).map .bl) S1
    | _ => .bad
  | .xfld a f ks, env, S => (ev F a env S).bind fun x S1 => match x with
    | .exn k g [d] => if g = f ∧ k ∈ ks then .ok d S1 else .bad
    | _ => .bad
  | .fstr es, env, S => (evs F es env S).bind fun ds S1 => opt (fstrD ds) S1
  | .xnew k f es, env, S => (evs F es env S).bind fun ds S1 => if ds.length ≤ 1 then .ok (.exn k f ds) S1 else .bad
  | .compL mu p it cond e, env, S => (ev F it env S).bind fun d S1 => match d with
    | .ref l => match S1[l]? with
      | some (.lst xs) => (loopC (fun x S => ((match bindP p x (wipeE env (slotsP p)) with
        | none => .bad
        | some env' => (evs F cond env' S).bind fun cs S2 => match cs with
          | [] => (ev F e env' S2).bind fun y S3 => .ok (some y) S3
          | [.bl true] => (ev F e env' S2).bind fun y S3 => .ok (some y) S3
          | [.bl false] => .ok none S2
          | _ => .bad) : Res (Option D)).bind fun o S4 => if stillL l xs S4 = true then .ok o S4 else .bad) xs S1).bind fun ys S2 => if ys.length ≤ LIM then (match mu with
          | true => .ok (.ref S2.length) (S2 ++ [.lst ys])
          | false => .ok (.lst ys) S2) else .bad
      | _ => .bad
    | _ => .bad
  | .fdict es, env, S => (evs F es env S).bind fun ds S1 => (opt (pairsD ds) S1).bind fun kvs S2 => if kvs.length ≤ 15 then .ok (.dct ((mergeD [] kvs).map (·.1)) ((mergeD [] kvs).map (·.2))) S2 else .bad
def evs (F : Fn) : List E → Env → Store → Res (List D)
  | [], _, S => .ok [] S
  | e :: es, env, S => (ev F e env S).bind fun d S1 => (evs F es env S1).bind fun ds S2 => .ok (d :: ds) S2
end

/-! ### statements -/
inductive Out where
  | nx (env : Env) (S : Store) | rt (d : D) (S : Store) | bk (env : Env) (S : Store) | ct (env : Env) (S : Store) | ex (d : D) (S : Store) | bad
def Out.of {α : Type} (r : Res α) (f : α → Store → Out) : Out := match r with
  | .ok a S => f a S
  | .exc _ _ => .bad
  | .bad => .bad
def Out.then (o : Out) (f : Env → Store → Out) : Out := match o with
  | .nx env S => f env S
  | o => o
/-- the turns of a for -/
def loopF (g : D → Env → Store → Out) : List D → Env → Store → Out
  | [], env, S => .nx env S
  | x :: xs, env, S => match g x env S with
    | .nx env' S' => loopF g xs env' S'
    | .ct env' S' => loopF g xs env' S'
    | .bk env' S' => .nx env' S'
    | o => o
def loopW (c : Env → Store → Res D) (g : Env → Store → Out) : Nat → Env → Store → Out
  | 0, _, _ => .bad
  | n + 1, env, S => match c env S with
    | .ok (.bl true) S1 => match g env S1 with
      | .nx env' S' => loopW c g n env' S'
      | .ct env' S' => loopW c g n env' S'
      | .bk env' S' => .nx env' S'
      | o => o
    | .ok (.bl false) S1 => .nx env S1
    | _ => .bad
def setIxD (v o i : D) (S : Store) : Option Store := match o, i with
  | .ref l, .int k => match S[l]? with
    | some (.lst xs) => (ixN xs.length k).map fun j => S.set l (.lst (xs.set j v))
    | _ => none
  | _, _ => none
/-- turns of a while at most -/
def WN : Nat := 100000
mutual
def ex (F : Fn) : SA → Env → Store → Out
  | .asg p e, env, S => .of (ev F e env S) fun d S1 => match bindP p d env with
    | some env' => .nx env' S1
    | none => .bad
  | .par i j a b, env, S => .of (ev F a env S) fun x S1 => .of (ev F b env S1) fun y S2 => if i < env.length ∧ j < env.length then .nx ((env.set i (some x)).set j (some y)) S2 else .bad
  | .setIx e o i, env, S => .of (ev F e env S) fun v S1 => .of (ev F o env S1) fun x S2 => .of (ev F i env S2) fun k S3 => match setIxD v x k S3 with
    | some S4 => .nx env S4
    | none => .bad
  | .expr e, env, S => .of (ev F e env S) fun _ S1 => .nx env S1
  | .ret e, env, S => .of (ev F e env S) fun d S1 => .rt d S1
  | .retN, _, S => .rt .non S
  | .ifs c t f, env, S => .of (ev F c env S) fun x S1 => match x with
    | .bl true => exs F t env S1
    | .bl false => exs F f env S1
    | _ => .bad
  | .for_ p k its body, env, S => .of (evs F its env S) fun ds S1 => match itD k ds with
    | none => .bad
    | some xs => loopF (fun x env S => match bindP p x env with
      | none => .bad
      | some env' => exs F body env' S) xs env S1
  | .while_ c body, env, S => loopW (ev F c) (exs F body) WN env S
  | .brk, env, S => .bk env S
  | .cont, env, S => .ct env S
  | .pass, env, S => .nx env S
  | .die, _, _ => .bad
  | .rais k f es, env, S => .of (evs F es env S) fun ds S1 => match ds with
    | [] => .ex (.exn k f []) S1
    | [d] => .ex (.exn k f [d]) S1
    | _ => .bad
  | .tryc i f es ks j m, env, S => .of (evs F es env S) fun ds S1 => match F f ds S1 with
    | .ok d S2 => if i < env.length then .nx (env.set i (some d)) S2 else .bad
    | .exc (.exn k g xs) S2 => if k ∈ ks ∧ j < env.length ∧ m < env.length then .nx ((env.set m (some (.exn k g xs))).set j none) S2 else .bad
    | _ => .bad
def exs (F : Fn) : List SA → Env → Store → Out
  | [], env, S => .nx env S
  | s :: r, env, S => (ex F s env S).then fun env' S' => exs F r env' S'
end
structure FD where
  ps : Nat
  ns : Nat
  body : List SA
def startE (ds : List D) (n : Nat) : Env := ds.map some ++ List.replicate (n - ds.length) none
def callAt (T : List FD) : Nat → Fn
  | 0, _, _, _ => .bad
  | n + 1, f, ds, S => match T[f]? with
    | none => .bad
    | some d => if ds.length = d.ps then match exs (callAt T n) d.body (startE ds d.ns) S with
        | .nx _ S' => .ok .non S'
        | .rt r S' => .ok r S'
        | .ex d S' => .exc d S'
        | _ => .bad
      else .bad
end MP

/-! MP1: how the plain machine's data stand in the heap. -/
namespace MP
open PySem L2

structure Cfg where
  K : PySem.W.Frag
  fad : Nat → Addr
  cad : Str → Addr
/-- at a: an exception of the class at C that was caught, with its dict -/
def XO (C : Addr) (dd : Option Addr) (a : Addr) : HO := .ext fun h => ∃ (oe : Obj) (vs : Array Value), h.get? a = some oe ∧ Zc (.ref C) dd oe ∧ oe.data = .fields vs
/-- what an exception's dict holds -/
def XF (B : Hp) (f : Str) (dd : Option Addr) (vs : List V) : Prop := (vs = [] ∧ dd = none) ∨ ∃ (dx : Addr) (fs : List (Str × V)) (v : V), dd = some dx ∧ vs = [v] ∧ B dx = some (.xd fs) ∧ fs.lookup f = some v
theorem XF.mono {B B' : Hp} (h : ∀ a o, B a = some o → B' a = some o) {f : Str} {dd : Option Addr} {vs : List V} (x : XF B f dd vs) : XF B' f dd vs := by
  rcases x with x | ⟨dx, fs, v, x1, x2, x3, x4⟩
  · exact .inl x
  · exact .inr ⟨dx, fs, v, x1, x2, h _ _ x3, x4⟩
/-- where the store's objects stand; the part of the heap that is never changed -/
structure Wd where
  ρ : List Addr
  B : Hp
structure Wd.le (w w' : Wd) : Prop where
  l : ∀ (l : Nat) (a : Addr), w.ρ[l]? = some a → w'.ρ[l]? = some a
  b : ∀ (a : Addr) (o : HO), w.B a = some o → w'.B a = some o
theorem Wd.le_refl (w : Wd) : w.le w := ⟨fun _ _ h => h, fun _ _ h => h⟩
theorem Wd.le.le_trans {a b c : Wd} (h : a.le b) (k : b.le c) : a.le c := ⟨fun l x e => k.l l x (h.l l x e), fun x o e => k.b x o (h.b x o e)⟩

mutual
def RelD (c : Cfg) (w : Wd) : D → V → Prop
  | .non, v => v = .non
  | .bl b, v => v = .bl b
  | .int i, v => v = .int i
  | .str x, v => v = .str x
  | .tup xs, v => ∃ a ys, v = .ref a ∧ SqT c.K w.B a ys ∧ RelDs c w xs ys
  | .lst xs, v => ∃ a ys, v = .ref a ∧ w.B a = some (.lst ys) ∧ RelDs c w xs ys
  | .scr ns, v => ∃ a, v = .ref a ∧ SqL c.K w.B a (ns.map V.int)
  | .ref l, v => ∃ a, w.ρ[l]? = some a ∧ v = .ref a
  | .fn i, v => v = .ref (c.fad i)
  | .ty n, v => v = .ty n
  | .dct ks vs, v => ∃ a ys, v = .ref a ∧ w.B a = some (.dK ys) ∧ ys.map (·.1) = ks ∧ RelDs c w vs (ys.map (·.2))
  | .emp, v => ∃ a, v = .ref a ∧ w.B a = some (.dK [])
  | .exn k f ds, v => ∃ a dd vs, v = .ref a ∧ w.B a = some (XO (c.cad k) dd a) ∧ RelDs c w ds vs ∧ XF w.B f dd vs
def RelDs (c : Cfg) (w : Wd) : List D → List V → Prop
  | [], vs => vs = []
  | d :: ds, vs => ∃ v r, vs = v :: r ∧ RelD c w d v ∧ RelDs c w ds r
end
theorem sqT_mono {K : PySem.W.Frag} {H H' : Hp} {a : Addr} {xs : List V} (e : ∀ a o, H a = some o → H' a = some o) (h : SqT K H a xs) : SqT K H' a xs := by
  rcases h with (h | ⟨o, h⟩) | h
  · exact .inl (.inl (e _ _ h))
  · exact .inl (.inr ⟨o, e _ _ h⟩)
  · exact .inr h
theorem sqL_mono {K : PySem.W.Frag} {H H' : Hp} {a : Addr} {xs : List V} (e : ∀ a o, H a = some o → H' a = some o) (h : SqL K H a xs) : SqL K H' a xs := by
  rcases h with (h | ⟨o, h⟩) | h
  · exact .inl (.inl (e _ _ h))
  · exact .inl (.inr ⟨o, e _ _ h⟩)
  · exact .inr h
mutual
theorem RelD.mono {c : Cfg} {w w' : Wd} (h : w.le w') : ∀ (d : D) (v : V), RelD c w d v → RelD c w' d v
  | .non, _, e => e
  | .bl _, _, e => e
  | .int _, _, e => e
  | .str _, _, e => e
  | .tup xs, v, e => by
    simp only [RelD] at e ⊢
    obtain ⟨a, ys, e1, e2, e3⟩ := e
    exact ⟨a, ys, e1, sqT_mono h.b e2, RelDs.mono h xs ys e3⟩
  | .lst xs, v, e => by
    simp only [RelD] at e ⊢
    obtain ⟨a, ys, e1, e2, e3⟩ := e
    exact ⟨a, ys, e1, h.b _ _ e2, RelDs.mono h xs ys e3⟩
  | .scr ns, v, e => by
    simp only [RelD] at e ⊢
    obtain ⟨a, e1, e2⟩ := e
    exact ⟨a, e1, sqL_mono h.b e2⟩
  | .ref l, v, e => by
    simp only [RelD] at e ⊢
    obtain ⟨a, e1, e2⟩ := e
    exact ⟨a, h.l _ _ e1, e2⟩
  | .fn _, _, e => e
  | .ty _, _, e => e
  | .dct ks vs, v, e => by
    simp only [RelD] at e ⊢
    obtain ⟨a, ys, e1, e2, e3, e4⟩ := e
    exact ⟨a, ys, e1, h.b _ _ e2, e3, RelDs.mono h vs _ e4⟩
  | .emp, v, e => by
    simp only [RelD] at e ⊢
    obtain ⟨a, e1, e2⟩ := e
    exact ⟨a, e1, h.b _ _ e2⟩
  | .exn k f ds, v, e => by
    simp only [RelD] at e ⊢
    obtain ⟨a, dd, vs, e1, e2, e3, e4⟩ := e
    exact ⟨a, dd, vs, e1, h.b _ _ e2, RelDs.mono h ds vs e3, e4.mono h.b⟩
theorem RelDs.mono {c : Cfg} {w w' : Wd} (h : w.le w') : ∀ (ds : List D) (vs : List V), RelDs c w ds vs → RelDs c w' ds vs
  | [], _, e => e
  | d :: ds, vs, e => by
    simp only [RelDs] at e ⊢
    obtain ⟨v, r, e1, e2, e3⟩ := e
    exact ⟨v, r, e1, RelD.mono h d v e2, RelDs.mono h ds r e3⟩
end
/-- what is raised, by its class and dict -/
def ExR (c : Cfg) (w : Wd) (d : D) (cls : Value) (dd : Option Addr) : Prop := ∃ k f ds vs, d = .exn k f ds ∧ cls = .ref (c.cad k) ∧ RelDs c w ds vs ∧ XF w.B f dd vs
theorem RelDs.nil {c : Cfg} {w : Wd} : RelDs c w [] [] := by simp only [RelDs]
theorem RelDs.cons {c : Cfg} {w : Wd} {d : D} {ds : List D} {v : V} {vs : List V} (h : RelD c w d v) (k : RelDs c w ds vs) : RelDs c w (d :: ds) (v :: vs) := by
  simp only [RelDs]; exact ⟨v, vs, rfl, h, k⟩
theorem RelDs.nil_inv {c : Cfg} {w : Wd} {vs : List V} (h : RelDs c w [] vs) : vs = [] := by simpa only [RelDs] using h
theorem RelDs.cons_inv {c : Cfg} {w : Wd} {d : D} {ds : List D} {vs : List V} (h : RelDs c w (d :: ds) vs) : ∃ v r, vs = v :: r ∧ RelD c w d v ∧ RelDs c w ds r := by
  simpa only [RelDs] using h
theorem RelDs.length {c : Cfg} {w : Wd} : ∀ {ds : List D} {vs : List V}, RelDs c w ds vs → ds.length = vs.length
  | [], vs, h => by rw [RelDs.nil_inv h]; rfl
  | d :: ds, vs, h => by
    obtain ⟨v, r, rfl, _, h2⟩ := h.cons_inv
    simp only [List.length_cons, RelDs.length h2]
theorem RelDs.get {c : Cfg} {w : Wd} : ∀ {ds : List D} {vs : List V} {i : Nat} {d : D}, RelDs c w ds vs → ds[i]? = some d → ∃ v, vs[i]? = some v ∧ RelD c w d v
  | [], vs, i, d, _, e => by simp at e
  | d :: ds, vs, i, d', h, e => by
    obtain ⟨v, r, rfl, h1, h2⟩ := h.cons_inv
    cases i with
    | zero => simp at e; subst e; exact ⟨v, rfl, h1⟩
    | succ i =>
      have e' : ds[i]? = some d' := by simpa using e
      obtain ⟨v', q1, q2⟩ := h2.get e'
      exact ⟨v', by simpa using q1, q2⟩
theorem RelDs.getV {c : Cfg} {w : Wd} : ∀ {ds : List D} {vs : List V} {i : Nat} {v : V}, RelDs c w ds vs → vs[i]? = some v → ∃ d, ds[i]? = some d ∧ RelD c w d v
  | [], vs, i, v, h, e => by rw [h.nil_inv] at e; simp at e
  | d :: ds, vs, i, v', h, e => by
    obtain ⟨v, r, rfl, h1, h2⟩ := h.cons_inv
    cases i with
    | zero => simp at e; subst e; exact ⟨d, rfl, h1⟩
    | succ i =>
      have e' : r[i]? = some v' := by simpa using e
      obtain ⟨d', q1, q2⟩ := h2.getV e'
      exact ⟨d', by simpa using q1, q2⟩
theorem RelDs.append {c : Cfg} {w : Wd} : ∀ {ds es : List D} {vs us : List V}, RelDs c w ds vs → RelDs c w es us → RelDs c w (ds ++ es) (vs ++ us)
  | [], es, vs, us, h, k => by rw [h.nil_inv]; exact k
  | d :: ds, es, vs, us, h, k => by
    obtain ⟨v, r, rfl, h1, h2⟩ := h.cons_inv
    exact .cons h1 (h2.append k)
theorem RelDs.drop {c : Cfg} {w : Wd} : ∀ (n : Nat) {ds : List D} {vs : List V}, RelDs c w ds vs → RelDs c w (ds.drop n) (vs.drop n)
  | 0, ds, vs, h => h
  | n + 1, [], vs, h => by rw [h.nil_inv]; exact .nil
  | n + 1, d :: ds, vs, h => by
    obtain ⟨v, r, rfl, h1, h2⟩ := h.cons_inv
    exact h2.drop n
theorem RelDs.take {c : Cfg} {w : Wd} : ∀ (n : Nat) {ds : List D} {vs : List V}, RelDs c w ds vs → RelDs c w (ds.take n) (vs.take n)
  | 0, ds, vs, h => .nil
  | n + 1, [], vs, h => by rw [h.nil_inv]; exact .nil
  | n + 1, d :: ds, vs, h => by
    obtain ⟨v, r, rfl, h1, h2⟩ := h.cons_inv
    exact .cons h1 (h2.take n)
theorem RelDs.reverse {c : Cfg} {w : Wd} : ∀ {ds : List D} {vs : List V}, RelDs c w ds vs → RelDs c w ds.reverse vs.reverse
  | [], vs, h => by rw [h.nil_inv]; exact .nil
  | d :: ds, vs, h => by
    obtain ⟨v, r, rfl, h1, h2⟩ := h.cons_inv
    rw [List.reverse_cons, List.reverse_cons]
    exact h2.reverse.append (.cons h1 .nil)
theorem RelDs.set {c : Cfg} {w : Wd} {d : D} {v : V} (k : RelD c w d v) : ∀ (i : Nat) {ds : List D} {vs : List V}, RelDs c w ds vs → RelDs c w (ds.set i d) (vs.set i v)
  | i, [], vs, h => by rw [h.nil_inv]; exact .nil
  | 0, _ :: ds, vs, h => by
    obtain ⟨v, r, rfl, h1, h2⟩ := h.cons_inv
    exact .cons k h2
  | i + 1, _ :: ds, vs, h => by
    obtain ⟨v, r, rfl, h1, h2⟩ := h.cons_inv
    exact .cons h1 (h2.set k i)
theorem RelDs.eraseIdx {c : Cfg} {w : Wd} : ∀ (i : Nat) {ds : List D} {vs : List V}, RelDs c w ds vs → RelDs c w (ds.eraseIdx i) (vs.eraseIdx i)
  | i, [], vs, h => by rw [h.nil_inv]; exact .nil
  | 0, _ :: ds, vs, h => by
    obtain ⟨v, r, rfl, h1, h2⟩ := h.cons_inv
    exact h2
  | i + 1, _ :: ds, vs, h => by
    obtain ⟨v, r, rfl, h1, h2⟩ := h.cons_inv
    exact .cons h1 (h2.eraseIdx i)
theorem RelDs.dropLast {c : Cfg} {w : Wd} {ds : List D} {vs : List V} (h : RelDs c w ds vs) : RelDs c w ds.dropLast vs.dropLast := by
  rw [List.dropLast_eq_take, List.dropLast_eq_take, h.length]
  exact h.take _
theorem RelDs.ints {c : Cfg} {w : Wd} : ∀ ns : List Int, RelDs c w (ns.map D.int) (ns.map V.int)
  | [] => .nil
  | n :: ns => .cons (by simp only [RelD]) (RelDs.ints ns)
theorem RelDs.one {c : Cfg} {w : Wd} {d : D} {vs : List V} (h : RelDs c w [d] vs) : ∃ v, vs = [v] ∧ RelD c w d v := by
  obtain ⟨v, r, rfl, h1, h2⟩ := h.cons_inv
  rw [h2.nil_inv]
  exact ⟨v, rfl, h1⟩
theorem RelDs.two {c : Cfg} {w : Wd} {d e : D} {vs : List V} (h : RelDs c w [d, e] vs) : ∃ v u, vs = [v, u] ∧ RelD c w d v ∧ RelD c w e u := by
  obtain ⟨v, r, rfl, h1, h2⟩ := h.cons_inv
  obtain ⟨u, rfl, h3⟩ := h2.one
  exact ⟨v, u, rfl, h1, h3⟩

def RelO (c : Cfg) (w : Wd) : Ob → HO → Prop
  | .lst xs, h => ∃ ys, h = .lst ys ∧ RelDs c w xs ys
  | .dK kvs, h => ∃ ys, h = .dK ys ∧ Paired (fun (p : Key × D) (q : Key × V) => p.1 = q.1 ∧ RelD c w p.2 q.2) kvs ys
  | .dT kvs, h => ∃ ys, h = .dT ys ∧ Paired (fun (p : List Key × D) (q : List Key × V) => p.1 = q.1 ∧ RelD c w p.2 q.2) kvs ys
  | .ins _ _, _ => False
theorem RelO.mono {c : Cfg} {w w' : Wd} (h : w.le w') {o : Ob} {ho : HO} (r : RelO c w o ho) : RelO c w' o ho := by
  cases o with
  | lst xs => obtain ⟨ys, e, q⟩ := r; exact ⟨ys, e, q.mono h⟩
  | dK kvs => obtain ⟨ys, e, q⟩ := r; exact ⟨ys, e, Paired.mapP q fun a b z => ⟨z.1, RelD.mono h _ _ z.2⟩⟩
  | dT kvs => obtain ⟨ys, e, q⟩ := r; exact ⟨ys, e, Paired.mapP q fun a b z => ⟨z.1, RelD.mono h _ _ z.2⟩⟩
  | ins _ _ => exact r
structure Rel (c : Cfg) (w : Wd) (S : Store) (H : Hp) : Prop where
  ex : ∀ a o, w.B a = some o → H a = some o
  len : w.ρ.length = S.length
  obj : ∀ (l : Nat) (a : Addr) (o : Ob), w.ρ[l]? = some a → S[l]? = some o → w.B a = none ∧ ∃ h, H a = some h ∧ RelO c w o h
  nd : ∀ (i j : Nat) (a : Addr), w.ρ[i]? = some a → w.ρ[j]? = some a → i = j
def RelEnv (c : Cfg) (w : Wd) (env : Env) (σ : St) : Prop := env.length = σ.length ∧ ∀ (i : Nat) (d : D), env[i]? = some (some d) → ∃ v, σ[i]? = some (some v) ∧ RelD c w d v
theorem RelEnv.mono {c : Cfg} {w w' : Wd} (h : w.le w') {env : Env} {σ : St} (r : RelEnv c w env σ) : RelEnv c w' env σ :=
  ⟨r.1, fun i d e => let ⟨v, q, k⟩ := r.2 i d e; ⟨v, q, k.mono h⟩⟩
theorem RelEnv.set {c : Cfg} {w : Wd} {env : Env} {σ : St} {i : Nat} {d : D} {v : V} (r : RelEnv c w env σ) (k : RelD c w d v) (hi : i < env.length) : RelEnv c w (env.set i (some d)) (σ.set i (some v)) := by
  refine ⟨by rw [List.length_set, List.length_set]; exact r.1, fun j e q => ?_⟩
  by_cases hj : j = i
  · subst hj
    rw [List.getElem?_set_self hi] at q
    cases q
    exact ⟨v, List.getElem?_set_self (by rw [← r.1]; exact hi), k⟩
  · rw [List.getElem?_set_ne (Ne.symm hj)] at q
    obtain ⟨v', q1, q2⟩ := r.2 j e q
    exact ⟨v', by rw [List.getElem?_set_ne (Ne.symm hj)]; exact q1, q2⟩
section
variable {c : Cfg} {w : Wd} {S : Store} {H : Hp}
theorem Rel.there (R : Rel c w S H) {l : Nat} {o : Ob} (h : S[l]? = some o) : ∃ a ho, w.ρ[l]? = some a ∧ w.B a = none ∧ H a = some ho ∧ RelO c w o ho := by
  obtain ⟨hl, _⟩ := List.getElem?_eq_some_iff.mp h
  have hl' : l < w.ρ.length := by rw [R.len]; exact hl
  obtain ⟨n, ho, e1, e2⟩ := R.obj l w.ρ[l] o (List.getElem?_eq_getElem hl') h
  exact ⟨_, ho, List.getElem?_eq_getElem hl', n, e1, e2⟩
theorem Rel.lst (R : Rel c w S H) {l : Nat} {a : Addr} {xs : List D} (hl : w.ρ[l]? = some a) (h : S[l]? = some (.lst xs)) : ∃ ys, H a = some (.lst ys) ∧ RelDs c w xs ys := by
  obtain ⟨_, ho, e1, ys, rfl, e2⟩ := R.obj l a _ hl h
  exact ⟨ys, e1, e2⟩
theorem Rel.freeB (R : Rel c w S H) {p : Addr} (h : H p = none) : w.B p = none := by
  cases e : w.B p with
  | none => rfl
  | some o => rw [R.ex p o e] at h; cases h
theorem Rel.freeR (R : Rel c w S H) {p : Addr} (h : H p = none) {l : Nat} {a : Addr} (hl : w.ρ[l]? = some a) : a ≠ p := by
  rintro rfl
  obtain ⟨h1, _⟩ := List.getElem?_eq_some_iff.mp hl
  have h2 : l < S.length := by rw [← R.len]; exact h1
  obtain ⟨_, ho, e1, _⟩ := R.obj l a S[l] hl (List.getElem?_eq_getElem h2)
  rw [h] at e1; cases e1
/-- the world with more that never changes -/
abbrev Wd.add (w : Wd) (p : Addr) (o : HO) : Wd := ⟨w.ρ, upd w.B p o⟩
theorem Wd.le_add {w : Wd} {p : Addr} {o : HO} (h : w.B p = none) : w.le (w.add p o) :=
  ⟨fun _ _ e => e, fun a u e => by
    show upd w.B p o a = some u
    rw [upd_ne (ne_of_none e h)]; exact e⟩
theorem Rel.add (R : Rel c w S H) {p : Addr} (h : H p = none) (o : HO) : Rel c (w.add p o) S (upd H p o) := by
  have hB := R.freeB h
  refine ⟨fun a u e => ?_, R.len, fun l a ob hl hs => ?_, R.nd⟩
  · by_cases ha : a = p
    · subst ha
      rw [show (w.add a o).B a = some o from upd_same] at e
      rw [upd_same]; exact e
    · rw [show (w.add p o).B a = w.B a from upd_ne ha] at e
      rw [upd_ne ha]; exact R.ex a u e
  · have ha := R.freeR h hl
    obtain ⟨n, ho, e1, e2⟩ := R.obj l a ob hl hs
    refine ⟨by show upd w.B p o a = none; rw [upd_ne ha]; exact n, ho, by rw [upd_ne ha]; exact e1, e2.mono (Wd.le_add hB)⟩
/-- the world with one more object of the store -/
abbrev Wd.more (w : Wd) (p : Addr) : Wd := ⟨w.ρ ++ [p], w.B⟩
theorem Wd.le_more {w : Wd} {p : Addr} : w.le (w.more p) :=
  ⟨fun l a e => by
    obtain ⟨h1, _⟩ := List.getElem?_eq_some_iff.mp e
    show (w.ρ ++ [p])[l]? = some a
    rw [List.getElem?_append_left h1]; exact e, fun _ _ e => e⟩
theorem Rel.more (R : Rel c w S H) {p : Addr} (h : H p = none) {o : Ob} {ho : HO} (ro : RelO c (w.more p) o ho) : Rel c (w.more p) (S ++ [o]) (upd H p ho) := by
  have hB := R.freeB h
  have split : ∀ (l : Nat) (a : Addr), (w.ρ ++ [p])[l]? = some a → w.ρ[l]? = some a ∨ (l = w.ρ.length ∧ a = p) := fun l a e => by
    by_cases hl : l < w.ρ.length
    · rw [List.getElem?_append_left hl] at e; exact .inl e
    · rw [List.getElem?_append_right (by omega)] at e
      obtain ⟨h1, h2⟩ := List.getElem?_eq_some_iff.mp e
      have h3 : l = w.ρ.length := by simp at h1; omega
      subst h3
      simp at h2
      exact .inr ⟨rfl, h2.symm⟩
  refine ⟨fun a u e => ?_, by simp [R.len], fun l a ob hl hs => ?_, fun i j a hi hj => ?_⟩
  · rw [upd_ne (ne_of_none (R.ex a u e) h)]; exact R.ex a u e
  · rcases split l a hl with e | ⟨e1, e2⟩
    · have hl' : l < S.length := by rw [← R.len]; exact (List.getElem?_eq_some_iff.mp e).1
      rw [List.getElem?_append_left hl'] at hs
      obtain ⟨n, hb, q1, q2⟩ := R.obj l a ob e hs
      have ha := R.freeR h e
      exact ⟨n, hb, by rw [upd_ne ha]; exact q1, q2.mono Wd.le_more⟩
    · subst e2
      rw [e1, R.len, List.getElem?_append_right (Nat.le_refl _)] at hs
      simp at hs
      subst hs
      exact ⟨hB, ho, upd_same, ro⟩
  · rcases split i a hi with e | ⟨e1, e2⟩
    · rcases split j a hj with k | ⟨k1, k2⟩
      · exact R.nd i j a e k
      · exact absurd k2 (R.freeR h e)
    · rcases split j a hj with k | ⟨k1, k2⟩
      · exact absurd e2 (R.freeR h k)
      · rw [e1, k1]
theorem Rel.put (R : Rel c w S H) {l : Nat} {a : Addr} (hl : w.ρ[l]? = some a) {o : Ob} {ho : HO} (ro : RelO c w o ho) : Rel c w (S.set l o) (upd H a ho) := by
  have hlt := (List.getElem?_eq_some_iff.mp hl).1
  have hBa : w.B a = none := (R.obj l a (S[l]'(by rw [← R.len]; exact hlt)) hl (List.getElem?_eq_getElem _)).1
  refine ⟨fun b u e => ?_, by rw [List.length_set]; exact R.len, fun j b ob hj hs => ?_, R.nd⟩
  · rw [upd_ne (fun z => by subst z; rw [hBa] at e; cases e)]; exact R.ex b u e
  · by_cases hjl : j = l
    · subst hjl
      rw [hl] at hj; cases hj
      rw [List.getElem?_set_self (by rw [← R.len]; exact hlt)] at hs
      cases hs
      exact ⟨hBa, ho, upd_same, ro⟩
    · rw [List.getElem?_set_ne (Ne.symm hjl)] at hs
      obtain ⟨n, hb, q1, q2⟩ := R.obj j b ob hj hs
      refine ⟨n, hb, ?_, q2⟩
      rw [upd_ne (fun z => hjl (R.nd j l b hj (by rw [z]; exact hl)))]
      exact q1
end

/-- from one state to a later one: nothing but the store's objects is changed, new ones stand at free places -/
structure Go (w : Wd) (H : Hp) (w' : Wd) (H' : Hp) : Prop where
  le : w.le w'
  fr : ∀ (a : Addr) (o : HO), H a = some o → (∀ l : Nat, w.ρ[l]? ≠ some a) → H' a = some o
  nw : ∀ (l : Nat) (a : Addr), w'.ρ[l]? = some a → (∃ j : Nat, w.ρ[j]? = some a) ∨ H a = none
  nb : ∀ (a : Addr) (o : HO), w'.B a = some o → w.B a = some o ∨ (H a = none ∧ ∀ l : Nat, w.ρ[l]? ≠ some a)
theorem Go.refl {w : Wd} {H : Hp} : Go w H w H := ⟨w.le_refl, fun _ _ e _ => e, fun l a e => .inl ⟨l, e⟩, fun _ _ e => .inl e⟩
theorem Go.trans {w w1 w2 : Wd} {H H1 H2 : Hp} (g : Go w H w1 H1) (k : Go w1 H1 w2 H2) : Go w H w2 H2 := by
  refine ⟨g.le.le_trans k.le, fun a o e n => k.fr a o (g.fr a o e n) fun l q => ?_, fun l a e => ?_, fun a o e => ?_⟩
  · rcases g.nw l a q with ⟨j, hj⟩ | h
    · exact n j hj
    · rw [e] at h; cases h
  · rcases k.nw l a e with ⟨j, hj⟩ | h
    · exact g.nw j a hj
    · by_cases hx : ∃ j : Nat, w.ρ[j]? = some a
      · exact .inl hx
      · cases q : H a with
        | none => exact .inr rfl
        | some o =>
          have := g.fr a o q fun l z => hx ⟨l, z⟩
          rw [h] at this; cases this
  · rcases k.nb a o e with e1 | h
    · exact g.nb a o e1
    · by_cases hx : ∃ j : Nat, w.ρ[j]? = some a
      · obtain ⟨j, hj⟩ := hx
        exact absurd (g.le.l j a hj) (h.2 j)
      · cases q : H a with
        | none => exact .inr ⟨rfl, fun l z => hx ⟨l, z⟩⟩
        | some o' =>
          have := g.fr a o' q fun l z => hx ⟨l, z⟩
          rw [h.1] at this; cases this
theorem Go.add {w : Wd} {H : Hp} {p : Addr} {o : HO} (hB : w.B p = none) (h : H p = none) (hr : ∀ l : Nat, w.ρ[l]? ≠ some p) : Go w H (w.add p o) (upd H p o) := by
  refine ⟨Wd.le_add hB, fun a u e _ => by rw [upd_ne (ne_of_none e h)]; exact e, fun l a e => .inl ⟨l, e⟩, fun a u e => ?_⟩
  by_cases ha : a = p
  · subst ha; exact .inr ⟨h, hr⟩
  · rw [show (w.add p o).B a = w.B a from upd_ne ha] at e; exact .inl e
theorem Go.more {w : Wd} {H : Hp} {p : Addr} {o : HO} (h : H p = none) : Go w H (w.more p) (upd H p o) := by
  refine ⟨Wd.le_more, fun a u e _ => by rw [upd_ne (ne_of_none e h)]; exact e, fun l a e => ?_, fun a u e => .inl e⟩
  by_cases hl : l < w.ρ.length
  · rw [show (w.more p).ρ = w.ρ ++ [p] from rfl, List.getElem?_append_left hl] at e; exact .inl ⟨l, e⟩
  · rw [show (w.more p).ρ = w.ρ ++ [p] from rfl, List.getElem?_append_right (by omega)] at e
    have := List.mem_of_getElem? e
    simp at this
    rw [this]; exact .inr h
theorem Go.put {w : Wd} {H : Hp} {l : Nat} {a : Addr} {o : HO} (hl : w.ρ[l]? = some a) : Go w H w (upd H a o) :=
  ⟨w.le_refl, fun b u e n => by rw [upd_ne (fun z => n l (by rw [z]; exact hl))]; exact e, fun l a e => .inl ⟨l, e⟩, fun _ _ e => .inl e⟩
section
variable {c : Cfg} {w w1 : Wd} {S S1 : Store} {H H1 : Hp} {p : Addr}
theorem Rel.notR (R : Rel c w S H) (h : H p = none) (l : Nat) : w.ρ[l]? ≠ some p := fun e => R.freeR h e rfl
/-- something else is laid, or changed -/
theorem Rel.other (R : Rel c w S H) {o : HO} (hB : w.B p = none) (hr : ∀ l : Nat, w.ρ[l]? ≠ some p) : Rel c w S (upd H p o) := by
  refine ⟨fun a u e => ?_, R.len, fun l a ob hl hs => ?_, R.nd⟩
  · rw [upd_ne (fun z => by subst z; rw [hB] at e; cases e)]; exact R.ex a u e
  · obtain ⟨n, ho, e1, e2⟩ := R.obj l a ob hl hs
    exact ⟨n, ho, by rw [upd_ne (fun z => hr l (by rw [← z]; exact hl))]; exact e1, e2⟩
theorem Go.other (g : Go w H w1 H1) {o : HO} (h : H p = none) : Go w H w1 (upd H1 p o) :=
  ⟨g.le, fun a u e n => by rw [upd_ne (ne_of_none e h)]; exact g.fr a u e n, g.nw, g.nb⟩
theorem Go.free (g : Go w H w1 H1) (R1 : Rel c w1 S1 H1) (h : H1 p = none) : H p = none := by
  by_cases hx : ∃ j : Nat, w.ρ[j]? = some p
  · obtain ⟨j, hj⟩ := hx
    exact absurd (g.le.l j p hj) (R1.notR h j)
  · cases q : H p with
    | none => rfl
    | some o => have := g.fr p o q fun l z => hx ⟨l, z⟩; rw [h] at this; cases this
/-- what stands at p is from now on never changed -/
theorem Rel.adopt (R : Rel c w S H) {o : HO} (h : H p = some o) (hB : w.B p = none) (hr : ∀ l : Nat, w.ρ[l]? ≠ some p) : Rel c (w.add p o) S H := by
  refine ⟨fun a u e => ?_, R.len, fun l a ob hl hs => ?_, R.nd⟩
  · by_cases ha : a = p
    · subst ha
      rw [show (w.add a o).B a = some o from upd_same] at e
      cases e; exact h
    · rw [show (w.add p o).B a = w.B a from upd_ne ha] at e
      exact R.ex a u e
  · obtain ⟨n, ho, e1, e2⟩ := R.obj l a ob hl hs
    exact ⟨by show upd w.B p o a = none; rw [upd_ne (fun z => hr l (by rw [← z]; exact hl))]; exact n, ho, e1, e2.mono (Wd.le_add hB)⟩
/-- what stands at p is an object of the store -/
theorem Rel.adoptO (R : Rel c w S H) {ho : HO} {o : Ob} (h : H p = some ho) (hB : w.B p = none) (hr : ∀ l : Nat, w.ρ[l]? ≠ some p) (ro : RelO c (w.more p) o ho) : Rel c (w.more p) (S ++ [o]) H := by
  have split : ∀ (l : Nat) (a : Addr), (w.ρ ++ [p])[l]? = some a → w.ρ[l]? = some a ∨ (l = w.ρ.length ∧ a = p) := fun l a e => by
    by_cases hl : l < w.ρ.length
    · rw [List.getElem?_append_left hl] at e; exact .inl e
    · rw [List.getElem?_append_right (by omega)] at e
      obtain ⟨h1, h2⟩ := List.getElem?_eq_some_iff.mp e
      have h3 : l = w.ρ.length := by simp at h1; omega
      subst h3
      simp at h2
      exact .inr ⟨rfl, h2.symm⟩
  refine ⟨R.ex, by simp [R.len], fun l a ob hl hs => ?_, fun i j a hi hj => ?_⟩
  · rcases split l a hl with e | ⟨e1, e2⟩
    · have hl' : l < S.length := by rw [← R.len]; exact (List.getElem?_eq_some_iff.mp e).1
      rw [List.getElem?_append_left hl'] at hs
      obtain ⟨n, hb, q1, q2⟩ := R.obj l a ob e hs
      exact ⟨n, hb, q1, q2.mono Wd.le_more⟩
    · subst e2
      rw [e1, R.len, List.getElem?_append_right (Nat.le_refl _)] at hs
      simp at hs
      subst hs
      exact ⟨hB, ho, h, ro⟩
  · rcases split i a hi with e | ⟨e1, e2⟩
    · rcases split j a hj with k | ⟨k1, k2⟩
      · exact R.nd i j a e k
      · exact absurd (by rw [← k2]; exact e) (hr i)
    · rcases split j a hj with k | ⟨k1, k2⟩
      · exact absurd (by rw [← e2]; exact k) (hr j)
      · rw [e1, k1]
end

/-! ### readings by the plain machine -/
section
variable (c : Cfg) (F : Fn)
def SemE (e : E) : TE := fun σ H Q => ∃ w S env d S', Rel c w S H ∧ RelEnv c w env σ ∧ ev F e env S = .ok d S' ∧ ∀ w' H' v, Go w H w' H' → Rel c w' S' H' → RelD c w' d v → Q v H'
def SemT (e : E) : TT := fun σ H Q => ∃ w S env b S', Rel c w S H ∧ RelEnv c w env σ ∧ ev F e env S = .ok (.bl b) S' ∧ ∀ w' H', Go w H w' H' → Rel c w' S' H' → Q b H'
def SemA (es : List E) : TA := fun σ H Q => ∃ w S env ds S', Rel c w S H ∧ RelEnv c w env σ ∧ evs F es env S = .ok ds S' ∧ ∀ w' H' vs, Go w H w' H' → Rel c w' S' H' → RelDs c w' ds vs → Q vs H'
/-- an operation on values -/
def Sem2 (f : Store → D → D → Option D) : R2 := fun x y H Q => ∃ w S d1 d2 d, Rel c w S H ∧ RelD c w d1 x ∧ RelD c w d2 y ∧ f S d1 d2 = some d ∧ ∀ w' H' v, Go w H w' H' → Rel c w' S H' → RelD c w' d v → Q v H'
def SemC (f : Store → List D → Option D) : List V → Hp → VK → Prop := fun vs H Q => ∃ w S ds d, Rel c w S H ∧ RelDs c w ds vs ∧ f S ds = some d ∧ ∀ w' H' v, Go w H w' H' → Rel c w' S H' → RelD c w' d v → Q v H'
def SemM (f : Store → D → List D → Res D) : V → List V → Hp → VK → Prop := fun x vs H Q => ∃ w S d0 ds d S', Rel c w S H ∧ RelD c w d0 x ∧ RelDs c w ds vs ∧ f S d0 ds = .ok d S' ∧ ∀ w' H' v, Go w H w' H' → Rel c w' S' H' → RelD c w' d v → Q v H'
def SemB (body : Env → Store → Out) : TS := fun Dn σ H => ∃ w S env, Rel c w S H ∧ RelEnv c w env σ ∧ match body env S with
  | .nx env' S' => ∀ w' σ' H', Go w H w' H' → Rel c w' S' H' → RelEnv c w' env' σ' → Dn.nx σ' H'
  | .rt d S' => ∀ w' H' v, Go w H w' H' → Rel c w' S' H' → RelD c w' d v → Dn.rt v H'
  | .bk env' S' => ∀ w' σ' H', Go w H w' H' → Rel c w' S' H' → RelEnv c w' env' σ' → Dn.bk σ' H'
  | .ct env' S' => ∀ w' σ' H', Go w H w' H' → Rel c w' S' H' → RelEnv c w' env' σ' → Dn.ct σ' H'
  | _ => False
end
section
variable {X : Cx}
theorem PE.imp {e : Expr} {t t' : TE} (h : PE X e t) (i : ∀ σ H Q, t' σ H Q → t σ H Q) : PE X e t' := ⟨fun pins s σ H Q I q => h.run pins s σ H Q I (i σ H Q q)⟩
theorem PT.imp {e : Expr} {t t' : TT} (h : PT X e t) (i : ∀ σ H Q, t' σ H Q → t σ H Q) : PT X e t' := ⟨fun pins s σ H Q I q => h.run pins s σ H Q I (i σ H Q q)⟩
theorem PW.imp {e : Expr} {t t' : TT} (h : PW X e t) (i : ∀ σ H Q, t' σ H Q → t σ H Q) : PW X e t' := ⟨fun wh pins s σ H Q I q => h.run wh pins s σ H Q I (i σ H Q q)⟩
theorem PA.imp {e : List Expr} {t t' : TA} (h : PA X e t) (i : ∀ σ H Q, t' σ H Q → t σ H Q) : PA X e t' := ⟨fun pos pins s σ H Q I q => h.run pos pins s σ H Q I (i σ H Q q)⟩
theorem PK.imp {e : List Keyword} {t t' : TA} (h : PK X e t) (i : ∀ σ H Q, t' σ H Q → t σ H Q) : PK X e t' := ⟨fun pos pins s σ H Q I q => h.run pos pins s σ H Q I (i σ H Q q)⟩
theorem PS.imp {e : Stmt} {t t' : TS} (h : PS X e t) (i : ∀ D σ H, t' D σ H → t D σ H) : PS X e t' := ⟨fun pins s σ H D I q => h.run pins s σ H D I (i D σ H q)⟩
theorem PSs.imp {e : List Stmt} {t t' : TS} (h : PSs X e t) (i : ∀ D σ H, t' D σ H → t D σ H) : PSs X e t' := ⟨fun pins s σ H D I q => h.run pins s σ H D I (i D σ H q)⟩
theorem OpR.imp {f : Value → Value → Sem Value} {r r' : R2} (h : OpR X f r) (i : ∀ x y H Q, r' x y H Q → r x y H Q) : OpR X f r' := fun pins s σ H x y v u Q I rx ry q => h pins s σ H x y v u Q I rx ry (i x y H Q q)
theorem CallR.imp {f : Value} {r r' : List V → Hp → VK → Prop} (h : CallR X f r) (i : ∀ x H Q, r' x H Q → r x H Q) : CallR X f r' := fun pins s σ H xs us Q I rx q => h pins s σ H xs us Q I rx (i xs H Q q)
theorem MtR.imp {id : String} {r r' : V → List V → Hp → VK → Prop} (h : MtR X id r) (i : ∀ x xs H Q, r' x xs H Q → r x xs H Q) : MtR X id r' := fun pins s σ H x xs v us Q I rx rv q => h pins s σ H x xs v us Q I rx rv (i x xs H Q q)
theorem IxR.imp {r r' : R2} (h : IxR X r) (i : ∀ x y H Q, r' x y H Q → r x y H Q) : IxR X r' := fun v sl pins s σ H x y a b Q I rx ry q => h v sl pins s σ H x y a b Q I rx ry (i x y H Q q)
theorem SlR.imp {r r' : V → Option Int → Option Int → Hp → VK → Prop} (h : SlR X r) (i : ∀ x l u H Q, r' x l u H Q → r x l u H Q) : SlR X r' := fun pins s σ H x v vl vu lo hi sl Q I r hs pl pu q => h pins s σ H x v vl vu lo hi sl Q I r hs pl pu (i x lo hi H Q q)
end
end MP

/-! MP2: operators, built-ins, methods: the heap's rules give what the plain machine says. -/
namespace MP
open PySem L2

theorem lim_le {n : Nat} (h : n ≤ LIM) : n ≤ sizeLine := Nat.le_trans h (by decide)
theorem lim_lt {n : Nat} (h : n < LIM) : n < sizeLine := Nat.lt_of_lt_of_le h (by decide)
/-- a value read in the heap as it stands -/
def Vw (c : Cfg) (w : Wd) (H : Hp) : D → V → Prop
  | .tup xs, v => ∃ a ys, v = .ref a ∧ SqT c.K H a ys ∧ RelDs c w xs ys
  | .lst xs, v => ∃ a ys, v = .ref a ∧ H a = some (.lst ys) ∧ RelDs c w xs ys
  | .scr ns, v => ∃ a, v = .ref a ∧ SqL c.K H a (ns.map V.int)
  | .dct ks vs, v => ∃ a ys, v = .ref a ∧ H a = some (.dK ys) ∧ ys.map (·.1) = ks ∧ RelDs c w vs (ys.map (·.2))
  | .emp, v => ∃ a, v = .ref a ∧ H a = some (.dK [])
  | d, v => RelD c w d v
section
variable {c : Cfg} {w : Wd} {S : Store} {H : Hp}
theorem Rel.view0 (R : Rel c w S H) {d : D} {v : V} (r : RelD c w d v) : Vw c w H d v := by
  cases d <;> simp only [RelD, Vw] at r ⊢ <;> try exact r
  · obtain ⟨a, ys, e1, e2, e3⟩ := r; exact ⟨a, ys, e1, sqT_mono R.ex e2, e3⟩
  · obtain ⟨a, ys, e1, e2, e3⟩ := r; exact ⟨a, ys, e1, R.ex _ _ e2, e3⟩
  · obtain ⟨a, e1, e2⟩ := r; exact ⟨a, e1, sqL_mono R.ex e2⟩
  · obtain ⟨a, ys, e1, e2, e3, e4⟩ := r; exact ⟨a, ys, e1, R.ex _ _ e2, e3, e4⟩
  · obtain ⟨a, e1, e2⟩ := r; exact ⟨a, e1, R.ex _ _ e2⟩
theorem paired_dk {kvs : List (Key × D)} {ys : List (Key × V)} (h : Paired (fun (p : Key × D) (q : Key × V) => p.1 = q.1 ∧ RelD c w p.2 q.2) kvs ys) : ys.map (·.1) = kvs.map (·.1) ∧ RelDs c w (kvs.map (·.2)) (ys.map (·.2)) := by
  induction h with
  | nil => exact ⟨rfl, .nil⟩
  | cons h t ih => exact ⟨by rw [List.map_cons, List.map_cons, ih.1, h.1], .cons h.2 ih.2⟩
theorem Rel.view (R : Rel c w S H) {d : D} {v : V} (r : RelD c w d v) : Vw c w H (deref S d) v := by
  by_cases h0 : ∃ l kvs, d = .ref l ∧ S[l]? = some (.dK kvs)
  · obtain ⟨l, kvs, rfl, e⟩ := h0
    simp only [RelD] at r
    obtain ⟨a, h1, rfl⟩ := r
    obtain ⟨_, ho, e1, ys, rfl, q⟩ := R.obj l a _ h1 e
    simp only [deref, e, Vw]
    exact ⟨a, ys, rfl, e1, (paired_dk q).1, (paired_dk q).2⟩
  by_cases h : ∃ l xs, d = .ref l ∧ S[l]? = some (.lst xs)
  · obtain ⟨l, xs, rfl, e⟩ := h
    simp only [RelD] at r
    obtain ⟨a, h1, rfl⟩ := r
    obtain ⟨ys, q1, q2⟩ := R.lst h1 e
    simp only [deref, e, Vw]
    exact ⟨a, ys, rfl, q1, q2⟩
  · have e : deref S d = d := by
      cases d <;> try rfl
      rename_i l
      simp only [deref]
      split
      · rename_i xs e; exact absurd ⟨l, xs, rfl, e⟩ h
      · rename_i xs e; exact absurd ⟨l, xs, rfl, e⟩ h0
      · rfl
    rw [e]
    exact R.view0 r
theorem deref_inv {S : Store} {d e : D} (h : deref S d = e) (n : ∀ xs, e ≠ .lst xs) (n2 : ∀ ks vs, e ≠ .dct ks vs := by intro _ _ h; cases h) : d = e := by
  cases d <;> try exact h
  rename_i l
  simp only [deref] at h
  split at h
  · exact absurd h.symm (n _)
  · exact absurd h.symm (n2 _ _)
  · exact h
theorem lookK_rel {k : Key} : ∀ {ys : List (Key × V)} {vs : List D}, RelDs c w vs (ys.map (·.2)) → match lookK k (ys.map (·.1)) vs with
    | none => valV ys k = none
    | some d => ∃ v, valV ys k = some v ∧ RelD c w d v
  | [], vs, h => by
    cases vs with
    | nil => exact rfl
    | cons d ds => obtain ⟨v, r, e, _⟩ := h.cons_inv; cases e
  | (q, y) :: ys, vs, h => by
    cases vs with
    | nil => have := h.nil_inv; cases this
    | cons d ds =>
      obtain ⟨v, r, e, h1, h2⟩ := h.cons_inv
      cases e
      show match (if q = k then some d else lookK k (ys.map (·.1)) ds) with
        | none => valV ((q, y) :: ys) k = none
        | some d => ∃ v, valV ((q, y) :: ys) k = some v ∧ RelD c w d v
      by_cases e : q = k
      · rw [if_pos e]
        exact ⟨y, valV_pos e, h1⟩
      · rw [if_neg e, valV_neg e]
        exact lookK_rel h2
theorem dget_of {e : D} {ks : List Key} {vs : List D} {x y : V} {k : Key} (vx : Vw c w H e x) (vy : Vw c w H (.dct ks vs) y) (hk : keyD e = some k) : ∃ a o, y = .ref a ∧ DGet H a x o ∧ match lookK k ks vs with
    | none => o = none
    | some d => ∃ v, o = some v ∧ RelD c w d v := by
  simp only [Vw] at vy
  obtain ⟨a, ys, rfl, h1, rfl, h2⟩ := vy
  have hx : x = kV k := by
    cases e <;> simp only [keyD] at hk <;> cases hk <;> (simp only [Vw, RelD] at vx; exact vx)
  subst hx
  exact ⟨a, valV ys k, rfl, DGet.k h1, lookK_rel h2⟩
theorem op_in_dict {X : Cx} (hu : X.A.units + 1 < cLine) : OpR X (compareOp .In) (fun x y H Q => ∃ a o, y = .ref a ∧ DGet H a x o ∧ Q (.bl o.isSome) H) := by
  intro pins s σ H x y v u Q I rx ry ⟨a, o, e, g, q⟩
  subst e
  obtain rfl : u = Value.ref a := ry
  exact d_in hu I g rx fun s3 I3 => ⟨.bl o.isSome, H, I3, rfl, q⟩
theorem op_notin_dict {X : Cx} (hu : X.A.units + 1 < cLine) : OpR X (compareOp .NotIn) (fun x y H Q => ∃ a o, y = .ref a ∧ DGet H a x o ∧ Q (.bl (!o.isSome)) H) := by
  intro pins s σ H x y v u Q I rx ry ⟨a, o, e, g, q⟩
  subst e
  obtain rfl : u = Value.ref a := ry
  exact d_notIn hu I g rx fun s3 I3 => ⟨.bl (!o.isSome), H, I3, rfl, q⟩
theorem Rel.newTup (R : Rel c w S H) {xs : List D} {ys : List V} {p : Addr} (rs : RelDs c w xs ys) (hp : H p = none) :
    Go w H (w.add p (.tup ys)) (upd H p (.tup ys)) ∧ Rel c (w.add p (.tup ys)) S (upd H p (.tup ys)) ∧ RelD c (w.add p (.tup ys)) (.tup xs) (.ref p) := by
  have le := Wd.le_add (o := .tup ys) (R.freeB hp)
  refine ⟨Go.add (R.freeB hp) hp (R.notR hp), R.add hp _, ?_⟩
  simp only [RelD]
  exact ⟨p, ys, rfl, .inl (.inl (show upd w.B p (.tup ys) p = some (.tup ys) from upd_same)), rs.mono le⟩
theorem Rel.newLst (R : Rel c w S H) {xs : List D} {ys : List V} {p : Addr} (rs : RelDs c w xs ys) (hp : H p = none) :
    Go w H (w.add p (.lst ys)) (upd H p (.lst ys)) ∧ Rel c (w.add p (.lst ys)) S (upd H p (.lst ys)) ∧ RelD c (w.add p (.lst ys)) (.lst xs) (.ref p) := by
  have le := Wd.le_add (o := .lst ys) (R.freeB hp)
  refine ⟨Go.add (R.freeB hp) hp (R.notR hp), R.add hp _, ?_⟩
  simp only [RelD]
  exact ⟨p, ys, rfl, (show upd w.B p (.lst ys) p = some (.lst ys) from upd_same), rs.mono le⟩
mutual
theorem dp_of {H : Hp} (ex : ∀ a o, w.B a = some o → H a = some o) : ∀ (d : D) (v : V) (p : PyData), RelD c w d v → toPy d = some p → Dp c.K H v p
  | .non, v, p, r, e => by simp only [RelD, toPy] at r e; cases e; subst r; exact .non
  | .bl b, v, p, r, e => by simp only [RelD, toPy] at r e; cases e; subst r; exact .bl b
  | .int b, v, p, r, e => by simp only [RelD, toPy] at r e; cases e; subst r; exact .int b
  | .str b, v, p, r, e => by simp only [RelD, toPy] at r e; cases e; subst r; exact .str b
  | .tup xs, v, p, r, e => by
    simp only [RelD, toPy] at r e
    obtain ⟨a, ys, rfl, h1, h2⟩ := r
    cases q : toPys xs with
    | none => rw [q] at e; cases e
    | some ps => rw [q] at e; cases e; exact .tup (sqT_mono ex h1) (dps_of ex xs ys ps h2 q)
  | .lst xs, v, p, r, e => by
    simp only [RelD, toPy] at r e
    obtain ⟨a, ys, rfl, h1, h2⟩ := r
    cases q : toPys xs with
    | none => rw [q] at e; cases e
    | some ps => rw [q] at e; cases e; exact .lst (SqL.of (ex _ _ h1)) (dps_of ex xs ys ps h2 q)
  | .scr _, _, _, _, e => by simp only [toPy] at e; cases e
  | .ref _, _, _, _, e => by simp only [toPy] at e; cases e
  | .fn _, _, _, _, e => by simp only [toPy] at e; cases e
  | .ty _, _, _, _, e => by simp only [toPy] at e; cases e
  | .emp, _, _, _, e => by simp only [toPy] at e; cases e
  | .dct _ _, _, _, _, e => by simp only [toPy] at e; cases e
theorem dps_of {H : Hp} (ex : ∀ a o, w.B a = some o → H a = some o) : ∀ (ds : List D) (vs : List V) (ps : List PyData), RelDs c w ds vs → toPys ds = some ps → DpAll c.K H vs ps
  | [], vs, ps, r, e => by simp only [toPys] at e; cases e; rw [r.nil_inv]; exact .nil
  | d :: ds, vs, ps, r, e => by
    obtain ⟨v, r', rfl, h1, h2⟩ := r.cons_inv
    simp only [toPys] at e
    cases q : toPy d with
    | none => rw [q] at e; cases e
    | some p =>
      cases q2 : toPys ds with
      | none => rw [q, q2] at e; cases e
      | some ps' =>
        rw [q, q2] at e; cases e
        exact .cons (dp_of ex d v p h1 q) (dps_of ex ds r' ps' h2 q2)
end
theorem Rel.dp (R : Rel c w S H) {d : D} {v : V} {p : PyData} (r : Vw c w H d v) (e : toPy d = some p) : Dp c.K H v p := by
  cases d <;> simp only [Vw, RelD, toPy] at r e <;> try cases e
  · subst r; exact .non
  · subst r; exact .bl _
  · subst r; exact .int _
  · subst r; exact .str _
  · obtain ⟨a, ys, rfl, h1, h2⟩ := r
    rename_i xs
    cases q : toPys xs with
    | none => rw [q] at e; cases e
    | some ps => rw [q] at e; cases e; exact .tup h1 (dps_of R.ex xs ys ps h2 q)
  · obtain ⟨a, ys, rfl, h1, h2⟩ := r
    rename_i xs
    cases q : toPys xs with
    | none => rw [q] at e; cases e
    | some ps => rw [q] at e; cases e; exact .lst (SqL.of h1) (dps_of R.ex xs ys ps h2 q)
theorem flat_of {d : D} {v : V} (r : RelD c w d v) (f : flat d = true) : flatV v = true := by
  cases d <;> simp only [flat, RelD] at r f <;> first | (subst r; rfl) | (cases f; done)
theorem flats_of : ∀ {ds : List D} {vs : List V}, RelDs c w ds vs → ds.all flat = true → vs.all flatV = true
  | [], vs, r, _ => by rw [r.nil_inv]; rfl
  | d :: ds, vs, r, f => by
    obtain ⟨v, r', rfl, h1, h2⟩ := r.cons_inv
    rw [List.all_cons, Bool.and_eq_true] at f
    rw [List.all_cons, flat_of h1 f.1, flats_of h2 f.2]
    rfl
theorem eqF_of {d e : D} {v u : V} (r : RelD c w d v) (q : RelD c w e u) (f : flat d = true) (g : flat e = true) : eqV v u = eqF d e := by
  cases d <;> simp only [flat, RelD] at r f <;> first | (cases f; done) | skip
  all_goals cases e <;> simp only [flat, RelD] at q g <;> first | (cases g; done) | skip
  all_goals (subst r; subst q; rfl)
theorem inF_of {d : D} {v : V} (r : RelD c w d v) (f : flat d = true) : ∀ {ds : List D} {vs : List V}, RelDs c w ds vs → ds.all flat = true → inV v vs = inF d ds
  | [], vs, q, _ => by rw [q.nil_inv]; rfl
  | e :: ds, vs, q, g => by
    obtain ⟨u, r', rfl, h1, h2⟩ := q.cons_inv
    rw [List.all_cons, Bool.and_eq_true] at g
    have ih := inF_of r f h2 g.2
    unfold inV inF at ih ⊢
    rw [List.any_cons, List.any_cons, ih, eqF_of h1 r g.1 f]
end

/-! ### operators -/
def fBin (o : BOp) : Store → D → D → Option D := fun S x y => binD o (deref S x) (deref S y)
def fCmp (o : COp) : Store → D → D → Option D := fun S x y => (cmpD o (deref S x) (deref S y)).map .bl
section
variable {X : Cx} {c : Cfg}
theorem op_add_bi : OpR X (binaryOp .Add) (fun x y H Q => ∃ i k, x = .bl i ∧ y = .int k ∧ Q (.int ((if i = true then 1 else 0) + k)) H) := by
  rintro pins s σ H x y v u Q I rx ry ⟨i, k, rfl, rfl, q⟩
  cases rx
  obtain ⟨t, rfl⟩ := ry
  exact PySem.IntBool.add_bool_int ⟨.int _, H, I.tok _, ⟨_, rfl⟩, q⟩
theorem op_add_bb : OpR X (binaryOp .Add) (fun x y H Q => ∃ i k, x = .bl i ∧ y = .bl k ∧ Q (.int ((if i = true then 1 else 0) + (if k = true then 1 else 0))) H) := by
  rintro pins s σ H x y v u Q I rx ry ⟨i, k, rfl, rfl, q⟩
  cases rx
  cases ry
  exact PyProof.Rows.add_bool ⟨.int _, H, I.tok _, ⟨_, rfl⟩, q⟩
theorem op_sub_bi : OpR X (binaryOp .Sub) (fun x y H Q => ∃ i k, x = .bl i ∧ y = .int k ∧ Q (.int ((if i = true then 1 else 0) - k)) H) := by
  rintro pins s σ H x y v u Q I rx ry ⟨i, k, rfl, rfl, q⟩
  cases rx
  obtain ⟨t, rfl⟩ := ry
  exact PySem.IntBool.sub_bool_int ⟨.int _, H, I.tok _, ⟨_, rfl⟩, q⟩
theorem op_sub_ib : OpR X (binaryOp .Sub) (fun x y H Q => ∃ i k, x = .int i ∧ y = .bl k ∧ Q (.int (i - (if k = true then 1 else 0))) H) := by
  rintro pins s σ H x y v u Q I rx ry ⟨i, k, rfl, rfl, q⟩
  obtain ⟨t, rfl⟩ := rx
  cases ry
  exact PySem.IntBool.sub_int_bool ⟨.int _, H, I.tok _, ⟨_, rfl⟩, q⟩
theorem op_addS (hK : X.K = c.K) : OpR X (binaryOp .Add) (Sem2 c (fBin .add)) :=
  OpR.imp ((op_add_bb.or op_add_bi).or (op_add.or (op_add_str.or (op_catA.or op_cat)))) fun x y H Q ⟨w, S, d1, d2, d, R, r1, r2, e, k⟩ => by
    have v1 := R.view r1
    have v2 := R.view r2
    unfold fBin at e
    generalize h1 : deref S d1 = e1 at *
    generalize h2 : deref S d2 = e2 at *
    cases e1 <;> cases e2 <;> simp only [binD] at e <;> first | (cases e; done) | skip
    · simp only [Vw, RelD] at v1 v2
      cases e; subst v1 v2
      exact .inl (.inl ⟨_, _, rfl, rfl, k w H _ Go.refl R (by simp only [RelD])⟩)
    · simp only [Vw, RelD] at v1 v2
      cases e; subst v1 v2
      exact .inl (.inr ⟨_, _, rfl, rfl, k w H _ Go.refl R (by simp only [RelD])⟩)
    · simp only [Vw, RelD] at v1 v2
      cases e; subst v1 v2
      exact .inr (.inl ⟨_, _, rfl, rfl, k w H _ Go.refl R (by simp only [RelD])⟩)
    · simp only [Vw, RelD] at v1 v2
      split at e
      · rename_i h
        cases e; subst v1 v2
        exact .inr (.inr (.inl ⟨_, _, rfl, rfl, lim_le h, k w H _ Go.refl R (by simp only [RelD])⟩))
      · cases e
    · simp only [Vw] at v1 v2
      split at e
      · cases e
        rename_i xs ys h
        have g1 := deref_inv h1 (fun _ z => nomatch z)
        have g2 := deref_inv h2 (fun _ z => nomatch z)
        subst g1 g2
        obtain ⟨a, vs, rfl, h1, q1⟩ := v1
        obtain ⟨b, us, rfl, h2, q2⟩ := v2
        have l1 := q1.length
        have l2 := q2.length
        refine .inr (.inr (.inr (.inl ⟨a, b, vs, us, rfl, rfl, by rw [hK]; exact h1, by rw [hK]; exact h2, by rw [← l1, ← l2]; exact lim_le h, fun hx => ?_, fun hx hy => ?_, fun hx hy p hp => ?_⟩)))
        · have : xs = [] := by rw [← List.length_eq_zero_iff, l1, hx]; rfl
          subst this
          exact k w H _ Go.refl R r2
        · have : ys = [] := by rw [← List.length_eq_zero_iff, l2, hy]; rfl
          subst this
          rw [List.append_nil] at k
          exact k w H _ Go.refl R r1
        · obtain ⟨z1, z2, z3⟩ := R.newTup (q1.append q2) hp
          exact k _ _ _ z1 z2 z3
      · cases e
    · simp only [Vw] at v1 v2
      split at e
      · cases e
        rename_i xs ys h
        obtain ⟨a, vs, rfl, h1, q1⟩ := v1
        obtain ⟨b, us, rfl, h2, q2⟩ := v2
        refine .inr (.inr (.inr (.inr ⟨a, b, vs, us, rfl, rfl, h1, h2, by rw [← q1.length, ← q2.length]; exact lim_le h, fun p hp => ?_⟩)))
        obtain ⟨z1, z2, z3⟩ := R.newLst (q1.append q2) hp
        exact k _ _ _ z1 z2 z3
      · cases e
/-- an operation on two ints -/
theorem op_ints {f : Value → Value → Sem Value} {o : BOp} {C : Int → Int → Prop} {g : Int → Int → Int} (h : OpR X f (rI C fun i j => .int (g i j)))
    (hb : ∀ a b d, binD o a b = some d → ∃ i j, a = .int i ∧ b = .int j ∧ C i j ∧ d = .int (g i j)) : OpR X f (Sem2 c (fBin o)) :=
  OpR.imp h fun x y H Q ⟨w, S, d1, d2, d, R, r1, r2, e, k⟩ => by
    have v1 := R.view r1
    have v2 := R.view r2
    obtain ⟨i, j, e1, e2, hc, rfl⟩ := hb _ _ _ e
    rw [e1] at v1
    rw [e2] at v2
    simp only [Vw, RelD] at v1 v2
    exact ⟨i, j, v1, v2, hc, k w H _ Go.refl R (by simp only [RelD])⟩
theorem op_subS : OpR X (binaryOp .Sub) (Sem2 c (fBin .sub)) :=
  OpR.imp (op_sub.or (op_sub_bi.or op_sub_ib)) fun x y H Q ⟨w, S, d1, d2, d, R, r1, r2, e, k⟩ => by
    have v1 := R.view r1
    have v2 := R.view r2
    unfold fBin at e
    generalize h1 : deref S d1 = e1 at *
    generalize h2 : deref S d2 = e2 at *
    cases e1 <;> cases e2 <;> simp only [binD] at e <;> first | (cases e; done) | skip
    · simp only [Vw, RelD] at v1 v2
      cases e; subst v1 v2
      exact .inr (.inl ⟨_, _, rfl, rfl, k w H _ Go.refl R (by simp only [RelD])⟩)
    · simp only [Vw, RelD] at v1 v2
      cases e; subst v1 v2
      exact .inr (.inr ⟨_, _, rfl, rfl, k w H _ Go.refl R (by simp only [RelD])⟩)
    · simp only [Vw, RelD] at v1 v2
      cases e; subst v1 v2
      exact .inl ⟨_, _, rfl, rfl, k w H _ Go.refl R (by simp only [RelD])⟩
theorem mulOk_of {i j : Int} (h : mulOk i j = true) : CMulW i j := by
  unfold mulOk at h
  rw [Bool.and_eq_true, decide_eq_true_iff, decide_eq_true_iff] at h
  exact wide_mul (a := 4096) (b := 4096) h.1 h.2 (by decide) (by decide) (by decide)
/-- a text times a number -/
theorem op_mul_sn : OpR X (binaryOp .Mult) (fun x y H Q => ∃ (z : Str) (n : Int), x = .str z ∧ y = .int n ∧ 2 ≤ n ∧ n ≤ 5000 ∧ 1 ≤ z.length ∧ z.length ≤ 100 ∧ Q (.str ⟨(List.replicate n.toNat z.cps).foldl (· ++ ·) #[]⟩) H) := by
  rintro pins s σ H x y v u Q I rx ry ⟨z, n, rfl, rfl, n0, n1, l0, l1, q⟩
  obtain ⟨t, rfl⟩ := rx
  obtain ⟨t2, rfl⟩ := ry
  have e1 : ¬ n < 1 := by omega
  have e2 : (n == 1 || z.length == 0) = false := by
    rw [beq_eq_false_iff_ne.mpr (by omega), beq_eq_false_iff_ne.mpr (by omega)]; rfl
  have flen : ∀ (k : Nat) (acc : Array Nat), ((List.replicate k z.cps).foldl (· ++ ·) acc).size = acc.size + k * z.length := by
    intro k
    induction k with
    | zero => intro acc; simp
    | succ k ih =>
      intro acc
      rw [List.replicate_succ, List.foldl_cons, ih, Array.size_append, Nat.succ_mul]
      show acc.size + z.length + k * z.length = _
      omega
  have hk : n.toNat ≤ 5000 := by omega
  have hm : n.toNat * z.length ≤ 5000 * 100 := Nat.mul_le_mul hk l1
  refine PySem.P.mul_str (by rw [decide_eq_false (by omega), decide_eq_false (by omega)]; rfl) (fun _ _ => ?_) (fun _ _ => ?_) ?_
  · have : (100 : Int) ≤ (2 ^ 63 - 1) / n := by
      refine Int.le_ediv_of_mul_le (by omega) ?_
      omega
    omega
  · rw [Nat.mul_comm]
    exact decide_eq_false (show ¬ (n.toNat * z.length > sizeLine) by rw [sizeLine_eq]; omega)
  · rw [if_neg e1, if_neg (by rw [e2]; decide)]
    refine ⟨?_, .str _, H, I.tok _, ⟨_, rfl⟩, q⟩
    show ((List.replicate n.toNat z.cps).foldl (· ++ ·) #[]).size ≤ sizeLine
    rw [flen, sizeLine_eq]
    show 0 + _ ≤ _
    omega
theorem rep_rel {w : Wd} {xs : List D} {ys : List V} (r : RelDs c w xs ys) : ∀ n : Nat, RelDs c w (List.replicate n xs).flatten (List.replicate n ys).flatten
  | 0 => .nil
  | n + 1 => by
    rw [List.replicate_succ, List.replicate_succ, List.flatten_cons, List.flatten_cons]
    exact r.append (rep_rel r n)
theorem op_mulS : OpR X (binaryOp .Mult) (Sem2 c (fBin .mul)) :=
  OpR.imp (op_mulW.or (op_mul_sn.or op_rep)) fun x y H Q ⟨w, S, d1, d2, d, R, r1, r2, e, k⟩ => by
    have v1 := R.view r1
    have v2 := R.view r2
    unfold fBin at e
    generalize h1 : deref S d1 = e1 at *
    generalize h2 : deref S d2 = e2 at *
    cases e1 <;> cases e2 <;> simp only [binD] at e <;> first | (cases e; done) | skip
    · simp only [Vw, RelD] at v1 v2
      split at e
      · rename_i h
        cases e; subst v1 v2
        exact .inl ⟨_, _, rfl, rfl, mulOk_of h, k w H _ Go.refl R (by simp only [RelD])⟩
      · cases e
    · simp only [Vw, RelD] at v1 v2
      split at e
      · rename_i h
        cases e; subst v1 v2
        exact .inr (.inl ⟨_, _, rfl, rfl, h.1, h.2.1, h.2.2.1, h.2.2.2, k w H _ Go.refl R (by simp only [RelD])⟩)
      · cases e
    · simp only [Vw, RelD] at v1 v2
      split at e
      · rename_i h
        cases e; subst v2
        obtain ⟨a, vs, rfl, h1, q1⟩ := v1
        have hl := q1.length
        refine .inr (.inr ⟨a, _, vs, rfl, rfl, h1, by omega, by omega, ?_, fun p hp => ?_⟩)
        · have h4 : ∀ m : Int, 0 ≤ m → m ≤ 1000 → vs.length * m.toNat ≤ sizeLine := fun m m0 m1 => Nat.le_trans (Nat.mul_le_mul (show vs.length ≤ 100 by omega) (show m.toNat ≤ 1000 by omega)) (by rw [sizeLine_eq]; decide)
          exact h4 _ h.1 h.2.1
        · obtain ⟨z1, z2, z3⟩ := R.newLst (rep_rel q1 _) hp
          exact k _ _ _ z1 z2 z3
      · cases e
theorem op_fdivS : OpR X (binaryOp .FloorDiv) (Sem2 c (fBin .fdiv)) := op_ints op_fdivW fun a b d e => by
  cases a <;> cases b <;> simp only [binD] at e <;> try cases e
  split at e
  · cases e
    rename_i h
    exact ⟨_, _, rfl, rfl, wide_div (b := 4096) h.1 h.2 (by decide) (by decide), rfl⟩
  · cases e
theorem op_modS : OpR X (binaryOp .Mod) (Sem2 c (fBin .mod)) := op_ints op_mod fun a b d e => by
  cases a <;> cases b <;> simp only [binD] at e <;> try cases e
  split at e
  · cases e
    rename_i h
    exact ⟨_, _, rfl, rfl, h, rfl⟩
  · cases e
theorem op_powS : OpR X (binaryOp .Pow) (Sem2 c (fBin .pow)) := op_ints op_pow fun a b d e => by
  cases a <;> cases b <;> simp only [binD] at e <;> try cases e
  split at e
  · cases e
    rename_i h
    exact ⟨_, _, rfl, rfl, ⟨h.1, by omega, h.2.2⟩, rfl⟩
  · cases e
def opOf : BOp → Operator
  | .add => .Add | .sub => .Sub | .mul => .Mult | .fdiv => .FloorDiv | .mod => .Mod | .pow => .Pow
theorem op_S (hK : X.K = c.K) : ∀ o : BOp, OpR X (binaryOp (opOf o)) (Sem2 c (fBin o))
  | .add => op_addS hK | .sub => op_subS | .mul => op_mulS | .fdiv => op_fdivS | .mod => op_modS | .pow => op_powS

/-! ### comparisons -/
theorem eqG_inv {a b : D} {k : Bool} (h : eqG a b = some k) : ∃ p q, toPy a = some p ∧ toPy b = some q ∧ SeqAt.shaped p = true ∧ SeqAt.shaped q = true ∧ k = PyData.eqv p q := by
  unfold eqG at h
  cases e : toPy a with
  | none => rw [e] at h; cases h
  | some p =>
    cases e2 : toPy b with
    | none => rw [e, e2] at h; cases h
    | some q =>
      rw [e, e2] at h
      simp only [Option.bind_some] at h
      split at h
      · rename_i hh
        rw [Bool.and_eq_true] at hh
        cases h
        exact ⟨p, q, rfl, rfl, hh.1, hh.2, rfl⟩
      · cases h
theorem fCmp_inv {o : COp} {S : Store} {a b d : D} (h : fCmp o S a b = some d) : ∃ k, cmpD o (deref S a) (deref S b) = some k ∧ d = .bl k := by
  unfold fCmp at h
  cases e : cmpD o (deref S a) (deref S b) with
  | none => rw [e] at h; cases h
  | some k => rw [e] at h; cases h; exact ⟨k, rfl, rfl⟩
/-- a tuple beside the empty one -/
def rEqT0 (K : PySem.W.Frag) (b : Bool) : R2 := fun x y H Q => ∃ p q xs, x = .ref p ∧ y = .ref q ∧ SqT K H p xs ∧ SqT K H q [] ∧ Q (.bl (xs.isEmpty == b)) H
theorem min_0 (n : Nat) : min n (#[] : Array Value).size = 0 := Nat.min_zero n
theorem tup0_eq {xs : List V} {its : List Value} (h : xs.length = its.length) : (its.toArray.size == (#[] : Array Value).size) = xs.isEmpty := by
  rw [List.size_toArray, ← h]
  cases xs <;> rfl
theorem op_eqT0 (hu : X.A.units < cLine) : OpR X (compareOp .Eq) (rEqT0 X.K true) := by
  rintro pins s σ H x y v u Q I rx ry ⟨p, q, xs, rfl, rfl, h1, h2, hq⟩
  cases rx
  cases ry
  obtain ⟨its, rv, t1, _⟩ := I.tuple h1
  obtain ⟨its2, rv2, t2, _⟩ := I.tuple h2
  cases rv2
  refine SeqAt.eq_tupleAt (e := fun _ => true) t1 t2 hu (fun j _ z => by simp at z) ⟨.bl _, H, I, rfl, ?_⟩
  have e1 : ((List.range (min its.toArray.size (#[] : Array Value).size)).all fun _ => true) = true := by rw [min_0]; rfl
  rw [e1, Bool.true_and]
  have e2 := tup0_eq rv.length
  rw [show (its.toArray.size == ([] : List Value).toArray.size) = xs.isEmpty from e2]
  rw [show (xs.isEmpty == true) = xs.isEmpty by cases xs.isEmpty <;> rfl] at hq
  exact hq
theorem op_neT0 (hu : X.A.units < cLine) : OpR X (compareOp .NotEq) (rEqT0 X.K false) := by
  rintro pins s σ H x y v u Q I rx ry ⟨p, q, xs, rfl, rfl, h1, h2, hq⟩
  cases rx
  cases ry
  obtain ⟨its, rv, t1, _⟩ := I.tuple h1
  obtain ⟨its2, rv2, t2, _⟩ := I.tuple h2
  cases rv2
  refine SeqAt.RcNeAt.tuples (e := fun _ => true) t1 t2 hu (fun j _ z => by simp at z) X.prog X.w X.xe _ ⟨.bl _, H, I, rfl, ?_⟩
  have e1 : ((List.range (min its.toArray.size (#[] : Array Value).size)).all fun _ => true) = true := by rw [min_0]; rfl
  have e2 := tup0_eq rv.length
  rw [e1, Bool.true_and, show (its.toArray.size == ([] : List Value).toArray.size) = xs.isEmpty from e2]
  rw [show (xs.isEmpty == false) = !xs.isEmpty by cases xs.isEmpty <;> rfl] at hq
  exact hq
/-- a list beside the empty one -/
def rEqL0 (K : PySem.W.Frag) (b : Bool) : R2 := fun x y H Q => ∃ p q xs, x = .ref p ∧ y = .ref q ∧ SqL K H p xs ∧ SqL K H q [] ∧ Q (.bl (xs.isEmpty == b)) H
theorem op_eqL0 (hu : X.A.units < cLine) : OpR X (compareOp .Eq) (rEqL0 X.K true) := by
  rintro pins s σ H x y v u Q I rx ry ⟨p, q, xs, rfl, rfl, h1, h2, hq⟩
  cases rx
  cases ry
  obtain ⟨its, rv, t1, _⟩ := I.list h1
  obtain ⟨its2, rv2, t2, _⟩ := I.list h2
  cases rv2
  have ln := rv.length
  cases xs with
  | nil =>
    cases its with
    | nil => exact SeqAt.eq_listAt (e := fun _ => true) t1.isList t2.isList rfl hu (fun j _ z => by simp at z) ⟨.bl _, H, I, rfl, hq⟩
    | cons _ _ => cases ln
  | cons z zs =>
    cases its with
    | nil => cases ln
    | cons _ _ => exact SeqAt.eq_list_lengthsAt t1.isList t2.isList rfl hu ⟨.bl _, H, I, rfl, hq⟩
theorem op_neL0 (hu : X.A.units < cLine) : OpR X (compareOp .NotEq) (rEqL0 X.K false) := by
  rintro pins s σ H x y v u Q I rx ry ⟨p, q, xs, rfl, rfl, h1, h2, hq⟩
  cases rx
  cases ry
  obtain ⟨its, rv, t1, _⟩ := I.list h1
  obtain ⟨its2, rv2, t2, _⟩ := I.list h2
  cases rv2
  have ln := rv.length
  cases xs with
  | nil =>
    cases its with
    | nil => exact SeqAt.RcNeAt.lists (e := fun _ => true) t1.isList t2.isList rfl hu (fun j _ z => by simp at z) X.prog X.w X.xe _ ⟨.bl _, H, I, rfl, hq⟩
    | cons _ _ => cases ln
  | cons z zs =>
    cases its with
    | nil => cases ln
    | cons _ _ => exact SeqAt.RcNeAt.lists_lengths t1.isList t2.isList rfl hu X.prog X.w X.xe _ ⟨.bl _, H, I, rfl, hq⟩
/-- what eqD says, by ways -/
theorem eqD_inv {w : Wd} {S : Store} {H : Hp} {d1 d2 : D} {x y : V} {k : Bool} (R : Rel c w S H) (r1 : RelD c w d1 x) (r2 : RelD c w d2 y) (e : eqD (deref S d1) (deref S d2) = some k) :
    (∃ p q, Dp c.K H x p ∧ Dp c.K H y q ∧ SeqAt.shaped p = true ∧ SeqAt.shaped q = true ∧ k = PyData.eqv p q) ∨ (∃ a b, x = .str a ∧ y = .str b ∧ k = (a == b)) ∨
      (∃ p q xs, x = .ref p ∧ y = .ref q ∧ SqT c.K H p xs ∧ SqT c.K H q [] ∧ k = xs.isEmpty) ∨ ∃ p q xs, x = .ref p ∧ y = .ref q ∧ SqL c.K H p xs ∧ SqL c.K H q [] ∧ k = xs.isEmpty := by
  have v1 := R.view r1
  have v2 := R.view r2
  generalize deref S d1 = e1 at *
  generalize deref S d2 = e2 at *
  have gen : eqG e1 e2 = some k → (∃ p q, Dp c.K H x p ∧ Dp c.K H y q ∧ SeqAt.shaped p = true ∧ SeqAt.shaped q = true ∧ k = PyData.eqv p q) := fun e => by
    obtain ⟨p, q, h1, h2, h3, h4, rfl⟩ := eqG_inv e
    exact ⟨p, q, R.dp v1 h1, R.dp v2 h2, h3, h4, rfl⟩
  unfold eqD at e
  split at e
  · simp only [Vw, RelD] at v1 v2
    cases e
    exact .inr (.inl ⟨_, _, v1, v2, rfl⟩)
  · obtain ⟨a, ys, rfl, h1, q1⟩ := v1
    obtain ⟨b, zs, rfl, h2, q2⟩ := v2
    rw [q2.nil_inv] at h2
    cases e
    refine .inr (.inr (.inl ⟨a, b, ys, rfl, rfl, h1, h2, ?_⟩))
    have l := q1.length
    rename_i xs
    cases xs <;> cases ys <;> first | rfl | (simp at l; done)
  · obtain ⟨a, ys, rfl, h1, q1⟩ := v1
    obtain ⟨b, zs, rfl, h2, q2⟩ := v2
    rw [q2.nil_inv] at h2
    cases e
    refine .inr (.inr (.inr ⟨a, b, ys, rfl, rfl, SqL.of h1, SqL.of h2, ?_⟩))
    have l := q1.length
    rename_i xs
    cases xs <;> cases ys <;> first | rfl | (simp at l; done)
  · exact .inl (gen e)
theorem beq_dec {a b : Str} : decide (V.str a = V.str b) = (a == b) := by
  by_cases h : a = b
  · subst h; simp
  · rw [decide_eq_false (fun z => h (V.str.inj z)), beq_eq_false_iff_ne.mpr h]
theorem op_eqS (hK : X.K = c.K) (hu : X.A.units + 64 < cLine) : OpR X (compareOp .Eq) (Sem2 c (fCmp .eq)) :=
  OpR.imp ((op_eqD hu).or (op_eq.or ((op_eqT0 (by omega)).or (op_eqL0 (by omega))))) fun x y H Q ⟨w, S, d1, d2, d, R, r1, r2, e, k⟩ => by
    obtain ⟨b, f, rfl⟩ := fCmp_inv e
    clear e
    have e := f
    clear f
    have k' := k w H (.bl b) Go.refl R (by simp only [RelD])
    rcases eqD_inv R r1 r2 e with ⟨p, q, h1, h2, h3, h4, rfl⟩ | ⟨p, q, rfl, rfl, rfl⟩ | ⟨p, q, xs, rfl, rfl, h1, h2, rfl⟩ | ⟨p, q, xs, rfl, rfl, h1, h2, rfl⟩
    · exact .inl ⟨p, q, by rw [hK]; exact h1, by rw [hK]; exact h2, h3, h4, k'⟩
    · exact .inr (.inl ⟨rfl, by rw [beq_dec]; exact k'⟩)
    · exact .inr (.inr (.inl ⟨p, q, xs, rfl, rfl, by rw [hK]; exact h1, by rw [hK]; exact h2, by rw [show (xs.isEmpty == true) = xs.isEmpty by cases xs.isEmpty <;> rfl]; exact k'⟩))
    · exact .inr (.inr (.inr ⟨p, q, xs, rfl, rfl, by rw [hK]; exact h1, by rw [hK]; exact h2, by rw [show (xs.isEmpty == true) = xs.isEmpty by cases xs.isEmpty <;> rfl]; exact k'⟩))
theorem op_neS (hK : X.K = c.K) (hu : X.A.units + 64 < cLine) : OpR X (compareOp .NotEq) (Sem2 c (fCmp .ne)) :=
  OpR.imp ((op_neD hu).or (op_ne.or ((op_neT0 (by omega)).or (op_neL0 (by omega))))) fun x y H Q ⟨w, S, d1, d2, d, R, r1, r2, e, k⟩ => by
    obtain ⟨b, f, rfl⟩ := fCmp_inv e
    clear e
    have e := f
    clear f
    simp only [cmpD, Option.map_eq_some_iff] at e
    obtain ⟨b', e, rfl⟩ := e
    have k' := k w H (.bl (!b')) Go.refl R (by simp only [RelD])
    rcases eqD_inv R r1 r2 e with ⟨p, q, h1, h2, h3, h4, rfl⟩ | ⟨p, q, rfl, rfl, rfl⟩ | ⟨p, q, xs, rfl, rfl, h1, h2, rfl⟩ | ⟨p, q, xs, rfl, rfl, h1, h2, rfl⟩
    · exact .inl ⟨p, q, by rw [hK]; exact h1, by rw [hK]; exact h2, h3, h4, k'⟩
    · exact .inr (.inl ⟨rfl, by rw [beq_dec]; exact k'⟩)
    · exact .inr (.inr (.inl ⟨p, q, xs, rfl, rfl, by rw [hK]; exact h1, by rw [hK]; exact h2, by rw [show (xs.isEmpty == false) = !xs.isEmpty by cases xs.isEmpty <;> rfl]; exact k'⟩))
    · exact .inr (.inr (.inr ⟨p, q, xs, rfl, rfl, by rw [hK]; exact h1, by rw [hK]; exact h2, by rw [show (xs.isEmpty == false) = !xs.isEmpty by cases xs.isEmpty <;> rfl]; exact k'⟩))
theorem op_ltS : OpR X (compareOp .Lt) (Sem2 c (fCmp .lt)) :=
  OpR.imp (op_lt.or op_lt_str) fun x y H Q ⟨w, S, d1, d2, d, R, r1, r2, e, k⟩ => by
    obtain ⟨b, f, rfl⟩ := fCmp_inv e
    clear e
    have e := f
    clear f
    have v1 := R.view r1
    have v2 := R.view r2
    generalize deref S d1 = e1 at *
    generalize deref S d2 = e2 at *
    cases e1 <;> cases e2 <;> simp only [cmpD] at e <;> try cases e
    all_goals simp only [Vw, RelD] at v1 v2
    · exact .inl ⟨_, _, v1, v2, k w H _ Go.refl R (by simp only [RelD])⟩
    · exact .inr ⟨_, _, v1, v2, k w H _ Go.refl R (by simp only [RelD])⟩
theorem op_leS : OpR X (compareOp .LtE) (Sem2 c (fCmp .le)) :=
  OpR.imp (op_le.or op_le_str) fun x y H Q ⟨w, S, d1, d2, d, R, r1, r2, e, k⟩ => by
    obtain ⟨b, f, rfl⟩ := fCmp_inv e
    clear e
    have e := f
    clear f
    have v1 := R.view r1
    have v2 := R.view r2
    generalize deref S d1 = e1 at *
    generalize deref S d2 = e2 at *
    cases e1 <;> cases e2 <;> simp only [cmpD] at e <;> try cases e
    all_goals simp only [Vw, RelD] at v1 v2
    · exact .inl ⟨_, _, v1, v2, k w H _ Go.refl R (by simp only [RelD])⟩
    · exact .inr ⟨_, _, v1, v2, k w H _ Go.refl R (by simp only [RelD])⟩
theorem op_gtS : OpR X (compareOp .Gt) (Sem2 c (fCmp .gt)) :=
  OpR.imp op_gt fun x y H Q ⟨w, S, d1, d2, d, R, r1, r2, e, k⟩ => by
    obtain ⟨b, f, rfl⟩ := fCmp_inv e
    clear e
    have e := f
    clear f
    have v1 := R.view r1
    have v2 := R.view r2
    generalize deref S d1 = e1 at *
    generalize deref S d2 = e2 at *
    cases e1 <;> cases e2 <;> simp only [cmpD] at e <;> try cases e
    all_goals simp only [Vw, RelD] at v1 v2
    exact ⟨_, _, v1, v2, k w H _ Go.refl R (by simp only [RelD])⟩
theorem op_geS : OpR X (compareOp .GtE) (Sem2 c (fCmp .ge)) :=
  OpR.imp op_ge fun x y H Q ⟨w, S, d1, d2, d, R, r1, r2, e, k⟩ => by
    obtain ⟨b, f, rfl⟩ := fCmp_inv e
    clear e
    have e := f
    clear f
    have v1 := R.view r1
    have v2 := R.view r2
    generalize deref S d1 = e1 at *
    generalize deref S d2 = e2 at *
    cases e1 <;> cases e2 <;> simp only [cmpD] at e <;> try cases e
    all_goals simp only [Vw, RelD] at v1 v2
    exact ⟨_, _, v1, v2, k w H _ Go.refl R (by simp only [RelD])⟩
/-- what inD says, by ways -/
theorem inD_inv {w : Wd} {S : Store} {H : Hp} {d1 d2 : D} {x y : V} {k : Bool} (R : Rel c w S H) (r1 : RelD c w d1 x) (r2 : RelD c w d2 y) (e : inD (deref S d1) (deref S d2) = some k) :
    (∃ p xs, y = .ref p ∧ (SqL c.K H p xs ∨ SqT c.K H p xs) ∧ flatV x = true ∧ xs.all flatV = true ∧ k = inV x xs) ∨
    (∃ d ds, Dp c.K H x d ∧ (Dp c.K H y (.list ds) ∨ Dp c.K H y (.tuple ds)) ∧ SeqAt.shaped d = true ∧ SeqAt.shaped (.list ds) = true ∧ k = ds.any fun z => PyData.eqv z d) ∨
    (∃ (cc : Nat) (z : Str), x = .str ⟨#[cc]⟩ ∧ y = .str z ∧ k = decide (cc ∈ z.cps.toList)) ∨ ∃ a o, y = .ref a ∧ DGet H a x o ∧ k = o.isSome := by
  have v1 := R.view r1
  have v2 := R.view r2
  generalize g1 : deref S d1 = e1 at *
  generalize g2 : deref S d2 = e2 at *
  have key : ∀ (a : Addr) (xs : List D) (ys : List V), RelDs c w xs ys → (SqL c.K H a ys ∨ SqT c.K H a ys) → y = .ref a → (flat e1 && xs.all flat) = true → k = inF e1 xs →
      (∃ p xs, y = .ref p ∧ (SqL c.K H p xs ∨ SqT c.K H p xs) ∧ flatV x = true ∧ xs.all flatV = true ∧ k = inV x xs) := fun a xs ys q s hy f hk => by
    rw [Bool.and_eq_true] at f
    have rx : RelD c w e1 x := by
      cases e1 <;> simp only [flat] at f <;> first | (exact absurd f.1 (by decide)) | exact v1
    exact ⟨a, ys, hy, s, flat_of rx f.1, flats_of q f.2, by rw [hk, inF_of rx f.1 q f.2]⟩
  cases e2 <;> simp only [inD] at e <;> try (cases e; done)
  · simp only [Vw, RelD] at v2
    split at e
    · rename_i cc
      cases e
      simp only [Vw, RelD] at v1
      exact .inr (.inr (.inl ⟨cc, _, v1, v2, rfl⟩))
    · cases e
  · simp only [Vw] at v2
    obtain ⟨a, ys, rfl, h1, q⟩ := v2
    split at e
    · cases e
      rename_i f
      exact .inl (key a _ ys q (.inr h1) rfl f rfl)
    · rename_i xs _
      refine .inr (.inl ?_)
      cases p1 : toPy e1 with
      | none => rw [p1] at e; cases e
      | some d =>
        cases p2 : toPys xs with
        | none => rw [p1, p2] at e; cases e
        | some ds =>
          rw [p1, p2] at e
          simp only [Option.bind_some] at e
          split at e
          · rename_i f
            rw [Bool.and_eq_true] at f
            cases e
            exact ⟨d, ds, R.dp v1 p1, .inr (.tup h1 (dps_of R.ex _ _ _ q p2)), f.1, f.2, rfl⟩
          · cases e
  · simp only [Vw] at v2
    have v2' := v2
    obtain ⟨a, ys, rfl, h1, q⟩ := v2
    split at e
    · cases e
      rename_i f
      exact .inl (key a _ ys q (.inl (SqL.of h1)) rfl f rfl)
    · rename_i xs _
      refine .inr (.inl ?_)
      cases p1 : toPy e1 with
      | none => rw [p1] at e; cases e
      | some d =>
        cases p2 : toPys xs with
        | none => rw [p1, p2] at e; cases e
        | some ds =>
          rw [p1, p2] at e
          simp only [Option.bind_some] at e
          split at e
          · rename_i f
            rw [Bool.and_eq_true] at f
            cases e
            exact ⟨d, ds, R.dp v1 p1, .inl (.lst (SqL.of h1) (dps_of R.ex _ _ _ q p2)), f.1, f.2, rfl⟩
          · cases e
  · rw [Option.map_eq_some_iff] at e
    obtain ⟨q, e1, rfl⟩ := e
    obtain ⟨a, o, h1, h2, h3⟩ := dget_of v1 v2 e1
    refine .inr (.inr (.inr ⟨a, o, h1, h2, ?_⟩))
    split at h3
    · rename_i z; rw [h3, z]; rfl
    · rename_i z; obtain ⟨v, h3, _⟩ := h3; rw [h3, z]; rfl
def rInT (K : PySem.W.Frag) (ng : Bool) : R2 := fun x y H Q => ∃ d ds, Dp K H x d ∧ Dp K H y (.tuple ds) ∧ SeqAt.shaped d = true ∧ SeqAt.shaped (.tuple ds) = true ∧ Q (.bl (if ng then !(ds.any fun z => PyData.eqv z d) else ds.any fun z => PyData.eqv z d)) H
theorem op_inT (hu : X.A.units + 65 < cLine) : OpR X (compareOp .In) (rInT X.K false) := by
  rintro pins s σ H x y v u Q I rx ry ⟨d, ds, hd, he, sd, se, q⟩
  obtain ⟨as, r1⟩ := Dp.reads I d x v hd rx
  obtain ⟨bs, r2⟩ := Dp.reads I (.tuple ds) y u he ry
  exact SeqAt.in_tuple_reads r2 r1 (SeqAt.canLay_of_shaped se) (SeqAt.canLay_of_shaped sd) (PyProof.Rows.room_in_shaped sd hu) ⟨.bl _, H, I, rfl, q⟩
theorem op_notinT (hu : X.A.units + 65 < cLine) : OpR X (compareOp .NotIn) (rInT X.K true) := by
  rintro pins s σ H x y v u Q I rx ry ⟨d, ds, hd, he, sd, se, q⟩
  obtain ⟨as, r1⟩ := Dp.reads I d x v hd rx
  obtain ⟨bs, r2⟩ := Dp.reads I (.tuple ds) y u he ry
  exact SeqAt.notIn_tuple_reads r2 r1 (SeqAt.canLay_of_shaped se) (SeqAt.canLay_of_shaped sd) (PyProof.Rows.room_in_shaped sd hu) ⟨.bl _, H, I, rfl, q⟩
theorem op_inS (hK : X.K = c.K) (hu : X.A.units + 65 < cLine) : OpR X (compareOp .In) (Sem2 c (fCmp .inn)) :=
  OpR.imp (op_in_seq.or (((op_inD hu).or (op_inT hu)).or (op_in_sign.or (op_in_dict (by omega))))) fun x y H Q ⟨w, S, d1, d2, d, R, r1, r2, e, k⟩ => by
    obtain ⟨b, f, rfl⟩ := fCmp_inv e
    clear e
    have e := f
    clear f
    have k' := k w H (.bl b) Go.refl R (by simp only [RelD])
    rcases inD_inv R r1 r2 e with ⟨p, xs, hy, s, f1, f2, hb⟩ | ⟨d, ds, h1, h2, h3, h4, hb⟩ | ⟨cc, z, h1, h2, hb⟩ | ⟨a, o, h1, h2, hb⟩
    · exact .inl ⟨p, xs, hy, by rw [hK]; exact s, f1, f2, by rw [if_neg (by decide), ← hb]; exact k'⟩
    · rcases h2 with h2 | h2
      · exact .inr (.inl (.inl ⟨d, ds, by rw [hK]; exact h1, by rw [hK]; exact h2, h3, h4, by rw [← hb]; exact k'⟩))
      · exact .inr (.inl (.inr ⟨d, ds, by rw [hK]; exact h1, by rw [hK]; exact h2, h3, h4, by rw [if_neg (by decide), ← hb]; exact k'⟩))
    · exact .inr (.inr (.inl ⟨cc, z, h1, h2, by rw [← hb]; exact k'⟩))
    · exact .inr (.inr (.inr ⟨a, o, h1, h2, by rw [← hb]; exact k'⟩))
theorem op_notinS (hK : X.K = c.K) (hu : X.A.units + 65 < cLine) : OpR X (compareOp .NotIn) (Sem2 c (fCmp .notin)) :=
  OpR.imp (op_notIn_seq.or (((op_notInD hu).or (op_notinT hu)).or (op_notIn_sign.or (op_notin_dict (by omega))))) fun x y H Q ⟨w, S, d1, d2, d, R, r1, r2, e, k⟩ => by
    obtain ⟨b, f, rfl⟩ := fCmp_inv e
    clear e
    have e := f
    clear f
    have k' := k w H (.bl b) Go.refl R (by simp only [RelD])
    simp only [cmpD, Option.map_eq_some_iff] at e
    obtain ⟨b', e, rfl⟩ := e
    rcases inD_inv R r1 r2 e with ⟨p, xs, hy, s, f1, f2, hb⟩ | ⟨d, ds, h1, h2, h3, h4, hb⟩ | ⟨cc, z, h1, h2, hb⟩ | ⟨a, o, h1, h2, hb⟩
    · exact .inl ⟨p, xs, hy, by rw [hK]; exact s, f1, f2, by rw [if_pos rfl, ← hb]; exact k'⟩
    · rcases h2 with h2 | h2
      · exact .inr (.inl (.inl ⟨d, ds, by rw [hK]; exact h1, by rw [hK]; exact h2, h3, h4, by rw [← hb]; exact k'⟩))
      · exact .inr (.inl (.inr ⟨d, ds, by rw [hK]; exact h1, by rw [hK]; exact h2, h3, h4, by rw [if_pos rfl, ← hb]; exact k'⟩))
    · exact .inr (.inr (.inl ⟨cc, z, h1, h2, by rw [← hb]; exact k'⟩))
    · exact .inr (.inr (.inr ⟨a, o, h1, h2, by rw [← hb]; exact k'⟩))
theorem isN_of {w : Wd} {H : Hp} {d : D} {v : V} (r : Vw c w H d v) : v = .non ↔ d = .non := by
  cases d <;> simp only [Vw, RelD] at r
  all_goals first
    | (subst r; simp; done)
    | (obtain ⟨a, ys, rfl, _⟩ := r; simp; done)
    | (obtain ⟨a, rfl, _⟩ := r; simp; done)
    | (obtain ⟨a, _, rfl⟩ := r; simp; done)
    | (obtain ⟨a, rfl, _⟩ := r; simp; done)
    | (obtain ⟨a, dd, vs, rfl, _⟩ := r; simp; done)
theorem op_isS : OpR X (compareOp .Is) (Sem2 c (fCmp .is)) :=
  OpR.imp (op_isN.or op_isBl) fun x y H Q ⟨w, S, d1, d2, d, R, r1, r2, e, k⟩ => by
    obtain ⟨b, f, rfl⟩ := fCmp_inv e
    clear e
    have e := f
    clear f
    have k' := k w H (.bl b) Go.refl R (by simp only [RelD])
    have v1 := R.view r1
    have v2 := R.view r2
    generalize deref S d1 = e1 at *
    generalize deref S d2 = e2 at *
    have n1 := isN_of v1
    have n2 := isN_of v2
    cases e2 <;> try (cases e1 <;> simp only [cmpD] at e <;> cases e; done)
    · refine .inl ⟨n2.mpr rfl, ?_⟩
      cases e1 <;> simp only [cmpD] at e <;> cases e
      all_goals first
        | (rw [show decide (x = V.non) = true from decide_eq_true (n1.mpr rfl)]; exact k')
        | (rw [show decide (x = V.non) = false from decide_eq_false (fun z => nomatch n1.mp z)]; exact k')
    · cases e1 <;> simp only [cmpD] at e <;> try (cases e; done)
      cases e
      simp only [Vw, RelD] at v1 v2
      exact .inr ⟨_, _, v1, v2, k'⟩
theorem op_isnotS : OpR X (compareOp .IsNot) (Sem2 c (fCmp .isnot)) :=
  OpR.imp (op_notN.or op_notBl) fun x y H Q ⟨w, S, d1, d2, d, R, r1, r2, e, k⟩ => by
    obtain ⟨b, f, rfl⟩ := fCmp_inv e
    clear e
    have e := f
    clear f
    have k' := k w H (.bl b) Go.refl R (by simp only [RelD])
    have v1 := R.view r1
    have v2 := R.view r2
    generalize deref S d1 = e1 at *
    generalize deref S d2 = e2 at *
    have n1 := isN_of v1
    have n2 := isN_of v2
    cases e2 <;> try (cases e1 <;> simp only [cmpD] at e <;> cases e; done)
    · refine .inl ⟨n2.mpr rfl, ?_⟩
      cases e1 <;> simp only [cmpD] at e <;> cases e
      all_goals first
        | (rw [show decide (x = V.non) = true from decide_eq_true (n1.mpr rfl)]; exact k')
        | (rw [show decide (x = V.non) = false from decide_eq_false (fun z => nomatch n1.mp z)]; exact k')
    · cases e1 <;> simp only [cmpD] at e <;> try (cases e; done)
      cases e
      simp only [Vw, RelD] at v1 v2
      exact .inr ⟨_, _, v1, v2, k'⟩
def copOf : COp → CmpOp
  | .eq => .Eq | .ne => .NotEq | .lt => .Lt | .le => .LtE | .gt => .Gt | .ge => .GtE | .inn => .In | .notin => .NotIn | .is => .Is | .isnot => .IsNot
theorem cop_S (hK : X.K = c.K) (hu : X.A.units + 65 < cLine) : ∀ o : COp, OpR X (compareOp (copOf o)) (Sem2 c (fCmp o))
  | .eq => op_eqS hK (by omega) | .ne => op_neS hK (by omega) | .lt => op_ltS | .le => op_leS | .gt => op_gtS | .ge => op_geS
  | .inn => op_inS hK hu | .notin => op_notinS hK hu | .is => op_isS | .isnot => op_isnotS
end
end MP

/-! MP3: subscripts, slices, built-in functions, methods of built-in types. -/
namespace MP
open PySem L2

section
variable {c : Cfg} {w : Wd} {S : Store} {H : Hp}
theorem RelDs.atI {xs : List D} {ys : List V} {i : Int} {d : D} (r : RelDs c w xs ys) (h : L2.atI xs i = some d) : ∃ v, L2.atI ys i = some v ∧ RelD c w d v := by
  unfold L2.atI at h ⊢
  rw [← r.length]
  cases e : ixN xs.length i with
  | none => rw [e] at h; cases h
  | some j =>
    rw [e] at h
    simp only [Option.bind_some] at h ⊢
    exact r.get h
theorem RelDs.cut {xs : List D} {ys : List V} {lo hi : Option Int} (r : RelDs c w xs ys) : RelDs c w (cutD xs lo hi) (cutV ys lo hi) := by
  unfold cutD cutV
  rw [← r.length]
  exact (r.drop _).take _
theorem cut_whole {α : Type} {xs : List α} {lo hi : Option Int} (h : HT.sIx xs.length 0 lo = 0 ∧ HT.sIx xs.length xs.length hi = xs.length) : cutD xs lo hi = xs := by
  unfold cutD
  rw [h.1, h.2]
  simp
theorem cut_map {α β : Type} (f : α → β) (xs : List α) (lo hi : Option Int) : cutD (xs.map f) lo hi = (cutD xs lo hi).map f := by
  unfold cutD
  rw [List.length_map, List.map_take, List.map_drop]
theorem atI_map {α β : Type} (f : α → β) (xs : List α) (i : Int) : L2.atI (xs.map f) i = (L2.atI xs i).map f := by
  unfold L2.atI
  rw [List.length_map]
  cases ixN xs.length i with
  | none => rfl
  | some j => simp only [Option.bind_some, List.getElem?_map]
theorem cutV_D (xs : List V) (lo hi : Option Int) : cutV xs lo hi = cutD xs lo hi := rfl
end
section
variable {X : Cx} {c : Cfg}
def fIx : Store → D → D → Option D := fun S x y => ixD (deref S x) y
theorem ix_dict (hu : X.A.units + 1 < cLine) : IxR X (fun x y H Q => ∃ a v, x = .ref a ∧ DGet H a y (some v) ∧ Q v H) := by
  intro value slice pins s σ H x y v u Q I rx ry ⟨a, v', e, g, q⟩ hs
  subst e
  obtain rfl : v = Value.ref a := rx
  exact PyProof.Rows.tail_any (ops := [.ref a, u]) (dict_typeIs I g) PySem.F.slot_dict_getitem.lookup (d_getItem hu I g ry fun w' s3 I3 rw' => ⟨v', H, I3, rw', q⟩) (by rw [hs])
theorem ix_S (hK : X.K = c.K) (hu : X.A.units + 65 < cLine) : IxR X (Sem2 c fIx) :=
  IxR.imp (ix_seq.or (ix_dict (by omega))) fun x y H Q ⟨w, S, d1, d2, d, R, r1, r2, e, k⟩ => by
    have v1 := R.view r1
    unfold fIx at e
    generalize deref S d1 = e1 at *
    by_cases hd : ∃ ks vs, e1 = .dct ks vs
    · obtain ⟨ks, vs, rfl⟩ := hd
      simp only [ixD] at e
      rw [Option.bind_eq_some_iff] at e
      obtain ⟨q, e1, e2⟩ := e
      obtain ⟨a, o, rfl, h2, h3⟩ := dget_of (R.view0 r2) v1 e1
      rw [e2] at h3
      obtain ⟨v, rfl, h4⟩ := h3
      exact .inr ⟨a, v, rfl, h2, k w H _ Go.refl R h4⟩
    cases e1 <;> cases d2 <;> simp only [ixD] at e <;> try (cases e; done)
    · simp only [Vw, RelD] at v1 r2
      split at e
      · rename_i hz
        rw [Option.map_eq_some_iff] at e
        obtain ⟨cc, e, rfl⟩ := e
        exact .inl (.inr (.inr ⟨_, _, cc, v1, r2, lim_le hz, e, k w H _ Go.refl R (by simp only [RelD])⟩))
      · cases e
    · simp only [Vw, RelD] at v1 r2
      obtain ⟨a, ys, rfl, h1, q⟩ := v1
      obtain ⟨v, h2, h3⟩ := q.atI e
      exact .inl (.inr (.inl ⟨a, ys, _, v, rfl, r2, by rw [hK]; exact h1, h2, k w H _ Go.refl R h3⟩))
    · simp only [Vw, RelD] at v1 r2
      obtain ⟨a, ys, rfl, h1, q⟩ := v1
      obtain ⟨v, h2, h3⟩ := q.atI e
      exact .inl (.inl ⟨a, ys, _, v, rfl, r2, SqL.of h1, h2, k w H _ Go.refl R h3⟩)
    · simp only [Vw, RelD] at v1 r2
      obtain ⟨a, rfl, h1⟩ := v1
      rw [Option.map_eq_some_iff] at e
      obtain ⟨n, e, rfl⟩ := e
      refine .inl (.inl ⟨a, _, _, .int n, rfl, r2, by rw [hK]; exact h1, ?_, k w H _ Go.refl R (by simp only [RelD])⟩)
      rw [atI_map, e]; rfl
    all_goals exact absurd ⟨_, _, rfl⟩ hd
def SemSl (c : Cfg) : V → Option Int → Option Int → Hp → VK → Prop := fun x lo hi H Q => ∃ w S d1 d, Rel c w S H ∧ RelD c w d1 x ∧ slD lo hi (deref S d1) = some d ∧ ∀ w' H' v, Go w H w' H' → Rel c w' S H' → RelD c w' d v → Q v H'
theorem sl_S (hK : X.K = c.K) : SlR X (SemSl c) :=
  SlR.imp (sl_tupA.or (sl_list.or sl_str)) fun x lo hi H Q ⟨w, S, d1, d, R, r1, e, k⟩ => by
    have v1 := R.view r1
    generalize g1 : deref S d1 = e1 at *
    cases e1 <;> simp only [slD] at e <;> try (cases e; done)
    · simp only [Vw, RelD] at v1
      split at e
      · rename_i hz
        cases e
        exact .inr (.inr ⟨_, v1, lim_le hz, k w H _ Go.refl R (by simp only [RelD])⟩)
      · cases e
    · simp only [Vw] at v1
      cases e
      have g2 := deref_inv g1 (fun _ z => nomatch z)
      subst g2
      obtain ⟨a, ys, rfl, h1, q⟩ := v1
      refine .inl ⟨a, ys, rfl, by rw [hK]; exact h1, fun hw => ?_, fun hw p hp => ?_⟩
      · rw [← q.length] at hw
        rw [cut_whole hw] at k
        exact k w H _ Go.refl R r1
      · obtain ⟨z1, z2, z3⟩ := R.newTup q.cut hp
        exact k _ _ _ z1 z2 z3
    · simp only [Vw] at v1
      cases e
      obtain ⟨a, ys, rfl, h1, q⟩ := v1
      refine .inr (.inl ⟨a, ys, rfl, SqL.of h1, fun p hp => ?_⟩)
      obtain ⟨z1, z2, z3⟩ := R.newLst q.cut hp
      exact k _ _ _ z1 z2 z3
    · simp only [Vw] at v1
      cases e
      obtain ⟨a, rfl, h1⟩ := v1
      refine .inr (.inl ⟨a, _, rfl, by rw [hK]; exact h1, fun p hp => ?_⟩)
      rw [cutV_D, cut_map]
      obtain ⟨z1, z2, z3⟩ := R.newLst (RelDs.ints (c := c) (w := w) _) hp
      exact k _ _ _ z1 z2 z3

/-! ### built-in functions -/
def fBlt (b : Blt) : Store → List D → Option D := fun S ds => bltD b (ds.map (deref S))
/-- the arguments as they stand -/
def Vws (c : Cfg) (w : Wd) (H : Hp) : List D → List V → Prop
  | [], vs => vs = []
  | d :: ds, vs => ∃ v r, vs = v :: r ∧ Vw c w H d v ∧ Vws c w H ds r
theorem Rel.views {w : Wd} {S : Store} {H : Hp} (R : Rel c w S H) : ∀ {ds : List D} {vs : List V}, RelDs c w ds vs → Vws c w H (ds.map (deref S)) vs
  | [], vs, r => by rw [r.nil_inv]; rfl
  | d :: ds, vs, r => by
    obtain ⟨v, r', rfl, h1, h2⟩ := r.cons_inv
    exact ⟨v, r', rfl, R.view h1, R.views h2⟩
theorem Vws.one {w : Wd} {H : Hp} {d : D} {vs : List V} (h : Vws c w H [d] vs) : ∃ v, vs = [v] ∧ Vw c w H d v := by
  obtain ⟨v, r, rfl, h1, h2⟩ := h
  rw [show r = [] from h2]
  exact ⟨v, rfl, h1⟩
theorem Vws.two {w : Wd} {H : Hp} {d e : D} {vs : List V} (h : Vws c w H [d, e] vs) : ∃ v u, vs = [v, u] ∧ Vw c w H d v ∧ Vw c w H e u := by
  obtain ⟨v, r, rfl, h1, h2⟩ := h
  obtain ⟨u, rfl, h3⟩ := h2.one
  exact ⟨v, u, rfl, h1, h3⟩
theorem map_deref1 {S : Store} {ds : List D} {e : D} (h : ds.map (deref S) = [e]) : ∃ d, ds = [d] ∧ deref S d = e := by
  match ds, h with
  | [d], h => exact ⟨d, rfl, by simpa using h⟩
theorem mapM_bl {w : Wd} : ∀ {xs : List D} {ys : List V} {bs : List Bool}, RelDs c w xs ys → xs.mapM blOf = some bs → ys = bs.map V.bl
  | [], ys, bs, r, e => by
    rw [r.nil_inv]
    simp at e; subst e; rfl
  | x :: xs, ys, bs, r, e => by
    obtain ⟨v, r', rfl, h1, h2⟩ := r.cons_inv
    rw [List.mapM_cons] at e
    cases x <;> simp only [blOf] at e <;> try (cases e; done)
    rename_i b
    cases q : xs.mapM blOf with
    | none => rw [q] at e; cases e
    | some bs' =>
      rw [q] at e
      cases e
      rw [mapM_bl h2 q]
      simp only [RelD] at h1
      rw [h1]; rfl
theorem mapM_str {w : Wd} : ∀ {xs : List D} {ys : List V} {bs : List Str}, RelDs c w xs ys → xs.mapM strOf = some bs → ys = bs.map V.str
  | [], ys, bs, r, e => by
    rw [r.nil_inv]
    simp at e; subst e; rfl
  | x :: xs, ys, bs, r, e => by
    obtain ⟨v, r', rfl, h1, h2⟩ := r.cons_inv
    rw [List.mapM_cons] at e
    cases x <;> simp only [strOf] at e <;> try (cases e; done)
    rename_i b
    cases q : xs.mapM strOf with
    | none => rw [q] at e; cases e
    | some bs' =>
      rw [q] at e
      cases e
      rw [mapM_str h2 q]
      simp only [RelD] at h1
      rw [h1]; rfl
theorem blt_len (hK : X.K = c.K) : CallR X (.builtin "len") (SemC c (fBlt .len)) :=
  CallR.imp (call_len_seq.or call_len_str) fun vs H Q ⟨w, S, ds, d, R, rs, e, k⟩ => by
    have vw := R.views rs
    unfold fBlt at e
    generalize ds.map (deref S) = es at *
    match es, e with
    | [.tup xs], e =>
      cases e
      obtain ⟨v, rfl, h⟩ := vw.one
      obtain ⟨a, ys, rfl, h1, q⟩ := h
      exact .inl ⟨a, ys, rfl, .inr (by rw [hK]; exact h1), by rw [← q.length]; exact k w H _ Go.refl R (by simp only [RelD])⟩
    | [.lst xs], e =>
      cases e
      obtain ⟨v, rfl, h⟩ := vw.one
      obtain ⟨a, ys, rfl, h1, q⟩ := h
      exact .inl ⟨a, ys, rfl, .inl (SqL.of h1), by rw [← q.length]; exact k w H _ Go.refl R (by simp only [RelD])⟩
    | [.scr ns], e =>
      cases e
      obtain ⟨v, rfl, h⟩ := vw.one
      obtain ⟨a, rfl, h1⟩ := h
      exact .inl ⟨a, _, rfl, .inl (by rw [hK]; exact h1), by rw [List.length_map]; exact k w H _ Go.refl R (by simp only [RelD])⟩
    | [.str z], e =>
      obtain ⟨v, rfl, h⟩ := vw.one
      simp only [bltD] at e
      split at e
      · rename_i hz
        cases e
        simp only [Vw, RelD] at h
        exact .inr ⟨z, by rw [h], Nat.le_trans hz (by rw [sizeLine_eq]; decide), k w H _ Go.refl R (by simp only [RelD])⟩
      · cases e
theorem tyx_of {w : Wd} {S : Store} {H : Hp} {d : D} {v : V} {t : String} (h : Vw c w H d v) (e : tyOf d = some t) : TyX c.K H v (.type t) := by
  cases d <;> simp only [tyOf] at e <;> cases e
  · simp only [Vw, RelD] at h; subst h; exact .base .non
  · simp only [Vw, RelD] at h; subst h; exact .base (.bl _)
  · simp only [Vw, RelD] at h; subst h; exact .base (.int _)
  · simp only [Vw, RelD] at h; subst h; exact .base (.str _)
  · obtain ⟨a, ys, rfl, h1, q⟩ := h
    rcases h1 with (h1 | ⟨o, h1⟩) | ⟨o, its, n, h1, h2, _⟩
    · exact .base (.tup h1)
    · exact .fTuple h1
    · exact .kTuple h1 h2
  · obtain ⟨a, ys, rfl, h1, q⟩ := h
    exact .base (.lst h1)
  · obtain ⟨a, ys, rfl, h1, _⟩ := h
    exact .base (.dK h1)
  · obtain ⟨a, rfl, h1⟩ := h
    exact .base (.dK h1)
theorem blt_isinst (hK : X.K = c.K) : CallR X (.builtin "isinstance") (SemC c (fBlt .isinst)) :=
  CallR.imp call_isi fun vs H Q ⟨w, S, ds, d, R, rs, e, k⟩ => by
    have vw := R.views rs
    unfold fBlt at e
    generalize ds.map (deref S) = es at *
    match es, e with
    | [d1, d2], e =>
      obtain ⟨v, u, rfl, h1, h2⟩ := vw.two
      simp only [bltD, Option.map_eq_some_iff] at e
      obtain ⟨b, e, rfl⟩ := e
      cases d2 <;> simp only [isinst] at e <;> try (cases e; done)
      rename_i n
      cases q : tyOf d1 with
      | none => rw [q] at e; cases e
      | some t =>
        rw [q] at e
        simp only [Option.bind_some] at e
        simp only [Vw, RelD] at h2
        subst h2
        exact ⟨v, .ty n, .type t, .type n, b, rfl, .ty n, by rw [hK]; exact tyx_of (S := S) h1 q, kit_ty e, k w H _ Go.refl R (by simp only [RelD])⟩
theorem blt_all (hc : X.calm = true) : CallR X (.builtin "all") (SemC c (fBlt .all)) :=
  CallR.imp (cr_all hc) fun vs H Q ⟨w, S, ds, d, R, rs, e, k⟩ => by
    have vw := R.views rs
    unfold fBlt at e
    generalize ds.map (deref S) = es at *
    match es, e with
    | [.lst xs], e =>
      obtain ⟨v, rfl, h⟩ := vw.one
      obtain ⟨a, ys, rfl, h1, q⟩ := h
      simp only [bltD, Option.map_eq_some_iff] at e
      obtain ⟨bs, e2, rfl⟩ := e
      exact ⟨a, bs, rfl, by rw [← mapM_bl q e2]; exact SqL.of h1, k w H _ Go.refl R (by simp only [RelD])⟩
theorem blt_any (hc : X.calm = true) : CallR X (.builtin "any") (SemC c (fBlt .any)) :=
  CallR.imp (cr_any hc) fun vs H Q ⟨w, S, ds, d, R, rs, e, k⟩ => by
    have vw := R.views rs
    unfold fBlt at e
    generalize ds.map (deref S) = es at *
    match es, e with
    | [.lst xs], e =>
      obtain ⟨v, rfl, h⟩ := vw.one
      obtain ⟨a, ys, rfl, h1, q⟩ := h
      simp only [bltD, Option.map_eq_some_iff] at e
      obtain ⟨bs, e2, rfl⟩ := e
      exact ⟨a, bs, rfl, by rw [← mapM_bl q e2]; exact SqL.of h1, k w H _ Go.refl R (by simp only [RelD])⟩
theorem blt_tuple (hK : X.K = c.K) : CallR X (.type "tuple") (SemC c (fBlt .tuple)) :=
  CallR.imp call_tuple_of fun vs H Q ⟨w, S, ds, d, R, rs, e, k⟩ => by
    have vw := R.views rs
    unfold fBlt at e
    generalize g : ds.map (deref S) = es at *
    match es, e with
    | [.lst xs], e =>
      cases e
      obtain ⟨v, rfl, h⟩ := vw.one
      obtain ⟨a, ys, rfl, h1, q⟩ := h
      refine ⟨a, ys, rfl, .inl ⟨SqL.of h1, fun p hp => ?_⟩⟩
      obtain ⟨z1, z2, z3⟩ := R.newTup q hp
      exact k _ _ _ z1 z2 z3
    | [.tup xs], e =>
      cases e
      obtain ⟨d1, rfl, g1⟩ := map_deref1 g
      have g2 := deref_inv g1 (fun _ z => nomatch z)
      subst g2
      obtain ⟨v, rfl, h⟩ := vw.one
      obtain ⟨v', e1, r1⟩ := rs.one
      cases e1
      obtain ⟨a, ys, rfl, h1, q⟩ := h
      exact ⟨a, ys, rfl, .inr ⟨by rw [hK]; exact h1, k w H _ Go.refl R r1⟩⟩
theorem blt_list (hK : X.K = c.K) : CallR X (.type "list") (SemC c (fBlt .list)) :=
  CallR.imp call_list_of fun vs H Q ⟨w, S, ds, d, R, rs, e, k⟩ => by
    have vw := R.views rs
    unfold fBlt at e
    generalize ds.map (deref S) = es at *
    match es, e with
    | [.lst xs], e =>
      cases e
      obtain ⟨v, rfl, h⟩ := vw.one
      obtain ⟨a, ys, rfl, h1, q⟩ := h
      refine ⟨a, ys, rfl, .inl (SqL.of h1), fun p hp => ?_⟩
      obtain ⟨z1, z2, z3⟩ := R.newLst q hp
      exact k _ _ _ z1 z2 z3
    | [.tup xs], e =>
      cases e
      obtain ⟨v, rfl, h⟩ := vw.one
      obtain ⟨a, ys, rfl, h1, q⟩ := h
      refine ⟨a, ys, rfl, .inr (by rw [hK]; exact h1), fun p hp => ?_⟩
      obtain ⟨z1, z2, z3⟩ := R.newLst q hp
      exact k _ _ _ z1 z2 z3
theorem blt_abs : CallR X (.builtin "abs") (SemC c (fBlt .abs)) :=
  CallR.imp call_abs fun vs H Q ⟨w, S, ds, d, R, rs, e, k⟩ => by
    have vw := R.views rs
    unfold fBlt at e
    generalize ds.map (deref S) = es at *
    match es, e with
    | [.int i], e =>
      cases e
      obtain ⟨v, rfl, h⟩ := vw.one
      simp only [Vw, RelD] at h
      exact ⟨i, by rw [h], k w H _ Go.refl R (by simp only [RelD])⟩
theorem blt_min (hc : X.calm = true) : CallR X (.builtin "min") (SemC c (fBlt .min)) :=
  CallR.imp (call_min2 hc) fun vs H Q ⟨w, S, ds, d, R, rs, e, k⟩ => by
    have vw := R.views rs
    unfold fBlt at e
    generalize ds.map (deref S) = es at *
    match es, e with
    | [.int i, .int j], e =>
      cases e
      obtain ⟨v, u, rfl, h, h'⟩ := vw.two
      simp only [Vw, RelD] at h h'
      exact ⟨i, j, by rw [h, h'], k w H _ Go.refl R (by simp only [RelD])⟩
theorem blt_max (hc : X.calm = true) : CallR X (.builtin "max") (SemC c (fBlt .max)) :=
  CallR.imp (call_max2 hc) fun vs H Q ⟨w, S, ds, d, R, rs, e, k⟩ => by
    have vw := R.views rs
    unfold fBlt at e
    generalize ds.map (deref S) = es at *
    match es, e with
    | [.int i, .int j], e =>
      cases e
      obtain ⟨v, u, rfl, h, h'⟩ := vw.two
      simp only [Vw, RelD] at h h'
      exact ⟨i, j, by rw [h, h'], k w H _ Go.refl R (by simp only [RelD])⟩
theorem blt_int : CallR X (.type "int") (SemC c (fBlt .int)) :=
  CallR.imp (call_int1.or call_int_str) fun vs H Q ⟨w, S, ds, d, R, rs, e, k⟩ => by
    have vw := R.views rs
    unfold fBlt at e
    generalize ds.map (deref S) = es at *
    match es, e with
    | [.int i], e =>
      cases e
      obtain ⟨v, rfl, h⟩ := vw.one
      simp only [Vw, RelD] at h
      exact .inl (.inl ⟨i, by rw [h], k w H _ Go.refl R (by simp only [RelD])⟩)
    | [.str a], e =>
      obtain ⟨v, rfl, h⟩ := vw.one
      simp only [Vw, RelD] at h
      simp only [bltD] at e
      rw [Option.bind_eq_some_iff] at e
      obtain ⟨n, e1, e⟩ := e
      split at e
      · rename_i hz
        cases e
        exact .inr ⟨a, n, by rw [h], e1, hz, k w H _ Go.refl R (by simp only [RelD])⟩
      · cases e
    | [.bl i], e =>
      cases e
      obtain ⟨v, rfl, h⟩ := vw.one
      simp only [Vw, RelD] at h
      exact .inl (.inr ⟨i, by rw [h], k w H _ Go.refl R (by simp only [RelD])⟩)
/-! sorted texts -/
abbrev leS (a b : Str) : Prop := a.cps.toList ≤ b.cps.toList
theorem insS_perm (x : Str) : ∀ l : List Str, (insS x l).Perm (x :: l)
  | [] => .refl _
  | y :: r => by
    unfold insS
    split
    · exact ((insS_perm x r).cons y).trans (.swap x y r)
    · exact .refl _
theorem sortS_perm : ∀ l : List Str, (sortS l).Perm l
  | [] => .refl _
  | x :: r => (insS_perm x (sortS r)).trans ((sortS_perm r).cons x)
theorem insS_pw (x : Str) : ∀ l : List Str, l.Pairwise leS → (insS x l).Pairwise leS
  | [], _ => List.pairwise_singleton _ _
  | y :: r, h => by
    obtain ⟨h1, h2⟩ := List.pairwise_cons.mp h
    unfold insS
    split
    · rename_i hlt
      refine List.pairwise_cons.mpr ⟨fun z hz => ?_, insS_pw x r h2⟩
      rcases List.mem_cons.mp ((insS_perm x r).mem_iff.mp hz) with rfl | hz
      · exact List.le_of_lt hlt
      · exact h1 z hz
    · rename_i hlt
      have hxy : leS x y := List.not_lt.mp hlt
      refine List.pairwise_cons.mpr ⟨fun z hz => ?_, h⟩
      rcases List.mem_cons.mp hz with rfl | hz
      · exact hxy
      · exact List.le_trans hxy (h1 z hz)
theorem sortS_pw : ∀ l : List Str, (sortS l).Pairwise leS
  | [] => .nil
  | x :: r => insS_pw x _ (sortS_pw r)
theorem rising_pw : ∀ (p : Str) (l : List Str), PyProof.Rows.risingS p l = true → (p :: l).Pairwise leS
  | p, [], _ => List.pairwise_singleton _ _
  | p, x :: r, h => by
    unfold PyProof.Rows.risingS at h
    rw [Bool.and_eq_true, PyProof.Rows.ltCps_eq, Bool.not_eq_true', decide_eq_false_iff_not] at h
    have h1 : leS p x := List.not_lt.mp h.1
    have h2 := rising_pw x r h.2
    refine List.pairwise_cons.mpr ⟨fun z hz => ?_, h2⟩
    rcases List.mem_cons.mp hz with rfl | hz
    · exact h1
    · exact List.le_trans h1 ((List.pairwise_cons.mp h2).1 z hz)
theorem sorted_pw : ∀ l : List Str, PyProof.Rows.sortedS l = true → l.Pairwise leS
  | [], _ => .nil
  | x :: r, h => rising_pw x r h
theorem str_anti {a b : Str} (h : leS a b) (k : leS b a) : a = b := by
  have e : a.cps.toList = b.cps.toList := List.le_antisymm h k
  obtain ⟨⟨a⟩⟩ := a
  obtain ⟨⟨b⟩⟩ := b
  simp only at e
  rw [e]
theorem sortS_unique {xs ys : List Str} (p : ys.Perm xs) (h : PyProof.Rows.sortedS ys = true) : ys = sortS xs :=
  List.Perm.eq_of_pairwise (fun a b _ _ h k => str_anti h k) (sorted_pw ys h) (sortS_pw xs) (p.trans (sortS_perm xs).symm)
theorem RelDs.strs {w : Wd} : ∀ xs : List Str, RelDs c w (xs.map D.str) (xs.map V.str)
  | [] => .nil
  | x :: xs => .cons (by simp only [RelD]) (RelDs.strs xs)
theorem blt_sorted (hK : X.K = c.K) : CallR X (.builtin "sorted") (SemC c (fBlt .sorted)) :=
  CallR.imp cr_sortedS fun vs H Q ⟨w, S, ds, d, R, rs, e, k⟩ => by
    have vw := R.views rs
    unfold fBlt at e
    generalize ds.map (deref S) = es at *
    match es, e with
    | [.lst xs], e =>
      obtain ⟨v, rfl, h⟩ := vw.one
      obtain ⟨a, ys, rfl, h1, q⟩ := h
      simp only [bltD] at e
      rw [Option.bind_eq_some_iff] at e
      obtain ⟨zs, e2, e⟩ := e
      split at e
      · rename_i hz
        cases e
        refine ⟨a, zs, rfl, by rw [← mapM_str q e2]; exact SqL.of h1, hz, fun ys' p hp hs hn => ?_⟩
        rw [sortS_unique hp hs]
        obtain ⟨z1, z2, z3⟩ := R.newLst (RelDs.strs (c := c) (w := w) (sortS zs)) hn
        exact k _ _ _ z1 z2 z3
      · cases e

/-! ### methods -/
theorem mth_list {m : Mth} {w : Wd} {S : Store} {H : Hp} {d0 d : D} {ds : List D} {x : V} {S' : Store} (hm : isMut m = true) (R : Rel c w S H) (r0 : RelD c w d0 x) (e : mthD m d0 ds S = .ok d S') :
    ∃ l a xs ys zs, d0 = .ref l ∧ x = .ref a ∧ w.ρ[l]? = some a ∧ S[l]? = some (.lst xs) ∧ H a = some (.lst zs) ∧ RelDs c w xs zs ∧ mthM S m xs ds = some (d, ys) ∧ S' = S.set l (.lst ys) := by
  unfold mthD at e
  rw [if_neg (fun z => by rw [z] at hm; cases hm), hm] at e
  cases d0 <;> simp only at e <;> try (cases e; done)
  rename_i l
  simp only [RelD] at r0
  obtain ⟨a, h1, rfl⟩ := r0
  split at e
  · rename_i xs hs
    obtain ⟨zs, h2, h3⟩ := R.lst h1 hs
    split at e
    · rename_i r ys hm
      cases e
      exact ⟨l, a, xs, ys, zs, rfl, rfl, h1, hs, h2, h3, hm, rfl⟩
    · cases e
  · cases e
theorem mth_pure {m : Mth} {S : Store} {d0 d : D} {ds : List D} {S' : Store} (hm : isMut m = false) (e : mthD m d0 ds S = .ok d S') (hn : m ≠ .update := by intro z; cases z) : mthP m (deref S d0) (ds.map (deref S)) = some d ∧ S = S' := by
  unfold mthD at e
  rw [if_neg hn, hm] at e
  exact ⟨(opt_eq e).1, (opt_eq e).2.symm⟩
def fMth (m : Mth) : Store → D → List D → Res D := fun S d ds => mthD m d ds S
/-- a list of the store put anew -/
theorem Rel.putL {w : Wd} {S : Store} {H : Hp} (R : Rel c w S H) {l : Nat} {a : Addr} {xs : List D} {ys : List V} (hl : w.ρ[l]? = some a) (r : RelDs c w xs ys) : Rel c w (S.set l (.lst xs)) (upd H a (.lst ys)) :=
  R.put hl ⟨ys, rfl, r⟩
theorem paired_put {w : Wd} {k : Key} {d : D} {v : V} (h : RelD c w d v) : ∀ {kvs : List (Key × D)} {ys : List (Key × V)}, Paired (fun (p : Key × D) (q : Key × V) => p.1 = q.1 ∧ RelD c w p.2 q.2) kvs ys →
    Paired (fun (p : Key × D) (q : Key × V) => p.1 = q.1 ∧ RelD c w p.2 q.2) (putD kvs k d) (putK ys k v) := by
  intro kvs ys r
  have e : (kvs.any fun kv => decide (kv.1 = k)) = (ys.any fun kv => decide (kv.1 = k)) := by
    induction r with
    | nil => rfl
    | cons h t ih => rw [List.any_cons, List.any_cons, ih, h.1]
  unfold putD putK
  rw [e]
  by_cases q : (ys.any fun kv => decide (kv.1 = k)) = true
  · rw [if_pos q, if_pos q]
    clear e q
    induction r with
    | nil => exact .nil
    | @cons p q ps qs h1 t ih =>
      rw [List.map_cons, List.map_cons]
      refine .cons ?_ ih
      by_cases z : p.1 = k
      · rw [if_pos z, if_pos (h1.1.symm.trans z)]; exact ⟨h1.1, h⟩
      · rw [if_neg z, if_neg (fun y => z (h1.1.trans y))]; exact h1
  · rw [if_neg q, if_neg q]; exact Paired.snoc r ⟨rfl, h⟩
theorem paired_merge {w : Wd} {more : List (Key × D)} {zs : List (Key × V)} (r : Paired (fun (p : Key × D) (q : Key × V) => p.1 = q.1 ∧ RelD c w p.2 q.2) more zs) : ∀ {kvs : List (Key × D)} {ys : List (Key × V)}, Paired (fun (p : Key × D) (q : Key × V) => p.1 = q.1 ∧ RelD c w p.2 q.2) kvs ys →
    Paired (fun (p : Key × D) (q : Key × V) => p.1 = q.1 ∧ RelD c w p.2 q.2) (mergeD kvs more) (mergeK ys zs) := by
  induction r with
  | nil => intro _ _ q; exact q
  | @cons p q ps qs h t ih =>
    intro kvs ys r0
    have := paired_put (k := p.1) h.2 r0
    rw [h.1] at this
    rw [h.1.symm] at this
    have e := ih (kvs := putD kvs p.1 p.2) (ys := putK ys q.1 q.2) (by rw [← h.1]; exact this)
    exact e
theorem mt_update : MtM X "dict.update" (fun x vs H Q => ∃ l b xs zs, x = .ref l ∧ vs = [.ref b] ∧ l ≠ b ∧ H l = some (.dK xs) ∧ H b = some (.dK zs) ∧ xs.length + zs.length ≤ sizeLine ∧ Q .non (upd H l (.dK (mergeK xs zs)))) := by
  intro pins s σ H x vs v us Q I rx rv h
  obtain ⟨l, b, xs, zs, rfl, rfl, hne, hl, hb, hz, q⟩ := h
  cases rx
  obtain ⟨u, rfl, ru⟩ := rv.one
  cases ru
  obtain ⟨z, hd, vs1, rel1, dd1⟩ := dk_of I.hok hl
  obtain ⟨z2, hd2, vs2, rel2, dd2⟩ := dk_of I.hok hb
  refine call_meetsIn PySem.F.slot_dict_update dd1.typeIs PySem.F.entry_dict_update (PySem.F.args_dict_update_2 _ _) (meets_dict_update (mixKind X.prog X.w) l b hne hd2)
    ⟨vs1, vs2, dd1, dd2, (by rw [← rel1.length, ← rel2.length]; exact hz), fun h' dd' _ hs => ?_⟩
  have he : ∃ q, h'.get? l = some q := let ⟨q, _, _, hq, _⟩ := dd'; ⟨q, hq⟩
  exact ⟨.non, _, d_write I (by rw [hl]; exact True.intro) hs he (dk_new (Nat.le_trans (length_mergeK zs xs) hz) hd (rel2.merge rel1) dd'), rfl, q⟩
theorem mth_update : MtR X "dict.update" (SemM c (fMth .update)) :=
  MtR.imp (mt_update (X := X)) fun x vs H Q ⟨w, S, d0, ds, d, S', R, r0, rs, e, k⟩ => by
    unfold fMth mthD updD at e
    rw [if_pos rfl] at e
    split at e
    · rename_i l j
      obtain ⟨v, rfl, rv⟩ := rs.one
      simp only [RelD] at r0 rv
      obtain ⟨a, h1, rfl⟩ := r0
      obtain ⟨b, h2, rfl⟩ := rv
      split at e
      · rename_i kvs more e1 e2
        split at e
        · rename_i hc
          cases e
          obtain ⟨_, ho, e3, ys, rfl, q1⟩ := R.obj l a _ h1 e1
          obtain ⟨_, ho, e4, zs, rfl, q2⟩ := R.obj j b _ h2 e2
          refine ⟨a, b, ys, zs, rfl, rfl, fun z => hc.1 (R.nd l j a h1 (by rw [z]; exact h2)), e3, e4, ?_, k w _ _ (Go.put h1) (R.put h1 ⟨_, rfl, paired_merge q2 q1⟩) (by simp only [RelD])⟩
          have l1 := Paired.length q1
          have l2 := Paired.length q2
          rw [← l1, ← l2]
          exact lim_le hc.2
        · cases e
      · cases e
    · cases e
theorem mth_append : MtR X "list.append" (SemM c (fMth .append)) :=
  MtR.imp (mt_append (X := X)) fun x vs H Q ⟨w, S, d0, ds, d, S', R, r0, rs, e, k⟩ => by
    obtain ⟨l, a, xs, ys, zs, rfl, rfl, h1, h2, h3, h4, hm, rfl⟩ := mth_list rfl R r0 e
    match ds, rs, hm with
    | [d1], rs, hm =>
      obtain ⟨v, rfl, rv⟩ := rs.one
      simp only [mthM] at hm
      split at hm
      · rename_i hz
        cases hm
        exact ⟨a, zs, v, rfl, rfl, h3, by rw [← h4.length]; exact lim_lt hz, k w _ _ (Go.put h1) (R.putL h1 (h4.append (.cons rv .nil))) (by simp only [RelD])⟩
      · cases hm
theorem mth_pop0 : MtR X "list.pop" (SemM c (fMth .pop0)) :=
  MtR.imp (mt_pop (X := X)) fun x vs H Q ⟨w, S, d0, ds, d, S', R, r0, rs, e, k⟩ => by
    obtain ⟨l, a, xs, ys, zs, rfl, rfl, h1, h2, h3, h4, hm, rfl⟩ := mth_list rfl R r0 e
    match ds, rs, hm with
    | [], rs, hm =>
      simp only [mthM, Option.map_eq_some_iff, Prod.mk.injEq] at hm
      obtain ⟨y, hy, rfl, rfl⟩ := hm
      obtain ⟨v, q1, q2⟩ := h4.get hy
      exact ⟨a, zs, v, rfl, rs.nil_inv, h3, by rw [← h4.length]; exact q1, k w _ _ (Go.put h1) (R.putL h1 h4.dropLast) q2⟩
theorem small_ix {n : Nat} {i : Int} (h : n ≤ LIM) (a : -(n : Int) ≤ i) (b : i < n) : -(2 ^ 63) ≤ i ∧ i < 2 ^ 63 := by
  have h' : n ≤ 100000 := h
  omega
theorem pop1_inv {S : Store} {xs ds ys : List D} {d : D} (h : mthM S .pop1 xs ds = some (d, ys)) : ∃ i j, ds = [.int i] ∧ xs.length ≤ LIM ∧ ixN xs.length i = some j ∧ xs[j]? = some d ∧ ys = xs.eraseIdx j := by
  match ds, h with
  | [.int i], h =>
    simp only [mthM] at h
    split at h
    · rename_i hz
      cases q : ixN xs.length i with
      | none => rw [q] at h; cases h
      | some j =>
        rw [q] at h
        simp only [Option.bind_some, Option.map_eq_some_iff, Prod.mk.injEq] at h
        obtain ⟨y, hy, rfl, rfl⟩ := h
        exact ⟨i, j, rfl, hz, q, hy, rfl⟩
    · cases h
theorem mth_pop1 : MtR X "list.pop" (SemM c (fMth .pop1)) :=
  MtR.imp (mt_popAt (X := X)) fun x vs H Q ⟨w, S, d0, ds, d, S', R, r0, rs, e, k⟩ => by
    obtain ⟨l, a, xs, ys, zs, rfl, rfl, h1, h2, h3, h4, hm, rfl⟩ := mth_list rfl R r0 e
    obtain ⟨i, j, rfl, hz, q, hy, rfl⟩ := pop1_inv hm
    obtain ⟨v, rfl, rv⟩ := rs.one
    simp only [RelD] at rv
    subst rv
    obtain ⟨u, q1, q2⟩ := h4.get hy
    obtain ⟨g1, g2, g3, g4⟩ := ixN_seq q
    obtain ⟨s1, s2⟩ := small_ix hz g3 g4
    exact ⟨a, zs, i, j, u, rfl, rfl, h3, s1, s2, by rw [← h4.length]; exact g1, q1, k w _ _ (Go.put h1) (R.putL h1 (h4.eraseIdx _)) q2⟩
theorem mth_extend : MtR X "list.extend" (SemM c (fMth .extend)) :=
  MtR.imp (mt_extend (X := X)) fun x vs H Q ⟨w, S, d0, ds, d, S', R, r0, rs, e, k⟩ => by
    obtain ⟨l, a, xs, ys, zs, rfl, rfl, h1, h2, h3, h4, hm, rfl⟩ := mth_list rfl R r0 e
    match ds, rs, hm with
    | [d1], rs, hm =>
      obtain ⟨v, rfl, rv⟩ := rs.one
      have vw := R.view rv
      simp only [mthM] at hm
      split at hm
      · rename_i us hu
        rw [hu] at vw
        obtain ⟨b, ts, rfl, h5, h6⟩ := vw
        split at hm
        · rename_i hz
          cases hm
          exact ⟨a, b, zs, ts, rfl, rfl, h3, h5, by rw [← h4.length, ← h6.length]; exact lim_le hz, k w _ _ (Go.put h1) (R.putL h1 (h4.append h6)) (by simp only [RelD])⟩
        · cases hm
      · cases hm
theorem mth_join (hK : X.K = c.K) : MtR X "str.join" (SemM c (fMth .join)) :=
  MtR.imp (mt_join (X := X)) fun x vs H Q ⟨w, S, d0, ds, d, S', R, r0, rs, e, k⟩ => by
    obtain ⟨e, rfl⟩ := mth_pure rfl e
    have v0 := R.view r0
    have vw := R.views rs
    generalize deref S d0 = e0 at *
    generalize ds.map (deref S) = es at *
    match e0, es, e with
    | .str a, [.lst xs], e =>
      obtain ⟨v, rfl, h⟩ := vw.one
      obtain ⟨p, ys, rfl, h1, q⟩ := h
      simp only [mthP] at e
      cases g : xs.mapM strOf with
      | none => rw [g] at e; cases e
      | some zs =>
        rw [g] at e
        simp only [Option.bind_some] at e
        split at e
        · rename_i hz
          cases e
          simp only [Vw, RelD] at v0
          exact ⟨a, p, zs, v0, rfl, .inl (by rw [← mapM_str q g]; exact SqL.of h1), Nat.le_trans hz (by decide), k w _ _ Go.refl R (by simp only [RelD])⟩
        · cases e
theorem mth_split : MtR X "str.split" (SemM c (fMth .split)) :=
  MtR.imp (mt_split (X := X)) fun x vs H Q ⟨w, S, d0, ds, d, S', R, r0, rs, e, k⟩ => by
    obtain ⟨e, rfl⟩ := mth_pure rfl e
    have v0 := R.view r0
    have vw := R.views rs
    generalize deref S d0 = e0 at *
    generalize ds.map (deref S) = es at *
    match e0, es, e with
    | .str a, [.str b], e =>
      obtain ⟨v, rfl, h⟩ := vw.one
      simp only [mthP] at e
      split at e
      · rename_i hz
        cases e
        simp only [Vw, RelD] at v0 h
        refine ⟨a, b, v0, by rw [h], beq_eq_false_iff_ne.mpr hz.1, Nat.le_trans (Nat.add_le_add_right hz.2 2) (by decide), fun p hp => ?_⟩
        obtain ⟨z1, z2, z3⟩ := R.newLst (RelDs.strs (c := c) (w := w) (Txt.split a b)) hp
        exact k _ _ _ z1 z2 z3
      · cases e
theorem mth_upper : MtR X "str.upper" (SemM c (fMth .upper)) :=
  MtR.imp (mt_upper (X := X)) fun x vs H Q ⟨w, S, d0, ds, d, S', R, r0, rs, e, k⟩ => by
    obtain ⟨e, rfl⟩ := mth_pure rfl e
    have v0 := R.view r0
    have vw := R.views rs
    generalize deref S d0 = e0 at *
    generalize ds.map (deref S) = es at *
    match e0, es, e with
    | .str a, [], e =>
      simp only [mthP] at e
      split at e
      · rename_i hz
        cases e
        simp only [Vw, RelD] at v0
        exact ⟨a, v0, vw, Nat.le_trans hz (by decide), k w _ _ Go.refl R (by simp only [RelD])⟩
      · cases e
theorem idxF_spec (x : D) : ∀ (ys : List D) (n m : Nat), idxF x ys n = some m → ∃ j, m = n + j ∧ (∃ z, ys[j]? = some z ∧ eqF z x = true) ∧ ∀ i z, i < j → ys[i]? = some z → eqF z x = false
  | [], n, m, h => by cases h
  | y :: ys, n, m, h => by
    unfold idxF at h
    split at h
    · rename_i hy
      cases h
      exact ⟨0, rfl, ⟨y, rfl, hy⟩, fun i z hi => absurd hi (Nat.not_lt_zero i)⟩
    · rename_i hy
      obtain ⟨j, e, ⟨z, hz, hzx⟩, hn⟩ := idxF_spec x ys (n + 1) m h
      refine ⟨j + 1, by omega, ⟨z, by simpa using hz, hzx⟩, fun i z' hi hz' => ?_⟩
      cases i with
      | zero => simp at hz'; subst hz'; simpa using hy
      | succ i => exact hn i z' (by omega) (by simpa using hz')
theorem all_get {xs : List D} (h : xs.all flat = true) {j : Nat} {z : D} (hz : xs[j]? = some z) : flat z = true := List.all_eq_true.mp h z (List.mem_of_getElem? hz)
theorem mth_index (hK : X.K = c.K) : MtR X "list.index" (SemM c (fMth .index)) :=
  MtR.imp (mt_index (X := X)) fun x vs H Q ⟨w, S, d0, ds, d, S', R, r0, rs, e, k⟩ => by
    obtain ⟨e, rfl⟩ := mth_pure rfl e
    have v0 := R.view r0
    have vw := R.views rs
    generalize deref S d0 = e0 at *
    generalize ds.map (deref S) = es at *
    match e0, es, e with
    | .lst xs, [x1], e =>
      obtain ⟨v, rfl, h⟩ := vw.one
      obtain ⟨p, ys, rfl, h1, q⟩ := v0
      simp only [mthP] at e
      split at e
      · rename_i hf
        rw [Bool.and_eq_true] at hf
        rw [Option.map_eq_some_iff] at e
        obtain ⟨m, e2, rfl⟩ := e
        obtain ⟨j, hj, ⟨z, hz, hzx⟩, hn⟩ := idxF_spec x1 xs 0 m e2
        rw [Nat.zero_add] at hj
        subst hj
        have rx : RelD c w x1 v := by
          cases x1 <;> simp only [flat] at hf <;> first | (exact absurd hf.1 (by decide)) | exact h
        obtain ⟨u, hu, ru⟩ := q.get hz
        refine ⟨p, ys, v, m, u, rfl, rfl, SqL.of h1, flat_of rx hf.1, flats_of q hf.2, hu, by rw [eqF_of ru rx (all_get hf.2 hz) hf.1]; exact hzx, fun i z' hi hz' => ?_, k w _ _ Go.refl R (by simp only [RelD])⟩
        obtain ⟨z2, hz2, rz2⟩ := q.getV hz'
        rw [eqF_of rz2 rx (all_get hf.2 hz2) hf.1]
        exact hn i z2 hi hz2
      · cases e
end
end MP

/-! MPR: repr and str of data. -/
namespace MP
open PySem L2
section
variable {X : Cx} {c : Cfg} {w : Wd} {pins : List (Addr × Obj)} {σ : L2.St} {H : Hp} {s : Shared}
theorem toPyE_map {α β : Type} {o : Option α} {f : α → β} {b : β} (h : o.map f = some b) : ∃ a, o = some a ∧ b = f a := by
  cases o with
  | none => cases h
  | some a => cases h; exact ⟨a, rfl, rfl⟩
theorem dict0 (I : Inv X pins σ H s) {a : Addr} (h : H a = some (.dK [])) : ∃ as, Reads s.heap (.ref a) (.dict []) as ∧ ∀ b ∈ as, b = a := by
  obtain ⟨_, _, vs, kv, o, es, ep, e1, e2, e3, _, pr, _⟩ := I.hok a _ h
  cases kv
  have hl : es.toList.length = 0 := pr.length
  have he : es.toList = [] := List.length_eq_zero_iff.mp hl
  refine ⟨_, Reads.dict (kvs := []) e1 e2.1 e3 (by rw [he]; exact .nil) (by rw [he]; exact .nil), fun b hb => ?_⟩
  simpa using hb
theorem vals_snd {κ : Type} {ys : List (κ × V)} {zs : List (κ × Value)} (h : KV ys zs) : Vals (ys.map (·.2)) (zs.map (·.2)) ∧ ys.map (·.1) = zs.map (·.1) := by
  induction h with
  | nil => exact ⟨.nil, rfl⟩
  | cons r t ih => exact ⟨.cons r.2 ih.1, by rw [List.map_cons, List.map_cons, r.1, ih.2]⟩
theorem pairs_read {P : Program} {W : World} {h : Heap} : ∀ {es : List DictEntry} {zs : List (Key × Value)}, Pairs (mixKind P W) es zs → es.map (·.val) = zs.map (·.2) ∧ ReadsAll h (es.map (·.key)) ((zs.map (·.1)).map keyPy) []
  | _, _, .nil => ⟨rfl, .nil⟩
  | _, _, .cons (e := e) (kv := kv) a b r => by
    obtain ⟨i1, i2⟩ := pairs_read (h := h) r
    refine ⟨by rw [List.map_cons, List.map_cons, b, i1], ?_⟩
    obtain ⟨k, z⟩ := kv
    have a' : keyIs k e.key = true := a
    have one : Reads h e.key (keyPy k) [] := by
      rcases keyIs_shape a' with ⟨i, t, e1, e2⟩ | ⟨x, t, e1, e2⟩
      · rw [e1, e2]; exact .int i t
      · rw [e1, e2]; exact .str x t
    exact ReadsAll.cons (as := []) (bs := []) one i2
mutual
theorem reads_of (I : Inv X pins σ H s) (hK : X.K = c.K) (ex : ∀ a o, w.B a = some o → H a = some o) (hs : H sysModules = none) :
    ∀ (d : D) (v : V) (u : Value) (p : PyData), RelD c w d v → RelV v u → toPyE d = some p → ∃ as, Reads s.heap u p as ∧ sysModules ∉ as
  | .non, v, u, p, r, q, e => by
    simp only [RelD, toPyE] at r e
    cases e; subst r; cases q
    exact ⟨_, .none, by simp⟩
  | .bl b, v, u, p, r, q, e => by
    simp only [RelD, toPyE] at r e
    cases e; subst r; cases q
    exact ⟨_, .bool b, by simp⟩
  | .int i, v, u, p, r, q, e => by
    simp only [RelD, toPyE] at r e
    cases e; subst r
    obtain ⟨t, rfl⟩ := q
    exact ⟨_, .int i t, by simp⟩
  | .str x, v, u, p, r, q, e => by
    simp only [RelD, toPyE] at r e
    cases e; subst r
    obtain ⟨t, rfl⟩ := q
    exact ⟨_, .str x t, by simp⟩
  | .emp, v, u, p, r, q, e => by
    simp only [RelD, toPyE] at r e
    cases e
    obtain ⟨a, rfl, h⟩ := r
    cases q
    obtain ⟨as, k1, k2⟩ := dict0 I (ex _ _ h)
    exact ⟨as, k1, fun z => by rw [← k2 _ z] at h; have := ex _ _ h; rw [hs] at this; cases this⟩
  | .tup xs, v, u, p, r, q, e => by
    simp only [RelD, toPyE] at r e
    obtain ⟨ps, e1, rfl⟩ := toPyE_map e
    obtain ⟨a, ys, rfl, h1, h2⟩ := r
    cases q
    obtain ⟨its, rv, ⟨o, ho, hc, n, hd⟩, _⟩ := I.tuple (sqT_mono ex (by rw [hK]; exact h1))
    obtain ⟨as, k1, k2⟩ := reads_all I hK ex hs xs ys its ps h2 rv e1
    exact ⟨as, Reads.tuple ho hc hd k1, k2⟩
  | .lst xs, v, u, p, r, q, e => by
    simp only [RelD, toPyE] at r e
    obtain ⟨ps, e1, rfl⟩ := toPyE_map e
    obtain ⟨a, ys, rfl, h1, h2⟩ := r
    cases q
    have h1' := ex _ _ h1
    obtain ⟨its, rv, ⟨o, n, ho, hc, _, hd⟩, _⟩ := I.list (SqL.of h1')
    obtain ⟨as, k1, k2⟩ := reads_all I hK ex hs xs ys its ps h2 rv e1
    refine ⟨_, Reads.list ho hc hd k1, fun z => ?_⟩
    rcases List.mem_cons.mp z with rfl | z
    · rw [hs] at h1'; cases h1'
    · exact k2 z
  | .scr _, _, _, _, _, _, e => by simp only [toPyE] at e; cases e
  | .ref _, _, _, _, _, _, e => by simp only [toPyE] at e; cases e
  | .fn _, _, _, _, _, _, e => by simp only [toPyE] at e; cases e
  | .ty _, _, _, _, _, _, e => by simp only [toPyE] at e; cases e
  | .dct ks vs, v, u, p, r, q, e => by
    simp only [RelD, toPyE] at r e
    cases z : toPysE vs with
    | none => rw [z] at e; cases e
    | some ps =>
      rw [z] at e
      simp only [Option.bind_some] at e
      split at e
      · rename_i hl
        cases e
        obtain ⟨a, ys, rfl, h1, rfl, h2⟩ := r
        cases q
        have h1' := ex _ _ h1
        obtain ⟨_, _, zs, kv, o, es, ep, e1, e2, e3, _, pr, _⟩ := I.hok a _ h1'
        obtain ⟨k1, k2⟩ := vals_snd kv
        obtain ⟨p1, p2⟩ := pairs_read (h := s.heap) pr
        obtain ⟨bs, b1, b2⟩ := reads_all I hK ex hs vs _ _ ps h2 k1 z
        refine ⟨_, Reads.dict (kvs := ((ys.map (·.1)).map keyPy).zip ps) (as := []) (bs := bs) e1 e2.1 e3 ?_ ?_, fun z => ?_⟩
        · rw [List.map_fst_zip (by rw [List.length_map]; exact Nat.le_of_eq hl), k2]; exact p2
        · rw [List.map_snd_zip (by rw [List.length_map]; exact Nat.le_of_eq hl.symm), p1]; exact b1
        · rw [List.cons_append, List.nil_append] at z
          rcases List.mem_cons.mp z with rfl | z
          · rw [hs] at h1'; cases h1'
          · exact b2 z
      · cases e
theorem reads_all (I : Inv X pins σ H s) (hK : X.K = c.K) (ex : ∀ a o, w.B a = some o → H a = some o) (hs : H sysModules = none) :
    ∀ (ds : List D) (vs : List V) (us : List Value) (ps : List PyData), RelDs c w ds vs → Vals vs us → toPysE ds = some ps → ∃ as, ReadsAll s.heap us ps as ∧ sysModules ∉ as
  | [], vs, us, ps, r, q, e => by
    simp only [toPysE] at e
    cases e
    rw [r.nil_inv] at q
    cases q
    exact ⟨_, .nil, by simp⟩
  | d :: ds, vs, us, ps, r, q, e => by
    obtain ⟨v, r', rfl, h1, h2⟩ := r.cons_inv
    simp only [toPysE] at e
    cases z : toPyE d with
    | none => rw [z] at e; cases e
    | some p =>
      rw [z] at e
      simp only [Option.bind_some] at e
      obtain ⟨ps', e2, rfl⟩ := toPyE_map e
      cases q with
      | cons q1 q2 =>
        obtain ⟨as, a1, a2⟩ := reads_of I hK ex hs d v _ p h1 q1 z
        obtain ⟨bs, b1, b2⟩ := reads_all I hK ex hs ds r' _ ps' h2 q2 e2
        exact ⟨_, .cons a1 b1, fun z => (List.mem_append.mp z).elim a2 b2⟩
end
/-- read as it stands -/
theorem reads_view {S : Store} (I : Inv X pins σ H s) (hK : X.K = c.K) (R : Rel c w S H) (hs : H sysModules = none) {d : D} {v : V} {u : Value} {p : PyData}
    (r : Vw c w H d v) (q : RelV v u) (e : toPyE d = some p) : ∃ as, Reads s.heap u p as ∧ sysModules ∉ as := by
  cases d
  case tup xs =>
    simp only [Vw, toPyE] at r e
    obtain ⟨ps, e1, rfl⟩ := toPyE_map e
    obtain ⟨a, ys, rfl, h1, h2⟩ := r
    cases q
    obtain ⟨its, rv, ⟨o, ho, hc, n, hd⟩, _⟩ := I.tuple (by rw [hK]; exact h1)
    obtain ⟨as, k1, k2⟩ := reads_all I hK R.ex hs xs ys its ps h2 rv e1
    exact ⟨as, Reads.tuple ho hc hd k1, k2⟩
  case lst xs =>
    simp only [Vw, toPyE] at r e
    obtain ⟨ps, e1, rfl⟩ := toPyE_map e
    obtain ⟨a, ys, rfl, h1, h2⟩ := r
    cases q
    obtain ⟨its, rv, ⟨o, n, ho, hc, _, hd⟩, _⟩ := I.list (SqL.of h1)
    obtain ⟨as, k1, k2⟩ := reads_all I hK R.ex hs xs ys its ps h2 rv e1
    refine ⟨_, Reads.list ho hc hd k1, fun z => ?_⟩
    rcases List.mem_cons.mp z with rfl | z
    · rw [hs] at h1; cases h1
    · exact k2 z
  case emp =>
    simp only [Vw, toPyE] at r e
    cases e
    obtain ⟨a, rfl, h⟩ := r
    cases q
    obtain ⟨as, k1, k2⟩ := dict0 I h
    exact ⟨as, k1, fun z => by rw [← k2 _ z, hs] at h; cases h⟩
  case dct ks vs =>
    simp only [Vw, toPyE] at r e
    cases z : toPysE vs with
    | none => rw [z] at e; cases e
    | some ps =>
      rw [z] at e
      simp only [Option.bind_some] at e
      split at e
      · rename_i hl
        cases e
        obtain ⟨a, ys, rfl, h1', rfl, h2⟩ := r
        cases q
        obtain ⟨_, _, zs, kv, o, es, ep, e1, e2, e3, _, pr, _⟩ := I.hok a _ h1'
        obtain ⟨k1, k2⟩ := vals_snd kv
        obtain ⟨p1, p2⟩ := pairs_read (h := s.heap) pr
        obtain ⟨bs, b1, b2⟩ := reads_all I hK R.ex hs vs _ _ ps h2 k1 z
        refine ⟨_, Reads.dict (kvs := ((ys.map (·.1)).map keyPy).zip ps) (as := []) (bs := bs) e1 e2.1 e3 ?_ ?_, fun z => ?_⟩
        · rw [List.map_fst_zip (by rw [List.length_map]; exact Nat.le_of_eq hl), k2]; exact p2
        · rw [List.map_snd_zip (by rw [List.length_map]; exact Nat.le_of_eq hl.symm), p1]; exact b1
        · rw [List.cons_append, List.nil_append] at z
          rcases List.mem_cons.mp z with rfl | z
          · rw [hs] at h1'; cases h1'
          · exact b2 z
      · cases e
  all_goals first
    | (simp only [toPyE] at e; cases e; done)
    | exact reads_of I hK R.ex hs _ v u p r q e
theorem shownD_inv {d : D} {z : Str} (h : shownD d = some z) : ∃ p, toPyE d = some p ∧ p.showable = true ∧ p.depth ≤ 64 ∧ p.shown.length ≤ sizeLine ∧ z = p.shown := by
  unfold shownD at h
  cases e : toPyE d with
  | none => rw [e] at h; cases h
  | some p =>
    rw [e] at h
    simp only [Option.bind_some] at h
    split at h
    · rename_i g
      simp only [Bool.and_eq_true, decide_eq_true_iff] at g
      cases h
      refine ⟨p, rfl, g.1.1, g.1.2, Nat.le_trans g.2 (by rw [sizeLine_eq]; decide), rfl⟩
    · cases h
theorem vals_one {v : V} {us : List Value} (h : Vals [v] us) : ∃ u, us = [u] ∧ RelV v u := by
  cases h with
  | cons a b =>
    cases b
    exact ⟨_, rfl, a⟩
theorem blt_repr (hK : X.K = c.K) (hg : X.A.guards = some []) (hu : X.A.units + 70 < cLine) (hb : ∃ o, X.base.get? sysModules = some o) : CallR X (.builtin "repr") (SemC c (fBlt .repr)) := by
  rintro pins s σ H vs us Q I r ⟨w, S, ds, d, R, rs, e, k⟩
  obtain ⟨o, ho⟩ := hb
  have hs := (I.bs _ _ ho).2
  have vw := R.views rs
  unfold fBlt at e
  generalize ds.map (deref S) = es at *
  match es, e with
  | [e1], e =>
    obtain ⟨v, rfl, h⟩ := vw.one
    obtain ⟨u, rfl, ru⟩ := vals_one r
    simp only [bltD] at e
    obtain ⟨z, e2, rfl⟩ := toPyE_map e
    obtain ⟨p, h1, h2, h3, h4, rfl⟩ := shownD_inv e2
    have k' : Q (.str p.shown) H := k w H (.str p.shown) Go.refl R (by simp only [RelD])
    obtain ⟨as, rd, ns⟩ := reads_view I hK R hs h ru h1
    cases rd with
    | none => exact PySem.P.repr_of_none ⟨.str _, H, I.tok _, ⟨_, rfl⟩, k'⟩
    | bool b => exact PySem.P.repr_of_bool ⟨.str _, H, I.tok _, ⟨_, rfl⟩, k'⟩
    | int i t => exact PySem.P.repr_of_int (of_decide_eq_true h2) ⟨.str _, H, I.tok _, ⟨_, rfl⟩, k'⟩
    | str x t => exact PySem.P.repr_of_str ⟨.str _, H, I.tok _, ⟨_, rfl⟩, k'⟩ h4
    | list a1 a2 a3 a4 => exact repr_of_reads' (.list a1 a2 a3 a4) h2 (fun _ => ns) hg (by omega) (fun _ _ z => z) (fun h' u tk hk => ⟨.str _, H, I.kept hk, ⟨_, rfl⟩, k'⟩) h4
    | tuple a1 a2 a3 a4 => exact repr_of_reads' (.tuple a1 a2 a3 a4) h2 (fun _ => ns) hg (by omega) (fun _ _ z => z) (fun h' u tk hk => ⟨.str _, H, I.kept hk, ⟨_, rfl⟩, k'⟩) h4
    | dict a1 a2 a3 a4 a5 => exact repr_of_reads' (.dict a1 a2 a3 a4 a5) h2 (fun _ => ns) hg (by omega) (fun _ _ z => z) (fun h' u tk hk => ⟨.str _, H, I.kept hk, ⟨_, rfl⟩, k'⟩) h4
theorem blt_str (hK : X.K = c.K) (hg : X.A.guards = some []) (hu : X.A.units + 70 < cLine) (hb : ∃ o, X.base.get? sysModules = some o) : CallR X (.type "str") (SemC c (fBlt .str)) := by
  rintro pins s σ H vs us Q I r ⟨w, S, ds, d, R, rs, e, k⟩
  obtain ⟨o, ho⟩ := hb
  have hs := (I.bs _ _ ho).2
  have vw := R.views rs
  unfold fBlt at e
  generalize ds.map (deref S) = es at *
  have one : ∃ e1, es = [e1] := by
    match es, e with
    | [], e => simp only [bltD] at e; cases e
    | [x], _ => exact ⟨x, rfl⟩
    | x :: y :: r, e => cases x <;> simp only [bltD] at e <;> cases e
  obtain ⟨e1, rfl⟩ := one
  · obtain ⟨v, rfl, h⟩ := vw.one
    obtain ⟨u, rfl, ru⟩ := vals_one r
    have seq : (shownD e1).map D.str = some d → (∃ a, u = .ref a) → wpAny (model X.prog X.w) X.A (call (.type "str") [u]) (EP X pins σ Q) X.xe s := fun e ⟨a, ea⟩ => by
      subst ea
      obtain ⟨z, e2, rfl⟩ := toPyE_map e
      obtain ⟨p, h1, h2, h3, h4, rfl⟩ := shownD_inv e2
      have k' : Q (.str p.shown) H := k w H (.str p.shown) Go.refl R (by simp only [RelD])
      obtain ⟨as, rd, ns⟩ := reads_view I hK R hs h ru h1
      exact str_of_reads rd h2 (fun _ => ns) hg (by omega) (fun _ _ z => z) (fun h' u tk hk => ⟨.str _, H, I.kept hk, ⟨_, rfl⟩, k'⟩) h4
    cases e1 <;> simp only [bltD] at e <;> try (cases e; done)
    · cases e
      simp only [Vw, RelD] at h
      subst h
      cases ru
      exact PySem.P.str_of_none ⟨.str _, H, I.tok _, ⟨_, rfl⟩, k w H (.str _) Go.refl R (by simp only [RelD])⟩
    · cases e
      simp only [Vw, RelD] at h
      subst h
      cases ru
      exact PySem.P.str_of_bool ⟨.str _, H, I.tok _, ⟨_, rfl⟩, k w H (.str _) Go.refl R (by simp only [RelD])⟩
    · split at e
      · rename_i i hz
        cases e
        simp only [Vw, RelD] at h
        exact call_str_int pins s σ H _ _ Q I r ⟨i, by rw [h], hz, k w H _ Go.refl R (by simp only [RelD])⟩
      · cases e
    · cases e
      simp only [Vw, RelD] at h
      subst h
      obtain ⟨t, rfl⟩ := ru
      exact PySem.P.str_of_str ⟨.str _, H, I, ⟨t, rfl⟩, k w H (.str _) Go.refl R (by simp only [RelD])⟩
    · refine seq e ?_
      obtain ⟨a, ys, rfl, _⟩ := h
      exact ⟨a, ru⟩
    · refine seq e ?_
      obtain ⟨a, ys, rfl, _⟩ := h
      exact ⟨a, ru⟩
    · refine seq e ?_
      obtain ⟨a, ys, rfl, _⟩ := h
      exact ⟨a, ru⟩
    · refine seq e ?_
      obtain ⟨a, rfl, _⟩ := h
      exact ⟨a, ru⟩
end
end MP

/-! MPT: sets of texts made of a list, and sorted. -/
namespace MPT
open PySem PySem.Spec PyProof.Rows L2 PySem.Froz

/-- the set at a has the texts l -/
structure TxS (P : Program) (w : World) (h : Heap) (a : Addr) (l : List Str) : Prop where
  at_ : ∃ D : SD, h.get? a = some (sObj "set" D) ∧ TxOk P w D l ∧ Ris D.2.2.place.toList ∧ (w.params.followText "set-order" = true ∨ D.2.2.led = true)
  nd : l.Nodup
theorem addTx_both {h : Int} {v : Value} {D : SD} (r : Ris D.2.2.place.toList) : Ris (addTx h v D).2.2.place.toList ∧ (addTx h v D).2.2.led = D.2.2.led := by
  obtain ⟨es, ep, t⟩ := D
  have a1 := layNew_ris t es h v r
  have a2 := layNew_led t es h v
  unfold addTx tailTx
  dsimp only at a1 a2 ⊢
  generalize layNew t es h v = Z at a1 a2 ⊢
  obtain ⟨es1, t1, wd, gv⟩ := Z
  dsimp only at a1 a2 ⊢
  have b1 : Ris (if t1.plain = true then { t1 with plain := false } else t1).place.toList := by split <;> exact a1
  have b2 : (if t1.plain = true then { t1 with plain := false } else t1).led = t.led := by split <;> exact a2
  generalize (if t1.plain = true then { t1 with plain := false } else t1) = t2 at b1 b2 ⊢
  by_cases c : (!wd && t2.tooFull) = true
  · rw [if_pos c]
    exact ⟨relayAll_ris _ _ _, (relayAll_led _ _ _).trans b2⟩
  · rw [if_neg c]
    exact ⟨b1, b2⟩
section
variable {P : Program} {w : World} {A : Around} {E : Value → Shared → Prop} {s : Shared}
theorem TxS.at {h h' : Heap} {a : Addr} {l : List Str} (T : TxS P w h a l) (k : ∀ o, h.get? a = some o → h'.get? a = some o) : TxS P w h' a l := by
  obtain ⟨⟨D, x, y⟩, nd⟩ := T
  exact ⟨⟨D, k _ x, y⟩, nd⟩
theorem TxS.fresh {h : Heap} {a : Addr} (ho : h.get? a = some (sObj "set" (#[], 0, .fresh 0 0 (!w.params.followText "set-order")))) : TxS P w h a [] := by
  refine ⟨⟨_, ho, TxOk.nil rfl, List.Pairwise.nil, ?_⟩, List.nodup_nil⟩
  show _ ∨ (!w.params.followText "set-order") = true
  cases w.params.followText "set-order" <;> simp
theorem TxS.add {a : Addr} {l : List Str} {k : Str} {u : Tok} {Q : Bool → Shared → Prop} (T : TxS P w s.heap a l) (hb : l.length + 1 < scanBound)
    (hQ : ∀ b h' l', Heap.SameBut a s.heap h' → TxS P w h' a l' → (∀ x, x ∈ l' ↔ x = k ∨ x ∈ l) → l'.length ≤ l.length + 1 → Q b { s with heap := h' }) : wpAny (model P w) A (setAddHashed a (.str k u) (hashStr w k)) Q E s := by
  obtain ⟨⟨D, ho, F, r, ld⟩, nd⟩ := T
  by_cases hk : k ∈ l
  · obtain ⟨es, ep, t⟩ := D
    have hkey : (PySem.strKind P w).is k (.str k u) = true := is_str k u
    have hb0 : es.size < scanBound := by rw [show es.size = l.length from F.sz]; omega
    have hel : ElemsOf (PySem.strKind P w) es.toList := F.el
    unfold setAddHashed setAddHashedIn
    refine wpAny_holding (wpAny_bind (wpAny_setState_of ho rfl F.fit ?_)); dsimp only
    rw [byScan_of rfl hb0 hel]; simp only [↓reduceIte]
    unfold setAddByScan
    refine wpAny_bind ?_; refine wpAny_bind (wpAny_rule ?_)
    refine wpAny_bind (wpAny_setScan_of (knd := PySem.strKind P w) (k := k) hkey ho rfl F.fit hel ?_)
    cases hr : List.findIdx? (fun e => (PySem.strKind P w).is k e.2) es.toList with
    | none =>
      obtain ⟨e, he, q⟩ := (F.mem k).mp hk
      have z := List.findIdx?_eq_none_iff.mp hr e he; rw [q] at z; cases z
    | some j =>
      dsimp only
      refine wpAny_pure (wpAny_pure ?_)
      exact hQ _ s.heap l (Heap.SameBut.refl a s.heap) ⟨⟨_, ho, F, r, ld⟩, nd⟩ (fun x => ⟨.inr, fun z => z.elim (fun e => e ▸ hk) id⟩) (Nat.le_succ _)
  · refine add_x ho F hk hb ?_
    obtain ⟨b1, b2⟩ := addTx_both (h := hashStr w k) (v := .str k u) r
    exact hQ true _ (k :: l) (Heap.SameBut.update s.heap a _) ⟨⟨_, get_upd _ ho rfl, add_ok u F, b1, by rw [b2]; exact ld⟩, List.nodup_cons.mpr ⟨hk, nd⟩⟩ (fun x => List.mem_cons) (Nat.le_refl _)
end
/-- the loop of set.update over a walk of texts -/
theorem set_loop {P : Program} {w : World} {A : Around} {R : Result → Shared → Prop} {I : Addr} {fp wr : List Addr} {G : Array GenState → Array GenState → Prop} {n : Nat} {Pv : Nat → Value → Prop} {St : Nat → Shared → Prop}
    (W : WalksS P w A.in1 I fp wr G n Pv St) (S : Addr) (hSf : S ∉ fp) (xs : List Str) (hn : n = xs.length) (hfew : xs.length < 4000) (hval : ∀ i v, Pv i v → ∃ t x, xs[i]? = some x ∧ v = .str x t) :
    ∀ (k i : Nat) (s : Shared), n - i = k → i ≤ n → St i s → (∃ l, TxS P w s.heap S l ∧ (∀ x, x ∈ l ↔ x ∈ xs.take i) ∧ l.length ≤ i) →
      (∀ s' l, Moved (S :: wr) G s s' → TxS P w s'.heap S l → (∀ x, x ∈ l ↔ x ∈ xs.take n) → l.length ≤ n → R (.ok (.ret .none)) s') →
      codeAny (model P w) A (.builtin "set.update.loop" ⟨[.ref S, .ref I], []⟩) R s := by
  have nw : S ∉ wr := fun h => hSf (W.sub _ h)
  have up : ∀ b ∈ wr, b ∈ S :: wr := fun b hb => List.mem_cons_of_mem _ hb
  intro k
  induction k with
  | zero =>
    intro i s hk hi hst ⟨l, T, hl, hz⟩ hR
    obtain rfl : i = n := by omega
    refine codeAny_builtin PyProof.Rows.F.entry_set_update_loop ?_; rw [Around.under_plainId PyProof.Rows.F.plain_set_update_loop _]
    show wpAny _ A.in1 (pyNext (.ref I) >>= _) _ _ s; refine wpAny_bind (W.done s _ _ hst fun s' hm => ?_)
    show wpAny _ A.in1 (ret Value.none) _ _ s'; exact wpAny_pure (hR s' l (hm.mono up) (T.at fun o e => hm.heap S o nw e) hl hz)
  | succ k ih =>
    intro i s hk hi hst ⟨l, T, hl, hz⟩ hR
    have hlt : i < n := by omega
    refine codeAny_builtin PyProof.Rows.F.entry_set_update_loop ?_; rw [Around.under_plainId PyProof.Rows.F.plain_set_update_loop _]
    show wpAny _ A.in1 (pyNext (.ref I) >>= _) _ _ s; refine wpAny_bind (W.item i s _ _ hlt hst fun v s' hP hst' hm => ?_)
    obtain ⟨t, x, hx, rfl⟩ := hval i v hP
    have T' : TxS P w s'.heap S l := T.at fun o e => hm.heap S o nw e
    show wpAny _ A.in1 (holding [Value.str x t] (setAdd S (.str x t)) >>= _) _ _ s'
    refine wpAny_bind (wpAny_holding ?_); unfold setAdd
    refine wpAny_holding ?_; refine wpAny_bind ((PySem.strKind P w).pyHash (k := x) (strKind_is _ _ _ _) ?_)
    refine TxS.add (s := { s' with toks := s'.toks + 1 }) T' (by unfold scanBound; omega) fun b h' l' hsb T2 hl2 hz2 => ?_
    refine wpAny_pure ⟨plainId_quiet PyProof.Rows.F.plain_set_update_loop _, ih (i + 1) _ (by omega) hlt (W.frame _ s' _ _ hst' (Nat.le_succ _) fun b hb o e => ?_) ⟨l', T2, fun y => ?_, by omega⟩ fun s'' l3 hm3 T3 hl3 hz3 => ?_⟩
    · rw [hsb.2 b fun z : b = S => hSf (z ▸ hb)]; exact e
    · rw [hl2 y, hl y, List.take_succ, hx, List.mem_append]; simp only [Option.toList_some, List.mem_singleton]; exact Or.comm
    · refine hR s'' l3 (Moved.trans W.gtrans ((hm.mono up).then_heap (Nat.le_succ _) fun b o hb e => ?_) hm3) T3 hl3 hz3
      rw [hsb.2 b fun z : b = S => hb (z ▸ List.mem_cons_self)]; exact e
section
variable {P : Program} {w : World} {A : Around} {E : Value → Shared → Prop} {s : Shared}
abbrev newS (w : World) : Obj := sObj "set" (#[], 0, .fresh 0 0 (!w.params.followText "set-order"))
theorem strs_get : ∀ {us : List Value} {xs : List Str}, StrsAre us xs → ∀ (i : Nat) (v : Value), us[i]? = some v → ∃ t x, xs[i]? = some x ∧ v = .str x t
  | _, _, .nil, i, v, h => by cases i <;> cases h
  | _, _, .cons n t hr, 0, v, h => ⟨t, n, rfl, (Option.some.inj h).symm⟩
  | _, _, .cons n t hr, i + 1, v, h => strs_get hr i v h
theorem strs_len {us : List Value} {xs : List Str} (h : StrsAre us xs) : us.length = xs.length := by
  induction h with
  | nil => rfl
  | cons _ _ _ ih => simp only [List.length_cons, ih]
set_option maxHeartbeats 3200000 in
/-- set(xs), xs a list of texts -/
theorem call_set_txts {p : Addr} {its : Array Value} {xs : List Str} {Q : Value → Shared → Prop} (hh : A.handled = none) (hl : s.heap.IsList p its) (hi : StrsAre its.toList xs) (hfew : xs.length < 4000)
    (hQ : ∀ (h' : Heap) (tk : Nat) l, TxS P w h' s.heap.objs.size l → (∀ x, x ∈ l ↔ x ∈ xs) → l.length ≤ xs.length → (∀ b o, s.heap.get? b = some o → h'.get? b = some o) → Q (.ref s.heap.objs.size) { s with heap := h', toks := tk }) :
    wpAny (model P w) A (call (.type "set") [.ref p]) Q E s := by
  have hsz : its.size = xs.length := by rw [← strs_len hi, Array.length_toList]
  obtain ⟨c, tl, hmro⟩ := PySem.F.called_set.mro
  have hmade := PySem.F.called_set.made; have hsub := PySem.F.called_set.sub
  refine wpAny_call (codeAny_of_tree ?_); show wpAny _ _ (callAny (.type "set") _) _ _ _
  refine wpAny_pure ⟨Code.quiet_builtin _ (by decide +kernel), codeAny_builtin PySem.F.entry_type_call ?_⟩; rw [Around.under_plain (weight_type_call_type "set" [.ref p] []) rfl]
  have h1 := PySem.F.called_set.notType; have h2 := PySem.F.called_set.canCreate
  have hct := PySem.F.typeCall_set_1 (.ref p)
  repeat (any_goals (first | assumption | wp_step))
  refine codeAny_mono (code_set_led1 (.ref p) (E := E) (Q₁ := fun obj s₁ => obj = .ref s.heap.objs.size ∧ s₁ = { s with heap := s.heap.push (newS w) }) ⟨rfl, rfl⟩) fun r s₁ hr => ?_
  cases r with
  | error e => exact hr
  | ok fl =>
    cases fl with
    | ret obj =>
      obtain ⟨rfl, rfl⟩ := hr
      have hS : (s.heap.push (newS w)).get? s.heap.objs.size = some (newS w) := Heap.get?_push_size _ rfl
      have hT : Shared.TypeIs { s with heap := s.heap.push (newS w) } (.ref s.heap.objs.size) "set" := ⟨_, hS, rfl⟩
      have hli := PySem.F.called_set.init.lookup; have hbi := PySem.F.called_set.init.bind (.ref s.heap.objs.size)
      repeat (any_goals (first | assumption | wp_step))
      refine codeAny_mono (codeAny_call_builtin (R := wants (fun r s₂ => r = .none ∧ ∃ h' tk l, s₂ = { s with heap := h', toks := tk } ∧ TxS P w h' s.heap.objs.size l ∧ (∀ x, x ∈ l ↔ x ∈ xs) ∧ l.length ≤ xs.length ∧
          (∀ b o, s.heap.get? b = some o → h'.get? b = some o)) E) PySem.F.called_set.init.plain PySem.F.entry_set_init (check_set_init_1 hT ?_)) fun r₂ s₂ hr₂ => ?_
      · obtain ⟨ol, hol, hcl, nl, hdl⟩ := hl
        obtain ⟨ocls, odict, odata, oslots⟩ := ol
        simp only at hcl hdl
        subst hcl; subst hdl
        have hol2 : (s.heap.push (newS w)).get? p = some { cls := .type "list", dict := odict, data := .seq its nl, slots := oslots } := Heap.get?_push_of_some _ hol
        have hsls := PySem.F.sub_list_set; have hslf := PySem.F.sub_list_frozenset
        have hne : (Value.type "list" == Value.type "dict") = false := by decide
        have hl1 : (s.heap.push (newS w)).IsList p its := ⟨_, hol2, rfl, nl, rfl⟩
        unfold Builtin.«set.__init__» noKeywords Builtin.Frozenset.updateFrom
        generalize hPI : pyIter = PI
        wp_walk
        subst hPI
        refine wpAny_pyIter_list hl1 ?_; refine wpAny_bind (wpAny_runValue ?_)
        have hps : p < s.heap.objs.size := Heap.lt_size hol
        have hh3 : A.in1.in1.in1.handled = none := by simp [hh]
        have hneI : p ≠ (s.heap.push (newS w)).objs.size := by rw [Heap.size_push]; exact Nat.ne_of_lt (Nat.lt_succ_of_lt hps)
        have hSf : s.heap.objs.size ∉ [(s.heap.push (newS w)).objs.size, p] := by
          rw [Heap.size_push]; simp only [List.mem_cons, List.not_mem_nil, or_false, not_or]; exact ⟨Nat.ne_of_lt (Nat.lt_succ_self _), Nat.ne_of_gt hps⟩
        have hval : ∀ (i : Nat) (v : Value), its[i]? = some v → ∃ t x, xs[i]? = some x ∧ v = .str x t := fun i v hv => strs_get hi i v (by rw [Array.getElem?_toList]; exact hv)
        refine set_loop ((Walks.list hh3 _ p hneI its).toS) s.heap.objs.size hSf xs hsz hfew hval (its.size - 0) 0 _ (by omega) (Nat.zero_le _) ⟨⟨_, Heap.get?_push_size _ rfl, rfl, rfl⟩, (hl1.push _)⟩ ?hS0 ?hR
        case hS0 =>
          refine ⟨[], TxS.fresh (Heap.get?_push_of_some _ hS), fun x => ?_, Nat.le_refl _⟩
          simp
        case hR =>
          intro s' l hm T hml hlen
          obtain ⟨h', g2, d', tk', os'⟩ := s'
          have eg : g2 = s.gens := hm.gens; have ed : d' = s.drawn := hm.drawn
          have eo : os' = s.os := hm.os; subst eg; subst ed; subst eo
          show wpAny _ _ _ _ _ _
          refine wpAny_pure ?_; show wpAny _ _ (ret Value.none) _ _ _
          rw [hsz] at hml hlen
          refine wpAny_pure ⟨rfl, h', tk', l, rfl, T, fun x => by rw [hml x, List.take_length], hlen, fun b o e => ?_⟩
          have hbs : b < s.heap.objs.size := Heap.lt_size e
          refine hm.heap b o ?_ (Heap.get?_push_of_some _ (Heap.get?_push_of_some _ e))
          rw [Heap.size_push]
          intro z; simp only [List.mem_cons, List.not_mem_nil, or_false] at z
          rcases z with z | z
          · exact Nat.ne_of_lt hbs z
          · exact Nat.ne_of_lt (Nat.lt_succ_of_lt hbs) z
      · cases r₂ with
        | error e => exact hr₂
        | ok fl₂ =>
          cases fl₂ with
          | ret r =>
            obtain ⟨rfl, h', tk, l, rfl, T, z1, z2, z3⟩ := hr₂
            repeat (any_goals (first | assumption | wp_step))
            exact hQ h' tk l T z1 z2 z3
          | _ => exact hr₂.elim
    | _ => exact hr.elim
theorem strs_of_elems : ∀ (es : List (Int × Value)), ElemsOf (PySem.strKind P w) es → ∃ ss, StrsAre (es.map (·.2)) ss ∧ ∀ x, x ∈ ss ↔ ∃ e ∈ es, (PySem.strKind P w).is x e.2 = true
  | [], _ => ⟨[], .nil, fun x => by simp⟩
  | e :: es, h => by
    obtain ⟨ss, h1, h2⟩ := strs_of_elems es fun q hq => h q (List.mem_cons_of_mem _ hq)
    obtain ⟨⟨k, h3, _⟩, _⟩ := h e List.mem_cons_self
    obtain ⟨t, h4⟩ := Value.isStrOf_shape h3
    refine ⟨k :: ss, by rw [List.map_cons, h4]; exact .cons k t h1, fun x => ?_⟩
    constructor
    · intro z
      rcases List.mem_cons.mp z with rfl | z
      · exact ⟨e, List.mem_cons_self, h3⟩
      · obtain ⟨q, a, b⟩ := (h2 x).mp z; exact ⟨q, List.mem_cons_of_mem _ a, b⟩
    · rintro ⟨q, a, b⟩
      rcases List.mem_cons.mp a with rfl | a
      · rw [(PySem.strKind P w).inj q.2 x k b h3]; exact List.mem_cons_self
      · exact List.mem_cons_of_mem _ ((h2 x).mpr ⟨q, a, b⟩)
theorem strs_perm {us vs : List Value} (p : us.Perm vs) : ∀ {ss : List Str}, StrsAre vs ss → ∃ ts, StrsAre us ts ∧ ts.Perm ss := by
  induction p with
  | nil => exact fun h => ⟨_, h, .refl _⟩
  | cons x _ ih =>
    intro ss h
    cases h with
    | cons n t hr => obtain ⟨ts, a, b⟩ := ih hr; exact ⟨n :: ts, .cons n t a, b.cons n⟩
  | swap x y l =>
    intro ss h
    cases h with
    | cons n t hr => cases hr with
      | cons m u hs => exact ⟨m :: n :: _, .cons m u (.cons n t hs), .swap _ _ _⟩
  | trans _ _ i1 i2 =>
    intro ss h
    obtain ⟨ts, a, b⟩ := i2 h
    obtain ⟨rs, c, d⟩ := i1 a
    exact ⟨rs, c, d.trans b⟩
theorem perm_of_sub : ∀ (l ss : List Str), l.Nodup → (∀ x ∈ l, x ∈ ss) → ss.length = l.length → ss.Perm l
  | [], ss, _, _, h => by rw [List.eq_nil_of_length_eq_zero h]
  | x :: l, ss, nd, sub, h => by
    obtain ⟨h1, h2⟩ := List.nodup_cons.mp nd
    have hx := sub x List.mem_cons_self
    have p := List.perm_cons_erase hx
    refine p.trans ((perm_of_sub l (ss.erase x) h2 (fun y hy => (List.mem_erase_of_ne fun e : y = x => h1 (e ▸ hy)).2 (sub y (List.mem_cons_of_mem _ hy))) ?_).cons x)
    rw [List.length_erase_of_mem hx, h, List.length_cons]; omega
/-- sorted(found) -/
theorem call_sorted_txts {a : Addr} {l : List Str} {Q : Value → Shared → Prop} (T : TxS P w s.heap a l) (hh : A.handled = none) (h64 : l.length < 64)
    (hQ : ∀ s' p (out : Array Value) (c : Nat) (ss : List Str), (∀ b o, s.heap.get? b = some o → s'.heap.get? b = some o) → s'.gens = s.gens → s'.os = s.os → s.heap.objs.size ≤ p →
      s'.heap.get? p = some (seqObj "list" out c) → StrsAre out.toList ss → ss.Perm l → PyProof.Rows.sortedS ss = true → Q (.ref p) s') : wpAny (model P w) A (call (.builtin "sorted") [.ref a]) Q E s := by
  obtain ⟨⟨⟨es, ep, t⟩, ho, F, r, ld⟩, nd⟩ := T
  have hsz : es.size = l.length := F.sz
  refine Calls.call_function_entry kind_sorted plain_sorted entry_sorted (args_sorted1 _) ?_; unfold Builtin.«sorted»
  refine wpAny_bind (m := checkCount "sorted" 1 1 _) (wpAny_pure ?_)
  refine wpAny_bind (collect_set (A := A.in1) hh ⟨_, ho, rfl, rfl⟩ F.fit (by rw [hsz]; unfold scanBound; omega) r ld fun s1 vs k1 hz g1 o1 pm => ?_)
  have hvl : vs.length = l.length := by rw [pm.length_eq, List.length_map, Array.length_toList]; exact hsz
  obtain ⟨ss0, q1, q2⟩ := strs_of_elems (P := P) (w := w) es.toList F.el
  obtain ⟨ss, q3, q4⟩ := strs_perm pm q1
  have nd0 : ss0.Perm l := by
    refine (List.Perm.symm ?_)
    have sub : ∀ x ∈ l, x ∈ ss0 := fun x hx => (q2 x).mpr ((F.mem x).mp hx)
    have hl0 : ss0.length = l.length := by rw [← strs_len q1, List.length_map, Array.length_toList]; exact hsz
    exact (perm_of_sub l ss0 nd sub hl0).symm
  refine wpAny_bind (wpAny_newList ?_ (by rw [hvl, sizeLine_eq]; omega))
  have hoL : (s1.heap.push (seqObj "list" vs.toArray 0)).get? s1.heap.objs.size = some (seqObj "list" vs.toArray 0) := Heap.get?_push_size _ rfl
  refine wpAny_bind (wpAny_holding (wpAny_call_entry slot_list_sort ⟨_, hoL, rfl⟩ entry_list_sort (list_sort_treeK strKind_oneLt hoL q3.keysOf (fun v₁ v₂ rest e => keyKind_strs (by rw [← e]; exact q3)) (by rw [hvl]; exact h64) fun st' hp hs => ⟨_, rfl, ?_⟩) (args_list_sort _)))
  obtain ⟨ss', a1, a2, a3⟩ := sorted_out_str q3 hp hs
  obtain ⟨c, hc⟩ := sortedHeap_at (vs := vs) (out := (arrOf st').map (·.2)) hoL
  refine wpAny_pure ⟨_, rfl, hQ _ s1.heap.objs.size _ c ss' (fun b u e => ?_) g1 o1 hz hc a1 ((a2.trans q4).trans nd0) a3⟩
  have q := k1 b u e; have hlt := Heap.lt_size q
  show (sortedHeap (s1.heap.push (seqObj "list" vs.toArray 0)) s1.heap.objs.size vs _).get? b = some u
  rw [sortedHeap_old (Nat.ne_of_lt hlt) (by rw [size_push']; exact Nat.lt_succ_of_lt hlt)]; exact Heap.get?_push_of_some _ q
end
/-- an object of the store: a set of texts -/
def TxO (P : Program) (w : World) (a : Addr) (l : List Str) : HO := .ext fun h => TxS P w h a l
theorem txo_new {P : Program} {w : World} {H : Hp} {h : Heap} {a : Addr} {l : List Str} (T : TxS P w h a l) : ObjOk P w H h a (TxO P w a l) := by
  obtain ⟨D, e, q⟩ := T.at_
  exact ⟨T, ⟨_, e⟩, fun h1 h2 p k => TxS.at p k⟩
section
variable {X : Cx}
def rSetT (K : PySem.W.Frag) (P : Program) (w : World) : List V → Hp → VK → Prop := fun vs H Q => ∃ (b : Addr) (xs : List Str), vs = [V.ref b] ∧ SqL K H b (xs.map V.str) ∧ xs.length < 64 ∧
  ∀ a l, H a = none → (∀ x, x ∈ l ↔ x ∈ xs) → l.Nodup → l.length ≤ xs.length → Q (.ref a) (upd H a (TxO P w a l))
theorem cr_setT (hc : X.calm = true) : CallR X (.type "set") (rSetT X.K X.prog X.w) := by
  intro pins s σ H vs us Q I r h
  obtain ⟨b, xs, rfl, hs, h64, q⟩ := h
  obtain ⟨its, rv, hl, _⟩ := I.list hs
  rw [Vals.ref1 r]
  refine call_set_txts (xs := xs) (I.ok.hd hc) hl.isList (by simpa using rv.strs) (by omega) fun h' tk l T z1 z2 z3 => ?_
  exact ⟨.ref s.heap.objs.size, upd H s.heap.objs.size (TxO X.prog X.w s.heap.objs.size l), I.laid (t' := tk) z3 (Nat.le_refl _) (txo_new T), rfl, q _ l (I.hok.fresh (Nat.le_refl _)) z1 T.nd z2⟩
def rSortT (P : Program) (w : World) : List V → Hp → VK → Prop := fun vs H Q => ∃ (a : Addr) (l : List Str), vs = [V.ref a] ∧ H a = some (TxO P w a l) ∧ l.length < 64 ∧
  ∀ (ys : List Str) (p : Addr), ys.Perm l → PyProof.Rows.sortedS ys = true → H p = none → Q (.ref p) (upd H p (.lst (ys.map V.str)))
theorem cr_sortT' (hc : X.calm = true) : CallR X (.builtin "sorted") (rSortT X.prog X.w) := by
  intro pins s σ H vs us Q I r h
  obtain ⟨a, l, rfl, ha, h64, q⟩ := h
  have T : TxS X.prog X.w s.heap a l := (I.hok a _ ha).1
  rw [Vals.ref1 r]
  refine call_sorted_txts T (I.ok.hd hc) h64 fun s' p out c ss k g o hp hg h1 h2 h3 => ?_
  have hlen : (ss.map V.str).length ≤ sizeLine := by rw [List.length_map, h2.length_eq]; exact small64 h64
  have hn : H p = none := I.hok.fresh hp
  have J : Inv X pins σ (upd H p (.lst (ss.map V.str))) { s with heap := s'.heap, gens := s'.gens, drawn := s'.drawn, toks := s'.toks } :=
    I.call (ch := []) (Un.laid k hp hn) (I.hok.laid k hp ⟨hlen, out.toList, c, vals_of_strs h1, hg⟩) (by rw [g]; exact I.bare) (fun _ z => nomatch z)
  have e : s' = { s with heap := s'.heap, gens := s'.gens, drawn := s'.drawn, toks := s'.toks } := by cases s'; cases s; cases o; rfl
  rw [e]; exact ⟨.ref p, _, J, rfl, q ss p h2 h3 hn⟩
end
end MPT

/-! MP4: expressions: from the parts' readings to the whole's. -/
namespace MP
open PySem L2

section
variable {X : Cx} {c : Cfg} {F : Fn} {a b e : Expr} {ea eb ee : E} {pos : Pos}
theorem SemE.bind {e : E} {es : E} {k : D → Store → Res D} {env : Env} {w : Wd} {S : Store} {H : Hp} {σ : St} {d : D} {S' : Store} {Q : VK} (R : Rel c w S H) (RE : RelEnv c w env σ) (h : (ev F e env S).bind k = .ok d S')
    (g : ∀ d1 S1 w1 H1 v1, Go w H w1 H1 → Rel c w1 S1 H1 → RelD c w1 d1 v1 → RelEnv c w1 env σ → k d1 S1 = .ok d S' → Q v1 H1) : SemE c F e σ H Q := by
  obtain ⟨d1, S1, e1, e2⟩ := Res.bind_eq h
  exact ⟨w, S, env, d1, S1, R, RE, e1, fun w1 H1 v1 le R1 r1 => g d1 S1 w1 H1 v1 le R1 r1 (RE.mono le.le) e2⟩
theorem SemA.bind {es : List E} {k : List D → Store → Res D} {env : Env} {w : Wd} {S : Store} {H : Hp} {σ : St} {d : D} {S' : Store} {Q : List V → Hp → Prop} (R : Rel c w S H) (RE : RelEnv c w env σ) (h : (evs F es env S).bind k = .ok d S')
    (g : ∀ d1 S1 w1 H1 v1, Go w H w1 H1 → Rel c w1 S1 H1 → RelDs c w1 d1 v1 → RelEnv c w1 env σ → k d1 S1 = .ok d S' → Q v1 H1) : SemA c F es σ H Q := by
  obtain ⟨d1, S1, e1, e2⟩ := Res.bind_eq h
  exact ⟨w, S, env, d1, S1, R, RE, e1, fun w1 H1 v1 le R1 r1 => g d1 S1 w1 H1 v1 le R1 r1 (RE.mono le.le) e2⟩
/-! names, constants -/
theorem sem_var {i : Nat} (h : PE X e (tVar i)) : PE X e (SemE c F (.var i)) := PE.imp h fun σ H Q ⟨w, S, env, d, S', R, RE, hv, k⟩ => by
  simp only [ev] at hv
  split at hv
  · rename_i d' he
    cases hv
    obtain ⟨v, h1, h2⟩ := RE.2 i _ he
    exact ⟨v, h1, k w H v Go.refl R h2⟩
  · cases hv
theorem sem_con {d : D} {v : V} (h : PE X e (tC v)) (r : ∀ w, RelD c w d v) : PE X e (SemE c F (.con d)) := PE.imp h fun σ H Q ⟨w, S, env, d', S', R, RE, hv, k⟩ => by
  simp only [ev] at hv
  cases hv
  exact k w H v Go.refl R (r w)
/-! argument lists -/
theorem sem_nil : PA X [] (SemA c F []) := PA.imp pa_nil fun σ H Q ⟨w, S, env, d, S', R, RE, hv, k⟩ => by
  simp only [evs] at hv
  cases hv
  exact k w H [] Go.refl R .nil
theorem sem_cons {es : List Expr} {ees : List E} (ha : PE X e (SemE c F ee)) (hr : PA X es (SemA c F ees)) (hs : starEach (e :: es) X.env = (false, eval e X.env) :: starEach es X.env) : PA X (e :: es) (SemA c F (ee :: ees)) :=
  PA.imp (pa_cons ha hr hs) fun σ H Q ⟨w, S, env, d, S', R, RE, hv, k⟩ => by
    simp only [evs] at hv
    obtain ⟨d1, S1, e1, e2⟩ := Res.bind_eq hv
    obtain ⟨d2, S2, e3, e4⟩ := Res.bind_eq e2
    cases e4
    exact ⟨w, S, env, d1, S1, R, RE, e1, fun w1 H1 v1 le1 R1 r1 => ⟨w1, S1, env, d2, S', R1, RE.mono le1.le, e3, fun w2 H2 vs le2 R2 rs => k w2 H2 _ (le1.trans le2) R2 (.cons (r1.mono le2.le) rs)⟩⟩
theorem sem_knil : PK X [] (SemA c F []) := PK.imp pk_nil fun σ H Q ⟨w, S, env, d, S', R, RE, hv, k⟩ => by
  simp only [evs] at hv
  cases hv
  exact k w H [] Go.refl R .nil
theorem sem_kcons {ks : List Keyword} {nm : Option Str} {kpos : Pos} {ees : List E} (ha : PE X e (SemE c F ee)) (hr : PK X ks (SemA c F ees)) : PK X (⟨nm, e, kpos⟩ :: ks) (SemA c F (ee :: ees)) :=
  PK.imp (pk_cons ha hr) fun σ H Q ⟨w, S, env, d, S', R, RE, hv, k⟩ => by
    simp only [evs] at hv
    obtain ⟨d1, S1, e1, e2⟩ := Res.bind_eq hv
    obtain ⟨d2, S2, e3, e4⟩ := Res.bind_eq e2
    cases e4
    exact ⟨w, S, env, d1, S1, R, RE, e1, fun w1 H1 v1 le1 R1 r1 => ⟨w1, S1, env, d2, S', R1, RE.mono le1.le, e3, fun w2 H2 vs le2 R2 rs => k w2 H2 _ (le1.trans le2) R2 (.cons (r1.mono le2.le) rs)⟩⟩
/-! displays -/
theorem sem_tup {es : List Expr} {ees : List E} {x1 : Nat} (h : PA X es (SemA c F ees)) : PE X (.Tuple es x1 pos) (SemE c F (.tup ees)) := PE.imp (pe_tup h) fun σ H Q ⟨w, S, env, d, S', R, RE, hv, k⟩ => by
  simp only [ev] at hv
  refine SemA.bind R RE hv fun ds S1 w1 H1 vs le1 R1 rs _ hk => ?_
  split at hk
  · rename_i hz
    cases hk
    refine ⟨by rw [← rs.length]; exact lim_le hz, fun p hp => ?_⟩
    obtain ⟨z1, z2, z3⟩ := R1.newTup rs hp
    exact k _ _ _ (le1.trans z1) z2 z3
  · cases hk
theorem sem_lst {es : List Expr} {ees : List E} (h : PA X es (SemA c F ees)) : PE X (.List es pos) (SemE c F (.lst ees)) := PE.imp (pe_lst h) fun σ H Q ⟨w, S, env, d, S', R, RE, hv, k⟩ => by
  simp only [ev] at hv
  refine SemA.bind R RE hv fun ds S1 w1 H1 vs le1 R1 rs _ hk => ?_
  split at hk
  · rename_i hz
    cases hk
    refine ⟨by rw [← rs.length]; exact lim_le hz, fun p hp => ?_⟩
    obtain ⟨z1, z2, z3⟩ := R1.newLst rs hp
    exact k _ _ _ (le1.trans z1) z2 z3
  · cases hk
/-- a new object of the store -/
theorem Rel.newO {w : Wd} {S : Store} {H : Hp} (R : Rel c w S H) {xs : List D} {ys : List V} {p : Addr} (rs : RelDs c w xs ys) (hp : H p = none) :
    Go w H (w.more p) (upd H p (.lst ys)) ∧ Rel c (w.more p) (S ++ [.lst xs]) (upd H p (.lst ys)) ∧ RelD c (w.more p) (.ref S.length) (.ref p) := by
  refine ⟨Go.more hp, R.more hp ⟨ys, rfl, rs.mono Wd.le_more⟩, ?_⟩
  simp only [RelD]
  refine ⟨p, ?_, rfl⟩
  show (w.ρ ++ [p])[S.length]? = some p
  rw [← R.len, List.getElem?_append_right (Nat.le_refl _)]
  simp
theorem sem_nlst {es : List Expr} {ees : List E} (h : PA X es (SemA c F ees)) : PE X (.List es pos) (SemE c F (.nlst ees)) := PE.imp (pe_lst h) fun σ H Q ⟨w, S, env, d, S', R, RE, hv, k⟩ => by
  simp only [ev] at hv
  refine SemA.bind R RE hv fun ds S1 w1 H1 vs le1 R1 rs _ hk => ?_
  split at hk
  · rename_i hz
    cases hk
    refine ⟨by rw [← rs.length]; exact lim_le hz, fun p hp => ?_⟩
    obtain ⟨z1, z2, z3⟩ := R1.newO rs hp
    exact k _ _ _ (le1.trans z1) z2 z3
  · cases hk
theorem evs_len {env : Env} : ∀ {es : List E} {S : Store} {ds : List D} {S' : Store}, evs F es env S = .ok ds S' → ds.length = es.length
  | [], S, ds, S', h => by simp only [evs] at h; cases h; rfl
  | e :: es, S, ds, S', h => by
    simp only [evs] at h
    obtain ⟨d1, S1, e1, e2⟩ := Res.bind_eq h
    obtain ⟨d2, S2, e3, e4⟩ := Res.bind_eq e2
    cases e4
    simp only [List.length_cons, evs_len e3]
/-! a sum of lists that is changed later -/
def Sem2S (c : Cfg) (f : D → D → Store → Res D) : R2 := fun x y H Q => ∃ w S d1 d2 d S', Rel c w S H ∧ RelD c w d1 x ∧ RelD c w d2 y ∧ f d1 d2 S = .ok d S' ∧ ∀ w' H' v, Go w H w' H' → Rel c w' S' H' → RelD c w' d v → Q v H'
theorem op_nadd : OpR X (binaryOp .Add) (Sem2S c naddD) :=
  OpR.imp op_cat fun x y H Q ⟨w, S, d1, d2, d, S', R, r1, r2, e, k⟩ => by
    have v1 := R.view r1
    have v2 := R.view r2
    unfold naddD at e
    split at e
    · rename_i xs ys e1 e2
      rw [e1] at v1
      rw [e2] at v2
      split at e
      · rename_i hz
        cases e
        obtain ⟨a, zs, rfl, h1, q1⟩ := v1
        obtain ⟨b, us, rfl, h2, q2⟩ := v2
        refine ⟨a, b, zs, us, rfl, rfl, h1, h2, by rw [← q1.length, ← q2.length]; exact lim_le hz, fun p hp => ?_⟩
        obtain ⟨z1, z2, z3⟩ := R.newO (q1.append q2) hp
        exact k _ _ _ z1 z2 z3
      · cases e
    · cases e
theorem sem_nadd {b : Expr} (ha : PE X a (SemE c F ea)) (hb : PE X b (SemE c F eb)) : PE X (.BinOp a .Add b pos) (SemE c F (.nadd ea eb)) := PE.imp (pe_op op_nadd ha hb) fun σ H Q ⟨w, S, env, d, S', R, RE, hv, k⟩ => by
  simp only [ev] at hv
  refine SemE.bind (es := ea) R RE hv fun d1 S1 w1 H1 v1 le1 R1 r1 RE1 h1 => ?_
  refine SemE.bind (es := ea) R1 RE1 h1 fun d2 S2 w2 H2 v2 le2 R2 r2 RE2 h2 => ?_
  exact ⟨w2, S2, d1, d2, d, S', R2, r1.mono le2.le, r2, h2, fun w3 H3 v3 le3 R3 r3 => k w3 H3 v3 ((le1.trans le2).trans le3) R3 r3⟩
/-! a dict display -/
theorem Go.under {w w' : Wd} {H H' : Hp} {p : Addr} {o : HO} (h : H p = none) (g : Go w (upd H p o) w' H') : Go w H w' H' := by
  refine ⟨g.le, fun a u e n => g.fr a u (by rw [upd_ne (ne_of_none e h)]; exact e) n, fun l a e => ?_, fun a u e => ?_⟩
  · rcases g.nw l a e with q | q
    · exact .inl q
    · by_cases ha : a = p
      · rw [ha]; exact .inr h
      · rw [upd_ne ha] at q; exact .inr q
  · rcases g.nb a u e with q | ⟨q, n⟩
    · exact .inl q
    · by_cases ha : a = p
      · rw [ha, upd_same] at q; cases q
      · rw [upd_ne ha] at q; exact .inr ⟨q, n⟩
def trsOf (c : Cfg) (F : Fn) : List E → List (TE × TE)
  | k :: v :: r => (SemE c F k, SemE c F v) :: trsOf c F r
  | _ => []
theorem pairs_imp {σ : St} {env : Env} : ∀ (es : List E) {w : Wd} {S : Store} {H : Hp} {ds : List D} {S' : Store} {kvs : List (Key × D)} {Q : List (V × V) → Hp → Prop}, Rel c w S H → RelEnv c w env σ → evs F es env S = .ok ds S' → pairsD ds = some kvs →
    (∀ w' H' (ys : List (Key × V)), Go w H w' H' → Rel c w' S' H' → Paired (fun (p : Key × D) (q : Key × V) => p.1 = q.1 ∧ RelD c w' p.2 q.2) kvs ys → Q (ys.map fun kv => (kV kv.1, kv.2)) H') → tPairs (trsOf c F es) σ H Q
  | [], w, S, H, ds, S', kvs, Q, R, RE, h, hp, k => by
    simp only [evs] at h
    cases h
    simp only [pairsD] at hp
    cases hp
    exact k w H [] Go.refl R .nil
  | [_], w, S, H, ds, S', kvs, Q, R, RE, h, hp, k => by
    have hl := evs_len h
    match ds, hl with
    | [d], _ => simp only [pairsD] at hp; cases hp
  | ek :: ev :: r, w, S, H, ds, S', kvs, Q, R, RE, h, hp, k => by
    simp only [evs] at h
    obtain ⟨d1, S1, h1, hx⟩ := Res.bind_eq h
    obtain ⟨d2', S2', hy, hz⟩ := Res.bind_eq hx
    cases hz
    obtain ⟨d2, S2, h2, h3'⟩ := Res.bind_eq hy
    obtain ⟨dr, S3, h3, h4⟩ := Res.bind_eq h3'
    cases h4
    simp only [pairsD] at hp
    rw [Option.bind_eq_some_iff] at hp
    obtain ⟨q, hq, hp⟩ := hp
    rw [Option.map_eq_some_iff] at hp
    obtain ⟨l, hl, rfl⟩ := hp
    show SemE c F ek σ H fun x H1 => SemE c F ev σ H1 fun y H2 => tPairs (trsOf c F r) σ H2 fun ps H3 => Q ((x, y) :: ps) H3
    refine ⟨w, S, env, d1, S1, R, RE, h1, fun w1 H1 v1 g1 R1 r1 => ⟨w1, S1, env, d2, S2, R1, RE.mono g1.le, h2, fun w2 H2 v2 g2 R2 r2 => ?_⟩⟩
    refine pairs_imp r R2 (RE.mono (g1.trans g2).le) h3 hl fun w3 H3 ys g3 R3 rp => ?_
    have e1 : v1 = kV q := by
      cases d1 <;> simp only [keyD] at hq <;> cases hq <;> (simp only [RelD] at r1; exact r1)
    rw [e1]
    exact k w3 H3 ((q, v2) :: ys) ((g1.trans g2).trans g3) R3 (.cons ⟨rfl, r2.mono g3.le⟩ rp)
theorem sem_fdict {keys : List (Option Expr)} {values : List Expr} {ees : List E} (h : PPs X pos keys values (trsOf c F ees)) (hall : keys.all (·.isSome) = true) (hl : keys.length = values.length) (h0 : keys ≠ [])
    (h15 : keys.length ≤ 15) : PE X (.Dict keys values pos) (SemE c F (.fdict ees)) := PE.imp (pe_disp h hall hl h0 h15) fun σ H Q ⟨w, S, env, d, S', R, RE, hv, k⟩ => by
  intro p hp
  simp only [ev] at hv
  obtain ⟨ds, S1, h1, hv1⟩ := Res.bind_eq hv
  obtain ⟨kvs, S2, h2', hv2⟩ := Res.bind_eq hv1
  clear hv hv1
  obtain ⟨h2, rfl⟩ := opt_eq h2'
  clear h2'
  split at hv2
  · rename_i hz
    cases hv2
    refine pairs_imp ees (R.other (R.freeB hp) (R.notR hp)) RE h1 h2 fun w' H' ys g' R' rp => ?_
    have hp' : H' p = some (.dK []) := g'.fr p _ upd_same (R.notR hp)
    have nR : ∀ l : Nat, w'.ρ[l]? ≠ some p := fun l q => by
      rcases g'.nw l p q with ⟨j, hj⟩ | q
      · exact R.notR hp j hj
      · rw [upd_same] at q; cases q
    have nB : w'.B p = none := by
      cases q : w'.B p with
      | none => rfl
      | some o =>
        rcases g'.nb p o q with q | ⟨q, _⟩
        · rw [R.freeB hp] at q; cases q
        · rw [upd_same] at q; cases q
    have g := g'.under hp
    have pm := paired_dk (paired_merge rp .nil)
    refine ⟨hp', ys, rfl, by rw [← Paired.length rp]; exact hz, ?_⟩
    refine k (w'.add p _) _ (.ref p) ?_ ((R'.other nB nR).adopt upd_same nB nR) ?_
    · refine ⟨g.le.le_trans (Wd.le_add nB), fun a o e n => ?_, fun l a e => g.nw l a e, fun a o e => ?_⟩
      · rw [upd_ne (ne_of_none e hp)]; exact g.fr a o e n
      · by_cases ha : a = p
        · subst ha; exact .inr ⟨hp, R.notR hp⟩
        · rw [show (w'.add p _).B a = w'.B a from upd_ne ha] at e; exact g.nb a o e
    · simp only [RelD]
      exact ⟨p, _, rfl, (show upd w'.B p _ p = some _ from upd_same), pm.1, pm.2.mono (Wd.le_add nB)⟩
  · cases hv2
theorem sem_ndict {keys : List (Option Expr)} {values : List Expr} {ees : List E} (h : PPs X pos keys values (trsOf c F ees)) (hall : keys.all (·.isSome) = true) (hl : keys.length = values.length) (h0 : keys ≠ [])
    (h15 : keys.length ≤ 15) : PE X (.Dict keys values pos) (SemE c F (.ndict ees)) := PE.imp (pe_disp h hall hl h0 h15) fun σ H Q ⟨w, S, env, d, S', R, RE, hv, k⟩ => by
  intro p hp
  simp only [ev] at hv
  obtain ⟨ds, S1, h1, hv1⟩ := Res.bind_eq hv
  obtain ⟨kvs, S2, h2', hv2⟩ := Res.bind_eq hv1
  clear hv hv1
  obtain ⟨h2, rfl⟩ := opt_eq h2'
  clear h2'
  split at hv2
  · rename_i hz
    cases hv2
    refine pairs_imp ees (R.other (R.freeB hp) (R.notR hp)) RE h1 h2 fun w' H' ys g' R' rp => ?_
    have hp' : H' p = some (.dK []) := g'.fr p _ upd_same (R.notR hp)
    have nR : ∀ l : Nat, w'.ρ[l]? ≠ some p := fun l q => by
      rcases g'.nw l p q with ⟨j, hj⟩ | q
      · exact R.notR hp j hj
      · rw [upd_same] at q; cases q
    have nB : w'.B p = none := by
      cases q : w'.B p with
      | none => rfl
      | some o =>
        rcases g'.nb p o q with q | ⟨q, _⟩
        · rw [R.freeB hp] at q; cases q
        · rw [upd_same] at q; cases q
    have g := g'.under hp
    refine ⟨hp', ys, rfl, by rw [← Paired.length rp]; exact hz, ?_⟩
    refine k (w'.more p) _ (.ref p) ?_ ((R'.other nB nR).adoptO upd_same nB nR ⟨_, rfl, Paired.mapP (paired_merge rp .nil) fun a b z => ⟨z.1, RelD.mono Wd.le_more _ _ z.2⟩⟩) ?_
    · refine ⟨g.le.le_trans Wd.le_more, fun a o e n => ?_, fun l a e => ?_, g.nb⟩
      · rw [upd_ne (ne_of_none e hp)]; exact g.fr a o e n
      · by_cases hl : l < w'.ρ.length
        · rw [show (w'.more p).ρ = w'.ρ ++ [p] from rfl, List.getElem?_append_left hl] at e; exact g.nw l a e
        · rw [show (w'.more p).ρ = w'.ρ ++ [p] from rfl, List.getElem?_append_right (by omega)] at e
          have := List.mem_of_getElem? e
          simp at this
          rw [this]; exact .inr hp
    · simp only [RelD]
      refine ⟨p, ?_, rfl⟩
      show (w'.ρ ++ [p])[S2.length]? = some p
      rw [← R'.len, List.getElem?_append_right (Nat.le_refl _)]
      simp
  · cases hv2
/-! operators -/
theorem sem_2 {f : Store → D → D → Option D} {t : TE} {op : E} (hop : ∀ env S, ev F op env S = (ev F ea env S).bind fun x S1 => (ev F eb env S1).bind fun y S2 => opt (f S2 x y) S2)
    (h : PE X e (tOp (Sem2 c f) (SemE c F ea) (SemE c F eb))) : PE X e (SemE c F op) := PE.imp h fun σ H Q ⟨w, S, env, d, S', R, RE, hv, k⟩ => by
  rw [hop] at hv
  refine SemE.bind (es := op) R RE hv fun d1 S1 w1 H1 v1 le1 R1 r1 RE1 h1 => ?_
  refine SemE.bind (es := op) R1 RE1 h1 fun d2 S2 w2 H2 v2 le2 R2 r2 RE2 h2 => ?_
  obtain ⟨h2, rfl⟩ := opt_eq h2
  exact ⟨w2, S', d1, d2, d, R2, r1.mono le2.le, r2, h2, fun w3 H3 v3 le3 R3 r3 => k w3 H3 v3 ((le1.trans le2).trans le3) R3 r3⟩
theorem sem_bin {o : BOp} (hK : X.K = c.K) (ha : PE X a (SemE c F ea)) (hb : PE X b (SemE c F eb)) : PE X (.BinOp a (opOf o) b pos) (SemE c F (.bin o ea eb)) :=
  sem_2 (t := fun _ _ _ => True) (fun env S => by simp only [ev]; rfl) (pe_op (op_S hK o) ha hb)
theorem sem_cmp {o : COp} (hK : X.K = c.K) (hu : X.A.units + 65 < cLine) (ha : PE X a (SemE c F ea)) (hb : PE X b (SemE c F eb)) (hm : behindInMarks (copOf o) b = false) : PE X (.Compare a [copOf o] [b] pos) (SemE c F (.cmp o ea eb)) :=
  sem_2 (t := fun _ _ _ => True) (fun env S => by simp only [ev]; rfl) (pe_cmpR (cop_S hK hu o) ha hb hm)
theorem SemE.test {e : E} {σ : St} {H : Hp} {Q : Bool → Hp → Prop} (h : SemT c F e σ H Q) : SemE c F e σ H fun x H' => ∃ k, x = .bl k ∧ Q k H' := by
  obtain ⟨w, S, env, b, S', R, RE, hv, k⟩ := h
  refine ⟨w, S, env, .bl b, S', R, RE, hv, fun w' H' v le R' r => ?_⟩
  simp only [RelD] at r
  exact ⟨b, r, k w' H' le R'⟩
theorem tst_val (h : PE X e (SemE c F ee)) (he : ∀ whole, isTrue e X.env whole = (do let v ← whole; standAt e.pos; holding [v] (truthy v))) : PT X e (SemT c F ee) :=
  PT.imp (pt_val h he) fun σ H Q q => SemE.test q
theorem tst_cmp {o : COp} (hK : X.K = c.K) (hu : X.A.units + 65 < cLine) (ha : PE X a (SemE c F ea)) (hb : PE X b (SemE c F eb)) (hm : behindInMarks (copOf o) b = false) : PT X (.Compare a [copOf o] [b] pos) (SemT c F (.cmp o ea eb)) :=
  PT.imp (pt_cmpR (cop_S hK hu o) ha hb hm) fun σ H Q q => by
    obtain ⟨w, S, env, d, S', R, RE, hv, k⟩ := SemE.test q
    simp only [ev] at hv
    refine SemE.bind (es := ea) R RE hv fun d1 S1 w1 H1 v1 le1 R1 r1 RE1 h1 => ?_
    refine SemE.bind (es := ea) R1 RE1 h1 fun d2 S2 w2 H2 v2 le2 R2 r2 RE2 h2 => ?_
    obtain ⟨h2, rfl⟩ := opt_eq h2
    exact ⟨w2, S', d1, d2, d, R2, r1.mono le2.le, r2, h2, fun w3 H3 v3 le3 R3 r3 => k w3 H3 v3 ((le1.trans le2).trans le3) R3 r3⟩
theorem chain_imp {o o' : COp} {cc : Expr} {ec : E} {σ : St} {H : Hp} {Q : VK} (h : SemE c F (.chain o o' ea eb ec) σ H Q) :
    tChain (Sem2 c (fCmp o)) (Sem2 c (fCmp o')) (SemE c F ea) (SemE c F eb) (SemE c F ec) σ H Q := by
  obtain ⟨w, S, env, d, S', R, RE, hv, k⟩ := h
  simp only [ev] at hv
  refine SemE.bind (es := ea) R RE hv fun d1 S1 w1 H1 v1 le1 R1 r1 RE1 h1 => ?_
  refine SemE.bind (es := ea) R1 RE1 h1 fun d2 S2 w2 H2 v2 le2 R2 r2 RE2 h2 => ?_
  obtain ⟨kk, S3, h3, h4⟩ := Res.bind_eq h2
  obtain ⟨h3, rfl⟩ := opt_eq h3
  refine ⟨w2, S3, d1, d2, .bl kk, R2, r1.mono le2.le, r2, by unfold fCmp; rw [h3]; rfl, fun w3 H3 v3 le3 R3 r3 => ?_⟩
  simp only [RelD] at r3
  refine ⟨kk, r3, ?_⟩
  have le13 := (le1.trans le2).trans le3
  cases kk with
  | true =>
    rw [if_pos rfl]
    refine SemE.bind (es := ea) R3 (RE.mono le13.le) h4 fun d4 S4 w4 H4 v4 le4 R4 r4 RE4 h5 => ?_
    obtain ⟨h5, rfl⟩ := opt_eq h5
    exact ⟨w4, S', d2, d4, d, R4, r2.mono (le3.trans le4).le, r4, h5, fun w5 H5 v5 le5 R5 r5 => k w5 H5 v5 ((le13.trans le4).trans le5) R5 r5⟩
  | false =>
    rw [if_neg (by decide)]
    cases h4
    exact k w3 H3 _ le13 R3 (by simp only [RelD])
theorem sem_chain {o o' : COp} {cc : Expr} {ec : E} (hK : X.K = c.K) (hu : X.A.units + 65 < cLine) (ha : PE X a (SemE c F ea)) (hb : PE X b (SemE c F eb)) (hc : PE X cc (SemE c F ec)) (hm : lastMarks [copOf o, copOf o'] [b, cc] = false) :
    PE X (.Compare a [copOf o, copOf o'] [b, cc] pos) (SemE c F (.chain o o' ea eb ec)) :=
  PE.imp (pe_chain (cop_S hK hu o) (cop_S hK hu o') ha hb hc hm) fun σ H Q h => chain_imp (cc := cc) h
theorem tst_chain {o o' : COp} {cc : Expr} {ec : E} (hK : X.K = c.K) (hu : X.A.units + 65 < cLine) (ha : PE X a (SemE c F ea)) (hb : PE X b (SemE c F eb)) (hc : PE X cc (SemE c F ec)) (hm : lastMarks [copOf o, copOf o'] [b, cc] = false) :
    PT X (.Compare a [copOf o, copOf o'] [b, cc] pos) (SemT c F (.chain o o' ea eb ec)) :=
  PT.imp (pt_chain (cop_S hK hu o) (cop_S hK hu o') ha hb hc hm) fun σ H Q h => by
    have h2 := SemE.test h
    exact chain_imp (cc := cc) h2
theorem sem_neg (ha : PE X a (SemE c F ea)) : PE X (.UnaryOp .USub a pos) (SemE c F (.neg ea)) := PE.imp (pe_un un_neg ha) fun σ H Q ⟨w, S, env, d, S', R, RE, hv, k⟩ => by
  simp only [ev] at hv
  refine SemE.bind (es := ea) R RE hv fun d1 S1 w1 H1 v1 le1 R1 r1 RE1 h1 => ?_
  cases d1 <;> (try simp only at h1) <;> try (cases h1; done)
  cases h1
  simp only [RelD] at r1
  exact ⟨_, r1, k w1 H1 _ le1 R1 (by simp only [RelD])⟩
/-! and, or, not, conditional -/
theorem sem_and {rest : List Expr} (ha : PE X a (SemE c F ea)) (hb : PE X (.BoolOp .And (b :: rest) pos) (SemE c F eb)) : PE X (.BoolOp .And (a :: b :: rest) pos) (SemE c F (.and ea eb)) :=
  PE.imp (pe_and ha hb) fun σ H Q ⟨w, S, env, d, S', R, RE, hv, k⟩ => by
    simp only [ev] at hv
    refine SemE.bind (es := ea) R RE hv fun d1 S1 w1 H1 v1 le1 R1 r1 RE1 h1 => ?_
    cases d1 <;> (try simp only at h1) <;> try (cases h1; done)
    rename_i kk
    simp only [RelD] at r1
    refine ⟨kk, r1, ?_⟩
    cases kk with
    | true => rw [if_pos rfl]; exact ⟨w1, S1, env, d, S', R1, RE1, h1, fun w2 H2 v2 le2 R2 r2 => k w2 H2 v2 (le1.trans le2) R2 r2⟩
    | false => rw [if_neg (by decide)]; cases h1; exact k w1 H1 _ le1 R1 (by simp only [RelD])
theorem sem_or {rest : List Expr} (ha : PE X a (SemE c F ea)) (hb : PE X (.BoolOp .Or (b :: rest) pos) (SemE c F eb)) : PE X (.BoolOp .Or (a :: b :: rest) pos) (SemE c F (.or ea eb)) :=
  PE.imp (pe_or ha hb) fun σ H Q ⟨w, S, env, d, S', R, RE, hv, k⟩ => by
    simp only [ev] at hv
    refine SemE.bind (es := ea) R RE hv fun d1 S1 w1 H1 v1 le1 R1 r1 RE1 h1 => ?_
    cases d1 <;> (try simp only at h1) <;> try (cases h1; done)
    rename_i kk
    simp only [RelD] at r1
    refine ⟨kk, r1, ?_⟩
    cases kk with
    | true => rw [if_pos rfl]; cases h1; exact k w1 H1 _ le1 R1 (by simp only [RelD])
    | false => rw [if_neg (by decide)]; exact ⟨w1, S1, env, d, S', R1, RE1, h1, fun w2 H2 v2 le2 R2 r2 => k w2 H2 v2 (le1.trans le2) R2 r2⟩
theorem sem_not (ha : PE X a (SemE c F ea)) : PE X (.UnaryOp .Not a pos) (SemE c F (.not ea)) :=
  PE.imp (pe_not ha) fun σ H Q ⟨w, S, env, d, S', R, RE, hv, k⟩ => by
    simp only [ev] at hv
    refine SemE.bind (es := ea) R RE hv fun d1 S1 w1 H1 v1 le1 R1 r1 RE1 h1 => ?_
    cases d1 <;> (try simp only at h1) <;> try (cases h1; done)
    cases h1
    simp only [RelD] at r1
    exact ⟨_, r1, k w1 H1 _ le1 R1 (by simp only [RelD])⟩
/-- a test's part, then the rest -/
theorem SemT.bind {e : E} {k : Bool → Store → Res D} {env : Env} {w : Wd} {S : Store} {H : Hp} {σ : St} {d : D} {S' : Store} {Q : Bool → Hp → Prop} (R : Rel c w S H) (RE : RelEnv c w env σ)
    (h : ((ev F e env S).bind fun x S1 => match x with | .bl true => k true S1 | .bl false => k false S1 | _ => .bad) = .ok d S')
    (g : ∀ b S1 w1 H1, Go w H w1 H1 → Rel c w1 S1 H1 → RelEnv c w1 env σ → k b S1 = .ok d S' → Q b H1) : SemT c F e σ H Q := by
  obtain ⟨d1, S1, e1, e2⟩ := Res.bind_eq h
  cases d1 <;> (try simp only at e2) <;> try (cases e2; done)
  rename_i b
  refine ⟨w, S, env, b, S1, R, RE, e1, fun w1 H1 le R1 => g b S1 w1 H1 le R1 (RE.mono le.le) ?_⟩
  cases b <;> exact e2
theorem tst_and {rest : List Expr} {tb : TT} (ha : PT X a (SemT c F ea)) (hb : PW X (.BoolOp .And (b :: rest) pos) (SemT c F eb)) : PW X (.BoolOp .And (a :: b :: rest) pos) (SemT c F (.and ea eb)) :=
  PW.imp (pw_and ha hb) fun σ H Q ⟨w, S, env, b, S', R, RE, hv, k⟩ => by
    simp only [ev] at hv
    refine SemT.bind (k := fun kk S1 => match kk with | true => ev F eb env S1 | false => .ok (.bl false) S1) R RE hv fun kk S1 w1 H1 le1 R1 RE1 h1 => ?_
    cases kk with
    | true => rw [if_pos rfl]; exact ⟨w1, S1, env, b, S', R1, RE1, h1, fun w2 H2 le2 R2 => k w2 H2 (le1.trans le2) R2⟩
    | false => rw [if_neg (by decide)]; cases h1; exact k w1 H1 le1 R1
theorem tst_or {rest : List Expr} (ha : PT X a (SemT c F ea)) (hb : PW X (.BoolOp .Or (b :: rest) pos) (SemT c F eb)) : PW X (.BoolOp .Or (a :: b :: rest) pos) (SemT c F (.or ea eb)) :=
  PW.imp (pw_or ha hb) fun σ H Q ⟨w, S, env, b, S', R, RE, hv, k⟩ => by
    simp only [ev] at hv
    have hv' : ((ev F ea env S).bind fun x S1 => match x with | .bl true => (fun kk S1 => match kk with | true => Res.ok (D.bl true) S1 | false => ev F eb env S1) true S1 | .bl false => (fun kk S1 => match kk with | true => Res.ok (D.bl true) S1 | false => ev F eb env S1) false S1 | _ => .bad) = .ok (.bl b) S' := by
      rw [← hv]
      congr 1
      funext x S1
      cases x <;> try rfl
      rename_i kk
      cases kk <;> rfl
    refine SemT.bind (k := fun kk S1 => match kk with | true => Res.ok (D.bl true) S1 | false => ev F eb env S1) R RE hv' fun kk S1 w1 H1 le1 R1 RE1 h1 => ?_
    cases kk with
    | true => rw [if_pos rfl]; cases h1; exact k w1 H1 le1 R1
    | false => rw [if_neg (by decide)]; exact ⟨w1, S1, env, b, S', R1, RE1, h1, fun w2 H2 le2 R2 => k w2 H2 (le1.trans le2) R2⟩
theorem tst_not (ha : PT X a (SemT c F ea)) : PT X (.UnaryOp .Not a pos) (SemT c F (.not ea)) :=
  PT.imp (pt_not ha) fun σ H Q ⟨w, S, env, b, S', R, RE, hv, k⟩ => by
    simp only [ev] at hv
    have hv' : ((ev F ea env S).bind fun x S1 => match x with | .bl true => (fun kk S1 => Res.ok (D.bl (!kk)) S1) true S1 | .bl false => (fun kk S1 => Res.ok (D.bl (!kk)) S1) false S1 | _ => .bad) = .ok (.bl b) S' := by
      rw [← hv]
      congr 1
      funext x S1
      cases x <;> try rfl
      rename_i kk
      cases kk <;> rfl
    refine SemT.bind (k := fun kk S1 => Res.ok (D.bl (!kk)) S1) R RE hv' fun kk S1 w1 H1 le1 R1 RE1 h1 => ?_
    cases h1
    exact k w1 H1 le1 R1
theorem sem_ite {t : Expr} {et : E} (ht : PT X t (SemT c F et)) (ha : PE X a (SemE c F ea)) (hb : PE X b (SemE c F eb)) : PE X (.IfExp t a b pos) (SemE c F (.ite et ea eb)) :=
  PE.imp (pe_ifExp ht ha hb) fun σ H Q ⟨w, S, env, d, S', R, RE, hv, k⟩ => by
    simp only [ev] at hv
    refine SemT.bind (k := fun kk S1 => match kk with | true => ev F ea env S1 | false => ev F eb env S1) R RE hv fun kk S1 w1 H1 le1 R1 RE1 h1 => ?_
    cases kk with
    | true => rw [if_pos rfl]; exact ⟨w1, S1, env, d, S', R1, RE1, h1, fun w2 H2 v2 le2 R2 r2 => k w2 H2 v2 (le1.trans le2) R2 r2⟩
    | false => rw [if_neg (by decide)]; exact ⟨w1, S1, env, d, S', R1, RE1, h1, fun w2 H2 v2 le2 R2 r2 => k w2 H2 v2 (le1.trans le2) R2 r2⟩
/-! subscripts, slices -/
theorem sem_ix (hK : X.K = c.K) (hu : X.A.units + 65 < cLine) (ha : PE X a (SemE c F ea)) (hb : PE X b (SemE c F eb)) (hs : PlainIx b) : PE X (.Subscript a b pos) (SemE c F (.ix ea eb)) :=
  sem_2 (t := fun _ _ _ => True) (f := fIx) (fun env S => by simp only [ev]; rfl) (pe_ix (ix_S hK hu) ha hb hs)
def SemP (c : Cfg) (F : Fn) (es : List E) : TO := fun σ H Q => ∃ w S env ds o S', Rel c w S H ∧ RelEnv c w env σ ∧ evs F es env S = .ok ds S' ∧ partD ds = some o ∧ ∀ w' H', Go w H w' H' → Rel c w' S' H' → Q o H'
theorem PO.imp {e : Option Expr} {t t' : TO} (h : PO X e t) (i : ∀ σ H Q, t' σ H Q → t σ H Q) : PO X e t' := ⟨fun pins s σ H Q I q => h.run pins s σ H Q I (i σ H Q q)⟩
theorem part_none : PO X none (SemP c F []) := PO.imp po_none fun σ H Q ⟨w, S, env, ds, o, S', R, RE, hv, hp, k⟩ => by
  simp only [evs] at hv
  cases hv
  cases hp
  exact k w H Go.refl R
theorem part_some (h : PE X e (SemE c F ee)) : PO X (some e) (SemP c F [ee]) := PO.imp (po_some h) fun σ H Q ⟨w, S, env, ds, o, S', R, RE, hv, hp, k⟩ => by
  simp only [evs] at hv
  obtain ⟨d1, S1, e1, e2⟩ := Res.bind_eq hv
  cases e2
  refine ⟨w, S, env, d1, S', R, RE, e1, fun w1 H1 v1 le1 R1 r1 => ?_⟩
  cases d1 <;> simp only [partD] at hp <;> try (cases hp; done)
  cases hp
  simp only [RelD] at r1
  exact ⟨_, r1, k w1 H1 le1 R1⟩
theorem sem_sl {lo hi : Option Expr} {el eh : List E} {p2 : Pos} (hK : X.K = c.K) (ha : PE X a (SemE c F ea)) (hl : PO X lo (SemP c F el)) (hh : PO X hi (SemP c F eh)) : PE X (.Subscript a (.Slice lo hi none p2) pos) (SemE c F (.sl ea el eh)) :=
  PE.imp (pe_slice (sl_S hK) ha hl hh) fun σ H Q ⟨w, S, env, d, S', R, RE, hv, k⟩ => by
    simp only [ev] at hv
    refine SemE.bind (es := ea) R RE hv fun d1 S1 w1 H1 v1 le1 R1 r1 RE1 h1 => ?_
    obtain ⟨l, S2, e2, h2⟩ := Res.bind_eq h1
    obtain ⟨l', S2', e3, h3⟩ := Res.bind_eq h2
    obtain ⟨g3, rfl⟩ := opt_eq e3
    refine ⟨w1, S1, env, l, l', S2', R1, RE1, e2, g3, fun w2 H2 le2 R2 => ?_⟩
    obtain ⟨u, S3, e4, h4⟩ := Res.bind_eq h3
    obtain ⟨u', S3', e5, h5⟩ := Res.bind_eq h4
    obtain ⟨g5, rfl⟩ := opt_eq e5
    obtain ⟨g6, rfl⟩ := opt_eq h5
    refine ⟨w2, S2', env, u, u', S', R2, RE1.mono le2.le, e4, g5, fun w3 H3 le3 R3 => ?_⟩
    exact ⟨w3, S', d1, d, R3, r1.mono (le2.trans le3).le, g6, fun w4 H4 v4 le4 R4 r4 => k w4 H4 v4 (((le1.trans le2).trans le3).trans le4) R4 r4⟩
end
end MP

/-! MPG: defs that are run inside no repr (the guards are known to be none). -/
namespace MP
open PySem PySem.Spec PyProof.Rows L2

/-- what a def promises where no repr is under way; it lets no exception out -/
structure FnG (P : Program) (w : World) (K : PySem.W.Frag) (mg : Str → Option Value) (base : Heap)
    (k : Nat) (f : Addr) (fd : FuncData) (ps : List Str) (sp : Sp) : Prop where
  many : ∀ vs H Q E, sp vs H Q E → vs.length = ps.length
  go : ∀ (A : Around) (outer : List PySem.Env) (s : Shared) (H : Hp) (args : Args) (us : List Value) (vs : List V) (Q : VK) (E : XK),
    Room k A ∧ A.guards = some [] → Env0 P w K mg base A outer s H → BindsTo s fd args (ps.zip us) → Vals vs us → sp vs H Q E →
      codeAny (model P w) A (.call (.ref f) args) (CR (L2.CX P w) outer P w H s Q E) s
/-- only a value ends such a call -/
theorem end_cases {outer : List PySem.Env} {P : Program} {w : World} {H : Hp} {s s' : Shared} {Q : VK} {E : XK} {r : Result}
    (h : CR (L2.CX P w) outer P w H s Q E r s') (hE : ∀ cls d H', ¬ E cls d H') : ∃ u, r = .ok (.ret u) ∧ CE outer P w H s Q u s' := by
  match r, h with
  | .ok (.ret u), h => exact ⟨u, rfl, h⟩
  | .error e, ⟨_, _, _, _, _, _, _, _, _, _, _, _, q⟩ => exact (hE _ _ _ q).elim
/-- nothing is to leave -/
def NoE : XK := fun _ _ _ => False
theorem noE : ∀ cls d H', ¬ NoE cls d H' := fun _ _ _ h => h
section
variable {X : Cx} {k n : Nat} {f : Addr} {fd : FuncData} {ps ks : List Str} {sp : Sp} {E : XK} {x : Str} {p pos : Pos} {e : Expr}
  {es : List Expr} {kws : List Keyword} {t tk : TA} {pins : List (Addr × Obj)} {σ : L2.St} {H : Hp} {s : Shared} {Q : VK}
theorem FnG.called {us ws : List Value} {vs : List V} {kw : List (Str × Value)} (F : FnG X.prog X.w X.K X.mg X.base k f fd ps sp)
    (hr : Room k X.A ∧ X.A.guards = some []) (I : Inv X pins σ H s) (hb : BindsTo s fd ⟨us, kw⟩ (ps.zip ws)) (rv : Vals vs ws)
    (hs : sp vs H Q E) (hE : ∀ cls d H', ¬ E cls d H') : wpAny (model X.prog X.w) X.A (call (.ref f) us kw) (EP X pins σ Q) X.xe s := by
  have q := F.go X.A X.stack s H ⟨us, kw⟩ ws vs Q E hr I.env0 hb rv hs
  refine wpAny_call (codeAny_mono q fun r s' hq => ?_)
  obtain ⟨u, rfl, hu⟩ := end_cases hq hE
  exact I.after hu
/-- f(e, ..) -/
theorem pg_call (F : FnG X.prog X.w X.K X.mg X.base k f fd ps sp) (hr : Room k X.A ∧ X.A.guards = some []) (hg : Gl X x)
    (hm : X.mg x = some (.ref f)) (hk : PySem.W.keepIn X.K (.ref f) = true) (hb : Binds X.K fd ps []) (ha : PA X (e :: es) t)
    (hdb : (x == ("__debug__" : Str)) = false) (he : starEach (e :: es) X.env = (false, eval e X.env) :: starEach es X.env)
    (hpl : (backTo pos (starEach es X.env)).any (·.1) = false) : PE X (.Call (.Name x p) (e :: es) [] pos) (tCall sp [] NoE t) := by
  constructor
  intro pins s σ H Q I h
  apply wpAny_Call_Name_kw
  apply ld_glob I hg hm _ hdb
  apply PySem.W.callWith_K (h₀ := X.base) I.ok.mod.kin hk _ he hpl
  apply thn (ha.run pos pins s σ H _ I h)
  rintro us s1 ⟨vs, H1, I1, r, q⟩
  rw [List.append_nil] at q
  have hl : (us ++ []).length = ps.length := by rw [List.append_nil, ← r.length]; exact F.many _ _ _ _ q
  have b := hb s1 us I1.kIn hl
  rw [List.append_nil] at b
  exact ⟨I1.kIn, F.called hr I1 b r q noE⟩
theorem pg_call0 (F : FnG X.prog X.w X.K X.mg X.base k f fd ps sp) (hr : Room k X.A ∧ X.A.guards = some []) (hg : Gl X x)
    (hm : X.mg x = some (.ref f)) (hk : PySem.W.keepIn X.K (.ref f) = true) (hb : Binds X.K fd ps [])
    (hdb : (x == ("__debug__" : Str)) = false) : PE X (.Call (.Name x p) [] [] pos) (tCall sp [] NoE tNil) := by
  constructor
  intro pins s σ H Q I h
  apply wpAny_Call_Name_kw
  apply ld_glob I hg hm _ hdb
  have hl : ([] ++ [] : List Value).length = ps.length := by
    have h0 := F.many _ _ _ _ h
    simpa using h0
  exact PySem.W.callWith_K0 I.kIn hk (F.called (us := []) (ws := []) hr I (hb s [] I.kIn hl) .nil h noE)
/-- f(e, .., k = v, ..) -/
theorem pg_callN {g : List Value → List Value → List Value} {gV : List V → List V → List V} (F : FnG X.prog X.w X.K X.mg X.base k f fd ps sp)
    (hr : Room k X.A ∧ X.A.guards = some []) (hg : Gl X x) (hm : X.mg x = some (.ref f)) (hk : PySem.W.keepIn X.K (.ref f) = true)
    (hb : KBn X.K fd ps n ks g gV) (ha : PA X (e :: es) t) (hkw : PK X kws tk)
    (hall : (backToKw pos (keywordEach kws X.env)).all (·.1.isSome) = true) (hks : (backToKw pos (keywordEach kws X.env)).filterMap (·.1) = ks)
    (hdb : (x == ("__debug__" : Str)) = false) (he : starEach (e :: es) X.env = (false, eval e X.env) :: starEach es X.env)
    (hpl : ((backTo pos (starEach (e :: es) X.env)).any (·.1) || (backToKw pos (keywordEach kws X.env)).any (·.1.isNone)) = false) :
    PE X (.Call (.Name x p) (e :: es) kws pos) (tCallN n ks.length sp gV NoE t tk) := by
  constructor
  intro pins s σ H Q I h
  apply wpAny_Call_Name_kw
  apply ld_glob I hg hm _ hdb
  apply PySem.W.callWith_KW (h₀ := X.base) I.ok.mod.kin hk hall _ hpl he
  apply thn (ha.run pos pins s σ H _ I h)
  rintro us s1 ⟨vs, H1, I1, r, q⟩
  apply thn (hkw.run pos pins s1 σ H1 _ I1 q)
  rintro ws s2 ⟨zs, H2, I2, rz, l1, l2, q2⟩
  rw [hks]
  exact ⟨I2.kIn, F.called hr I2 (hb.to s2 us ws I2.kIn (r.length.symm.trans l1) (rz.length.symm.trans l2)) (hb.rel r rz) q2 noE⟩
/-- f(e, ..), f a local name -/
theorem pg_callL {i : Nat} (F : FnG X.prog X.w X.K X.mg X.base k f fd ps sp) (hr : Room k X.A ∧ X.A.guards = some []) (hN : X.N[i]? = some x)
    (hv : Vis X.env.scope x) (hk : PySem.W.keepIn X.K (.ref f) = true) (hb : Binds X.K fd ps []) (ha : PA X (e :: es) t)
    (hdb : (x == ("__debug__" : Str)) = false) (hcd : (x == ("__classdict__" : Str)) = false)
    (he : starEach (e :: es) X.env = (false, eval e X.env) :: starEach es X.env) (hpl : (backTo pos (starEach es X.env)).any (·.1) = false) :
    PE X (.Call (.Name x p) (e :: es) [] pos) (tCallL i f sp [] NoE t) := by
  constructor
  rintro pins s σ H Q I ⟨hs, ht⟩
  apply wpAny_Call_Name_kw
  apply thn ((pe_var (pos := p) hN hv hdb hcd).run pins s σ H (fun v H1 => v = .ref f ∧ H1 = H) I ⟨.ref f, hs, rfl, rfl⟩)
  rintro u s1 ⟨v, H1, I1, r1, rfl, rfl⟩
  cases r1
  apply PySem.W.callWith_K (h₀ := X.base) I.ok.mod.kin hk _ he hpl
  apply thn (ha.run pos pins s1 σ _ _ I1 ht)
  rintro us s2 ⟨vs, H2, I2, r, q⟩
  rw [List.append_nil] at q
  have hl : (us ++ []).length = ps.length := by rw [List.append_nil, ← r.length]; exact F.many _ _ _ _ q
  have b := hb s2 us I2.kIn hl
  rw [List.append_nil] at b
  exact ⟨I2.kIn, F.called hr I2 b r q noE⟩
end
section
variable {P : Program} {w : World} {K : PySem.W.Frag} {mg : Str → Option Value} {base : Heap} {f : Addr} {fd : FuncData} {sp : Sp}
/-- a def of the text, by its body -/
theorem fnG_of {x qual : Str} {params : Arguments} {body : List Stmt} {scope : Scope} {dvs : List V} {kws : List (Str × V)} {N ps : List Str} {k : Nat}
    (D : FunD K x qual params body scope dvs kws f fd) (S : FnScope N ps scope) (many : ∀ vs H Q E, sp vs H Q E → vs.length = ps.length)
    (hbody : ∀ (cdv : Value) (A : Around) (outer : List PySem.Env) (s : Shared) (H : Hp) (vs : List V) (Q : VK) (E : XK),
      (Room k (A.deeper (envOfC qual scope s.heap.objs.size f cdv)) ∧ A.guards = some []) ∧ K.In base → sp vs H Q E →
      ∃ t, PSs (cxOf (L2.CX P w) P w K mg base N qual scope f cdv A outer s H E) body t ∧ t { nx := fun _ H' => Q .non H', rt := Q } (start N vs) H) :
    FnG P w K mg base (k + 1) f fd ps sp := by
  obtain ⟨oc, od, dV, kV, doc, pm, an, cdv, ct, osl, rfl, lk, hcd, _, _⟩ := D.ex
  constructor
  · exact many
  rintro A outer s H args us vs Q E ⟨hr, hg⟩ e0 hb r hsp
  have old : ∀ b o, base.get? b = some o → s.heap.get? b = some o := fun b o e => (e0.bs b o e).1
  have KX : K.In s.heap := e0.mod.kin.keeps old
  have lim : s.heap.NoLimit := e0.mod.nolimit.keeps old
  apply codeAny_call_function hr.depth (KX _ _ lk) rfl S.co S.gen rfl (PySem.W.codeRec_of KX hcd)
  apply hb
  apply wpAny_newFunctionEnv_cells S.kind
  · rintro ⟨nm, v⟩ hy
    rcases S.par nm (List.of_mem_zip hy).1 with q | q
    · left; exact q
    · right; exact ⟨q, PySem.W.cellsFrom_some _ _ _ (.inl q)⟩
  rintro env rfl s1 x1
  refine ⟨lim.keeps x1.toInCall.keep, codeAny_func ?_⟩
  obtain ⟨t, ht, hq⟩ := hbody cdv A outer s H vs Q E ⟨⟨hr.deeper _, hg⟩, e0.mod.kin⟩ hsp
  have I : Inv (cxOf (L2.CX P w) P w K mg base N qual scope f cdv A outer s H E) [] (start N vs) H s1 := inv_start S hr.hd e0 (many _ _ _ _ hsp) r x1
  have done : ∀ {σ' : L2.St} {H' : Hp} {s' : Shared} {v : V} {u : Value}, Inv (cxOf (L2.CX P w) P w K mg base N qual scope f cdv A outer s H E) [] σ' H' s' →
      RelV v u → Q v H' → CE outer P w H s Q u s' := fun {σ' H' s' v u} J rv q => ⟨v, H', J.os, J.bare, J.base, J.hok, rv, q⟩
  apply wpAny_mono (ht.run [] s1 (start N vs) H _ I hq)
  · intro fl s' hs
    match fl, hs with
    | .ret u, ⟨v, σ', H', J, rv, q⟩ => exact done J rv q
    | .next, ⟨σ', H', J, q⟩ => exact done (v := V.non) (u := Value.none) J rfl q
    | .brk, ⟨_, _, _, q⟩ => exact q.elim
    | .cont, ⟨_, _, _, q⟩ => exact q.elim
  · exact fun _ _ hs => hs
/-- the law's call, behind the top -/
theorem law_callG {mb : Str → Option Value} {k : Nat} {fa a : Addr} {x : Str} {s₁ : Shared} {vs : List Value} {ns : List Int}
    (KX : K.In s₁.heap) (hns : s₁.heap.Ns mainGlobals mg) (hb : s₁.heap.Ns builtinsNs mb)
    (hbb : ∀ x : Str, x ≠ "__name__" → mb x = bootBuiltins x) (hlim : s₁.heap.NoLimit) (hg : s₁.gens = #[])
    (ha : s₁.heap.get? a = some { cls := .type "list", data := .seq vs.toArray }) (hi : IntsAre vs ns) (hl : ns.length ≤ sizeLine) (hr : Room k callerA)
    (F : ∀ bs : Heap, K.In bs → bs.Ns mainGlobals mg → FnG P w K mg bs k fa fd [x] sp)
    (hbind : ∀ (s : Shared) (u : Value), BindsTo s fd ⟨[u], []⟩ [(x, u)])
    (hsp : ∀ H : Hp, Only H → SqL K H a (ns.map V.int) → sp [.ref a] H (fun v _ => v = .bl true) fun _ _ _ => False) :
    codeAny (model P w) callerA (.call (.ref fa) ⟨[.ref a], []⟩)
      (fun r s' => r = .ok (.ret (.bool true)) ∧ OldK s₁.heap s'.heap ∧ s'.os = s₁.os ∧ AllBare s'.gens) s₁ := by
  have rv := vals_ints hi
  have run : ∀ H : Hp, Only H → SqL K H a (ns.map V.int) → HOk P w H s₁.heap → (∀ b, H b ≠ none → b = a ∧ K.lookup a = none) →
      codeAny (model P w) callerA (.call (.ref fa) ⟨[.ref a], []⟩)
        (fun r s' => r = .ok (.ret (.bool true)) ∧ OldK s₁.heap s'.heap ∧ s'.os = s₁.os ∧ AllBare s'.gens) s₁ := by
    intro H hO hS hok hA
    have free : ∀ {b : Addr} {o : Obj}, s₁.heap.get? b = some o → (b = a → K.lookup a = none → False) → H b = none := fun {b o} e h => by
      by_cases q : H b = none
      · exact q
      · obtain ⟨e1, e2⟩ := hA b q
        exact (h e1 e2).elim
    have nsK : ∀ {b : Addr} {m : Str → Option Value}, s₁.heap.Ns b m → (hidT s₁.heap H).Ns b m := by
      rintro b m ⟨o, es, ep, e, d, r⟩
      refine ⟨o, es, ep, hidT_get e (free e fun eb _ => ?_), d, r⟩
      subst eb
      rw [ha] at e
      cases e
      cases d
    have hKb : K.In (hidT s₁.heap H) := fun b o e => hidT_get (KX b o e) (free (KX b o e) fun eb e2 => by
      subst eb
      rw [e2] at e
      cases e)
    obtain ⟨mc, m1, m2⟩ := hlim
    have hM : Mod K mg (hidT s₁.heap H) := ⟨hKb, nsK hns, ⟨mb, nsK hb, hbb⟩, mc, nsK m1, m2⟩
    have e0 : Env0 P w K mg (hidT s₁.heap H) callerA [] s₁ H :=
      { frames := rfl, mod := hM, bs := fun b o e => of_hidT e, bsz := Nat.le_of_eq (hidT_size _ _), funs := trivial, frf := fun b z => (by cases z), hok := hok, bare := .of_eq hg }
    have q := (F _ hKb (nsK hns)).go callerA [] s₁ H ⟨[.ref a], []⟩ [.ref a] [.ref a] _ _ ⟨hr, rfl⟩ e0 (hbind s₁ (.ref a)) (.cons rfl .nil) (hsp H hO hS)
    refine codeAny_mono q fun r s' h => ?_
    obtain ⟨u, rfl, v, H', os, bare, un, hok', r', (q' : v = .bl true)⟩ := end_cases h (fun _ _ _ z => z)
    subst q'
    obtain rfl : u = Value.bool true := r'
    refine ⟨rfl, OldK.of_keep fun b o e => ?_, os, bare⟩
    rcases hO b with z | ⟨ob, xs, z⟩
    · exact un.keep b o e z (fun y => by cases y) (by simp)
    · have e1 := (hok b _ z).1
      have e2 := (hok' b _ (un.frzs b ob _ z)).1
      rw [e] at e1
      cases e1
      exact e2
  by_cases hk : K.lookup a = none
  · let H0 : Hp := fun b => if b = a then some (.frz { cls := .type "list", data := .seq vs.toArray } (.lst (ns.map V.int))) else none
    have at_ : H0 a = some (.frz { cls := .type "list", data := .seq vs.toArray } (.lst (ns.map V.int))) := if_pos rfl
    have off : ∀ b, b ≠ a → H0 b = none := fun b h => if_neg h
    refine run H0 (fun b => ?_) (.inl (.inr ⟨_, at_⟩)) (fun b u z => ?_) fun b z => ⟨?_, hk⟩
    · rcases Decidable.em (b = a) with rfl | h
      · exact .inr ⟨_, _, at_⟩
      · exact .inl (off b h)
    · rcases Decidable.em (b = a) with rfl | h
      · rw [at_] at z
        cases z
        exact ⟨ha, by rw [List.length_map]; exact hl, vs, _, rv, ha⟩
      · rw [off b h] at z
        cases z
    · rcases Decidable.em (b = a) with h | h
      · exact h
      · exact (z (off b h)).elim
  · obtain ⟨o, ho⟩ := Option.ne_none_iff_exists'.mp hk
    have e := KX a o ho
    rw [ha] at e
    cases e
    refine run (fun _ => none) (fun _ => .inl rfl) (.inr ⟨_, vs.toArray, _, ho, rfl, rfl, rfl, ?_, by simpa using rv⟩) (fun b u z => by cases z) fun b z => (z rfl).elim
    rw [List.size_toArray, hi.length]
    exact hl
end
/-- a law: F gives the written part, the function object, the promise over every base -/
theorem walk_ofG {l : PySem.W.OpenLaw} {n k : Nat} {q : Program} {loose : List Str} {XP : (Str → Option Value) → Heap → Prop} {YP : World → Heap → Prop} {d : DefRec} {x : Str}
    (hn : l.most = some n) (hn2 : n ≤ sizeLine) (hdf : d.params.defaults = []) (hr : Room k callerA)
    (F : ∀ (w : World) (mg : Str → Option Value) (fa : Addr) (h : Heap), YP w h → h.Ns mainGlobals mg → mg d.name = some (.ref fa) →
      ∃ (K : PySem.W.Frag) (fd : FuncData) (sp : Sp), K.In h ∧ (∀ (s : Shared) (u : Value), BindsTo s fd ⟨[u], []⟩ [(x, u)]) ∧
        (∀ (H : Hp) (a : Addr) (ns : List Int), ns.length ≤ n → Only H → SqL K H a (ns.map V.int) → sp [.ref a] H (fun v _ => v = .bl true) fun _ _ _ => False) ∧
        ∀ bs : Heap, K.In bs → bs.Ns mainGlobals mg → FnG l.prog w K mg bs k fa fd [x] sp) :
    PySem.W.WalkO q loose XP YP l.row.toRowW d [] (fun f vs => PySem.call f vs) := by
  refine Att.attach_call hn hdf fun w s₀ s₁ mg mb fa o pm cd doc a vs ns G Y ho hd hcd hmg hobj hints hlen hg => ?_
  obtain ⟨K, fd, sp, KX, hb, hs, hF⟩ := F w mg fa _ Y G.T.g hmg
  apply law_callG KX G.T.g G.T.b G.T.builtins G.T.nolimit hg hobj hints (Nat.le_trans hlen hn2) hr hF hb
  exact fun H hO hS => hs H a ns hlen hO hS
end MP

/-! MP5: calls, built-ins, methods. -/
namespace MP
open PySem L2

/-- what a def of the plain machine promises -/
def WantR (c : Cfg) (w : Wd) (H : Hp) (Q : VK) (WX : XK) : Res D → Prop
  | .ok d S' => ∀ w' H' v, Go w H w' H' → Rel c w' S' H' → RelD c w' d v → Q v H'
  | .exc d S' => ∀ w' H' cls dd, Go w H w' H' → Rel c w' S' H' → ExR c w' d cls dd → WX cls dd H'
  | .bad => False
def spOf (c : Cfg) (fr : List D → Store → Res D) : Sp := fun vs H Q WX => ∃ w S ds, Rel c w S H ∧ RelDs c w ds vs ∧ WantR c w H Q WX (fr ds S)
theorem spOf.ok {c : Cfg} {fr : List D → Store → Res D} {vs : List V} {H : Hp} {Q : VK} {WX : XK} {w : Wd} {S S' : Store} {ds : List D} {d : D} (R : Rel c w S H) (r : RelDs c w ds vs) (h : fr ds S = .ok d S') (k : ∀ w' H' v, Go w H w' H' → Rel c w' S' H' → RelD c w' d v → Q v H') : spOf c fr vs H Q WX :=
  ⟨w, S, ds, R, r, by rw [h]; exact k⟩
structure Callee (c : Cfg) (F : Fn) (X : Cx) (i : Nat) : Prop where
  kp : PySem.W.keepIn X.K (.ref (c.fad i)) = true
  ex : ∃ k fd ps, (Room k X.A ∧ X.A.guards = some []) ∧ FnG X.prog X.w X.K X.mg X.base k (c.fad i) fd ps (spOf c (F i)) ∧ Binds X.K fd ps []
/-- one with keyword-only parameters, n positional ones -/
structure CalleeK (c : Cfg) (F : Fn) (X : Cx) (i n : Nat) (ks : List Str) : Prop where
  kp : PySem.W.keepIn X.K (.ref (c.fad i)) = true
  ex : ∃ k fd ps, (Room k X.A ∧ X.A.guards = some []) ∧ FnG X.prog X.w X.K X.mg X.base k (c.fad i) fd ps (spOf c (F i)) ∧ KBn X.K fd ps n ks (fun us ws => us ++ ws) (fun us ws => us ++ ws)
theorem evs_length {F : Fn} {env : Env} : ∀ {es : List E} {S : Store} {ds : List D} {S' : Store}, evs F es env S = .ok ds S' → ds.length = es.length
  | [], S, ds, S', h => by simp only [evs] at h; cases h; rfl
  | e :: es, S, ds, S', h => by
    simp only [evs] at h
    obtain ⟨d1, S1, e1, e2⟩ := Res.bind_eq h
    obtain ⟨d2, S2, e3, e4⟩ := Res.bind_eq e2
    cases e4
    simp only [List.length_cons, evs_length e3]
section
variable {X : Cx} {c : Cfg} {F : Fn} {a e : Expr} {es : List Expr} {ea : E} {ees : List E} {pos p : Pos} {x : Str}
theorem sem_call {i : Nat} (C : Callee c F X i) (hg : Gl X x) (hm : X.mg x = some (.ref (c.fad i))) (ha : PA X (a :: es) (SemA c F ees)) (hdb : (x == ("__debug__" : Str)) = false)
    (he : starEach (a :: es) X.env = (false, eval a X.env) :: starEach es X.env) (hpl : (backTo pos (starEach es X.env)).any (·.1) = false) : PE X (.Call (.Name x p) (a :: es) [] pos) (SemE c F (.call i ees)) := by
  obtain ⟨k, fd, ps, hr, hF, hb⟩ := C.ex
  refine PE.imp (pg_call hF hr hg hm C.kp hb ha hdb he hpl) fun σ H Q ⟨w, S, env, d, S', R, RE, hv, k⟩ => ?_
  simp only [ev] at hv
  refine SemA.bind R RE hv fun ds S1 w1 H1 vs le1 R1 rs _ hk => ?_
  rw [List.append_nil]
  exact spOf.ok R1 rs hk fun w2 H2 v2 le2 R2 r2 => k w2 H2 v2 (le1.trans le2) R2 r2
theorem sem_call0 {i : Nat} (C : Callee c F X i) (hg : Gl X x) (hm : X.mg x = some (.ref (c.fad i))) (hdb : (x == ("__debug__" : Str)) = false) : PE X (.Call (.Name x p) [] [] pos) (SemE c F (.call i [])) := by
  obtain ⟨k, fd, ps, hr, hF, hb⟩ := C.ex
  refine PE.imp (pg_call0 hF hr hg hm C.kp hb hdb) fun σ H Q ⟨w, S, env, d, S', R, RE, hv, k⟩ => ?_
  simp only [ev, evs, Res.bind_ok] at hv
  exact spOf.ok R .nil hv k
theorem sem_callk {i n : Nat} {ks : List Str} {kws : List Keyword} {eks : List E} (C : CalleeK c F X i n ks) (hg : Gl X x) (hm : X.mg x = some (.ref (c.fad i))) (ha : PA X (a :: es) (SemA c F ees)) (hkw : PK X kws (SemA c F eks))
    (hn : ees.length = n) (hk2 : eks.length = ks.length)
    (hall : (backToKw pos (keywordEach kws X.env)).all (·.1.isSome) = true) (hks : (backToKw pos (keywordEach kws X.env)).filterMap (·.1) = ks)
    (hdb : (x == ("__debug__" : Str)) = false) (he : starEach (a :: es) X.env = (false, eval a X.env) :: starEach es X.env)
    (hpl : ((backTo pos (starEach (a :: es) X.env)).any (·.1) || (backToKw pos (keywordEach kws X.env)).any (·.1.isNone)) = false) :
    PE X (.Call (.Name x p) (a :: es) kws pos) (SemE c F (.callk i ees eks)) := by
  obtain ⟨k, fd, ps, hr, hF, hb⟩ := C.ex
  refine PE.imp (pg_callN hF hr hg hm C.kp hb ha hkw hall hks hdb he hpl) fun σ H Q ⟨w, S, env, d, S', R, RE, hv, k⟩ => ?_
  simp only [ev] at hv
  obtain ⟨ds, S1, e1, e2⟩ := Res.bind_eq hv
  obtain ⟨zs, S2, e3, e4⟩ := Res.bind_eq e2
  refine ⟨w, S, env, ds, S1, R, RE, e1, fun w1 H1 vs le1 R1 rs => ⟨w1, S1, env, zs, S2, R1, RE.mono le1.le, e3, fun w2 H2 us le2 R2 ru => ?_⟩⟩
  have rs2 := rs.mono le2.le
  refine ⟨by rw [← rs2.length, evs_length e1, hn], by rw [← ru.length, evs_length e3, hk2], ?_⟩
  exact spOf.ok R2 (rs2.append ru) e4 fun w3 H3 v3 le3 R3 r3 => k w3 H3 v3 ((le1.trans le2).trans le3) R3 r3
theorem sem_callv {i : Nat} {fs : List Nat} (A : ∀ f ∈ fs, Callee c F X f) (hN : X.N[i]? = some x) (hv : Vis X.env.scope x) (ha : PA X (a :: es) (SemA c F ees)) (hdb : (x == ("__debug__" : Str)) = false) (hcd : (x == ("__classdict__" : Str)) = false)
    (he : starEach (a :: es) X.env = (false, eval a X.env) :: starEach es X.env) (hpl : (backTo pos (starEach es X.env)).any (·.1) = false) : PE X (.Call (.Name x p) (a :: es) [] pos) (SemE c F (.callv i fs ees)) := by
  refine ⟨fun pins s σ H Q I ⟨w, S, env, d, S', R, RE, hev, k⟩ => ?_⟩
  simp only [ev] at hev
  split at hev
  · rename_i f hf
    split at hev
    · rename_i hm
      obtain ⟨k', fd, ps, hr, hF, hb⟩ := (A f hm).ex
      obtain ⟨v, hs, rv⟩ := RE.2 i _ hf
      simp only [RelD] at rv
      subst rv
      refine (pg_callL (i := i) (f := c.fad f) hF hr hN hv (A f hm).kp hb ha hdb hcd he hpl).run pins s σ H Q I ⟨hs, ?_⟩
      refine SemA.bind R RE hev fun ds S1 w1 H1 vs le1 R1 rs _ hk => ?_
      rw [List.append_nil]
      exact spOf.ok R1 rs hk fun w2 H2 v2 le2 R2 r2 => k w2 H2 v2 (le1.trans le2) R2 r2
    · cases hev
  · cases hev
theorem blt_imp {b : Blt} {σ : St} {H : Hp} {Q : VK} (h : SemE c F (.blt b ees) σ H Q) : tCB (SemC c (fBlt b)) (SemA c F ees) σ H Q := by
  obtain ⟨w, S, env, d, S', R, RE, hv, k⟩ := h
  simp only [ev] at hv
  refine SemA.bind R RE hv fun ds S1 w1 H1 vs le1 R1 rs _ hk => ?_
  obtain ⟨hk, rfl⟩ := opt_eq hk
  exact ⟨w1, S', ds, d, R1, rs, hk, fun w2 H2 v2 le2 R2 r2 => k w2 H2 v2 (le1.trans le2) R2 r2⟩
/-- the name of a built-in, whether it is a class -/
def bltName : Blt → String × Bool
  | .len => ("len", false) | .isinst => ("isinstance", false) | .all => ("all", false) | .any => ("any", false) | .tuple => ("tuple", true) | .list => ("list", true)
  | .abs => ("abs", false) | .min => ("min", false) | .max => ("max", false) | .sorted => ("sorted", false) | .str => ("str", true) | .int => ("int", true) | .repr => ("repr", false) | .sset => ("sorted", false)
/-- {} that nobody changes -/
theorem Rel.newEmp {c : Cfg} {w : Wd} {S : Store} {H : Hp} (R : Rel c w S H) {p : Addr} (hp : H p = none) :
    Go w H (w.add p (.dK [])) (upd H p (.dK [])) ∧ Rel c (w.add p (.dK [])) S (upd H p (.dK [])) ∧ RelD c (w.add p (.dK [])) .emp (.ref p) := by
  refine ⟨Go.add (R.freeB hp) hp (R.notR hp), R.add hp _, ?_⟩
  simp only [RelD]
  exact ⟨p, rfl, (show upd w.B p (.dK []) p = some (.dK []) from upd_same)⟩
theorem sem_edict : PE X (.Dict [] [] pos) (SemE c F .edict) := PE.imp pe_dnewK fun σ H Q ⟨w, S, env, d, S', R, RE, hv, k⟩ => by
  simp only [ev] at hv
  cases hv
  intro p hp
  obtain ⟨z1, z2, z3⟩ := R.newEmp hp
  exact k _ _ _ z1 z2 z3
def bltOk : Blt → Bool
  | .sset => false
  | _ => true
theorem sem_blt {b : Blt} (hK : X.K = c.K) (hc : X.calm = true) (hgd : X.A.guards = some []) (hu : X.A.units + 70 < cLine) (hsm : ∃ o, X.base.get? sysModules = some o) (ok : bltOk b = true) (hg : Gl X (bltName b).1) (hm : X.mg (bltName b).1 = none) (ha : PA X (a :: es) (SemA c F ees))
    (he : starEach (a :: es) X.env = (false, eval a X.env) :: starEach es X.env) (hpl : (backTo pos (starEach es X.env)).any (·.1) = false) : PE X (.Call (.Name (bltName b).1 p) (a :: es) [] pos) (SemE c F (.blt b ees)) := by
  cases b
  · exact PE.imp (pe_callB (blt_len hK) hg hm PySem.boot_len ha (by decide) (by decide) he hpl) fun σ H Q h => blt_imp h
  · exact PE.imp (pe_callB (blt_isinst hK) hg hm (by decide +kernel) ha (by decide) (by decide) he hpl) fun σ H Q h => blt_imp h
  · exact PE.imp (pe_callB (blt_all hc) hg hm (by decide +kernel) ha (by decide) (by decide) he hpl) fun σ H Q h => blt_imp h
  · exact PE.imp (pe_callB (blt_any hc) hg hm (by decide +kernel) ha (by decide) (by decide) he hpl) fun σ H Q h => blt_imp h
  · exact PE.imp (pe_callTy (blt_tuple hK) hg hm (by decide +kernel) ha (by decide) (by decide) he hpl) fun σ H Q h => blt_imp h
  · exact PE.imp (pe_callTy (blt_list hK) hg hm (by decide +kernel) ha (by decide) (by decide) he hpl) fun σ H Q h => blt_imp h
  · exact PE.imp (pe_callB blt_abs hg hm (by decide +kernel) ha (by decide) (by decide) he hpl) fun σ H Q h => blt_imp h
  · exact PE.imp (pe_callB (blt_min hc) hg hm (by decide +kernel) ha (by decide) (by decide) he hpl) fun σ H Q h => blt_imp h
  · exact PE.imp (pe_callB (blt_max hc) hg hm (by decide +kernel) ha (by decide) (by decide) he hpl) fun σ H Q h => blt_imp h
  · exact PE.imp (pe_callB (blt_sorted hK) hg hm (by decide +kernel) ha (by decide) (by decide) he hpl) fun σ H Q h => blt_imp h
  · exact PE.imp (pe_callTy (blt_str hK hgd hu hsm) hg hm (by decide +kernel) ha (by decide) (by decide) he hpl) fun σ H Q h => blt_imp h
  · exact PE.imp (pe_callTy blt_int hg hm (by decide +kernel) ha (by decide) (by decide) he hpl) fun σ H Q h => blt_imp h
  · exact PE.imp (pe_callB (blt_repr hK hgd hu hsm) hg hm (by decide +kernel) ha (by decide) (by decide) he hpl) fun σ H Q h => blt_imp h
  · cases ok
theorem uniqS_spec : ∀ xs : List Str, (∀ x, x ∈ uniqS xs ↔ x ∈ xs) ∧ (uniqS xs).Nodup
  | [] => ⟨fun _ => Iff.rfl, .nil⟩
  | y :: r => by
    obtain ⟨i1, i2⟩ := uniqS_spec r
    unfold uniqS
    split
    · rename_i h
      exact ⟨fun x => (i1 x).trans ⟨List.mem_cons_of_mem _, fun z => (List.mem_cons.mp z).elim (fun e => e ▸ h) id⟩, i2⟩
    · rename_i h
      exact ⟨fun x => by rw [List.mem_cons, List.mem_cons, i1 x], List.nodup_cons.mpr ⟨fun z => h ((i1 y).mp z), i2⟩⟩
theorem perm_uniq {l xs : List Str} (h : ∀ x, x ∈ l ↔ x ∈ xs) (nd : l.Nodup) : l.Perm (uniqS xs) := by
  obtain ⟨i1, i2⟩ := uniqS_spec xs
  exact (List.perm_ext_iff_of_nodup nd i2).mpr fun x => (h x).trans (i1 x).symm
/-- sorted(set(xs)) -/
theorem sem_sset {p2 q : Pos} (hK : X.K = c.K) (hc : X.calm = true) (hg : Gl X "sorted") (hm : X.mg "sorted" = none) (hg2 : Gl X "set") (hm2 : X.mg "set" = none) (ha : PA X [a] (SemA c F ees))
    (he : starEach [a] X.env = (false, eval a X.env) :: starEach [] X.env) : PE X (.Call (.Name "sorted" p) [.Call (.Name "set" p2) [a] [] q] [] pos) (SemE c F (.blt .sset ees)) := by
  refine PE.imp (pe_callB (MPT.cr_sortT' hc) hg hm (by decide +kernel) (pa_cons (pe_callTy (MPT.cr_setT hc) hg2 hm2 (by decide +kernel) ha (by decide) (by decide) he rfl) pa_nil rfl) (by decide) (by decide) rfl rfl) fun σ H Q ⟨w, S, env, d, S', R, RE, hv, k⟩ => ?_
  simp only [ev] at hv
  show SemA c F ees σ H fun vs H1 => MPT.rSetT X.K X.prog X.w vs H1 fun v H2 => MPT.rSortT X.prog X.w [v] H2 Q
  refine SemA.bind R RE hv fun ds S1 w1 H1 vs le1 R1 rs _ hk => ?_
  obtain ⟨hk, rfl⟩ := opt_eq hk
  have vw := R1.views rs
  generalize ds.map (deref S') = es at *
  match es, hk with
  | [.lst xs], e =>
    obtain ⟨v, rfl, h⟩ := vw.one
    obtain ⟨b, ys, rfl, h1, q⟩ := h
    simp only [bltD] at e
    rw [Option.bind_eq_some_iff] at e
    obtain ⟨zs, e2, e⟩ := e
    split at e
    · rename_i hz
      cases e
      refine ⟨b, zs, rfl, by rw [← mapM_str q e2]; exact SqL.of h1, hz, fun t l ht hl nd hlen => ?_⟩
      refine ⟨t, l, rfl, upd_same, by omega, fun us r hp hs hr => ?_⟩
      have g1 := Go.add (o := MPT.TxO X.prog X.w t l) (R1.freeB ht) ht (R1.notR ht)
      have R2 := R1.add ht (MPT.TxO X.prog X.w t l)
      rw [sortS_unique (hp.trans (perm_uniq hl nd)) hs]
      obtain ⟨z1, z2, z3⟩ := R2.newLst (RelDs.strs (c := c) (w := w1.add t (MPT.TxO X.prog X.w t l)) (sortS (uniqS zs))) hr
      exact k _ _ _ ((le1.trans g1).trans z1) z2 z3
    · cases e
/-! methods -/
def mthTy : Mth → String
  | .join => "str" | .upper => "str" | .split => "str" | .update => "dict" | _ => "list"
theorem mty_ty (hK : X.K = c.K) {m : Mth} {d : D} {w : Wd} {S : Store} {H : Hp} {v : V} (h : mty m (deref S d) = true) (R : Rel c w S H) (r : RelD c w d v) : tyV X.K (mthTy m) v H := by
  have vw := R.view r
  generalize deref S d = e at *
  cases m <;> cases e <;> simp only [mty] at h <;> first | (cases h; done) | skip
  all_goals first
    | (simp only [Vw, RelD] at vw; subst vw; exact rfl)
    | (obtain ⟨a, ys, rfl, h1, q⟩ := vw; exact .inl ⟨rfl, _, SqL.of h1⟩)
    | (obtain ⟨a, ys, rfl, h1, q⟩ := vw; exact .inr (.inr (.inl ⟨rfl, .inl ⟨ys, h1⟩⟩)))
theorem mth_imp {m : Mth} {T : String} {σ : St} {H : Hp} {Q : VK} (hT : ∀ d w S H v, mty m (deref S d) = true → Rel c w S H → RelD c w d v → tyV X.K T v H) (h : SemE c F (.mth m ea ees) σ H Q) : tBM X.K T (SemM c (fMth m)) (SemE c F ea) (SemA c F ees) σ H Q := by
  obtain ⟨w, S, env, d, S', R, RE, hv, k⟩ := h
  simp only [ev] at hv
  refine SemE.bind (es := ea) R RE hv fun d1 S1 w1 H1 v1 le1 R1 r1 RE1 h1 => ?_
  split at h1
  · rename_i ht
    refine ⟨hT _ _ _ _ _ ht R1 r1, ?_⟩
    refine SemA.bind R1 RE1 h1 fun ds S2 w2 H2 vs le2 R2 rs _ hk => ?_
    exact ⟨w2, S2, d1, ds, d, S', R2, r1.mono le2.le, rs, hk, fun w3 H3 v3 le3 R3 r3 => k w3 H3 v3 ((le1.trans le2).trans le3) R3 r3⟩
  · cases h1
theorem mth_imp0 {m : Mth} {T : String} {σ : St} {H : Hp} {Q : VK} (hT : ∀ d w S H v, mty m (deref S d) = true → Rel c w S H → RelD c w d v → tyV X.K T v H) (h : SemE c F (.mth m ea []) σ H Q) : tBM0 X.K T (SemM c (fMth m)) (SemE c F ea) σ H Q := by
  obtain ⟨w, S, env, d, S', R, RE, hv, k⟩ := h
  simp only [ev] at hv
  refine SemE.bind (es := ea) R RE hv fun d1 S1 w1 H1 v1 le1 R1 r1 RE1 h1 => ?_
  split at h1
  · rename_i ht
    refine ⟨hT _ _ _ _ _ ht R1 r1, ?_⟩
    simp only [evs, Res.bind_ok] at h1
    exact ⟨w1, S1, d1, [], d, S', R1, r1, .nil, h1, fun w3 H3 v3 le3 R3 r3 => k w3 H3 v3 (le1.trans le3) R3 r3⟩
  · cases h1
/-- methods with arguments -/
def mthName : Mth → Option String
  | .update => some "update" | .append => some "append" | .pop1 => some "pop" | .extend => some "extend" | .index => some "index" | .join => some "join" | .split => some "split"
  | _ => none
variable {o : Expr} {name : Str} {apos cpos : Pos}
theorem sem_mth {m : Mth} {nm : String} (hK : X.K = c.K) (hnm : mthName m = some nm) (ho : PE X o (SemE c F ea)) (ha : PA X (a :: es) (SemA c F ees))
    (hbase : attributeBase o (nm : Str) X.env (eval o X.env) = eval o X.env)
    (hfew : ((backTo cpos (starEach (a :: es) X.env)).all (fun x => !x.1) && (backToKw cpos (keywordEach [] X.env)).all (fun x => x.1.isSome)
      && decide ((a :: es).length + ([] : List Keyword).length + (if ([] : List Keyword).isEmpty then 0 else 1) < 30)) = true)
    (hline : (apos.endLine == cpos.line) = true) (hs : starEach (a :: es) X.env = (false, eval a X.env) :: starEach es X.env) (hplain : (backTo cpos (starEach es X.env)).any (·.1) = false) :
    PE X (.Call (.Attribute o (nm : Str) apos) (a :: es) [] cpos) (SemE c F (.mth m ea ees)) := by
  cases m <;> simp only [mthName] at hnm <;> cases hnm
  · exact PE.imp (pe_bm PySem.F.plainAttrs_list PySem.F.slot_list_append PySem.F.type_list_append mth_append ho ha hbase hfew hline hs hplain) fun σ H Q h => mth_imp (fun d w S H v h1 R r => mty_ty hK h1 R r) h
  · exact PE.imp (pe_bm PySem.F.plainAttrs_list PySem.F.slot_list_pop PySem.F.type_list_pop mth_pop1 ho ha hbase hfew hline hs hplain) fun σ H Q h => mth_imp (fun d w S H v h1 R r => mty_ty hK h1 R r) h
  · exact PE.imp (pe_bm PySem.F.plainAttrs_list PySem.F.slot_list_extend PySem.F.type_list_extend mth_extend ho ha hbase hfew hline hs hplain) fun σ H Q h => mth_imp (fun d w S H v h1 R r => mty_ty hK h1 R r) h
  · exact PE.imp (pe_bm PySem.F.plainAttrs_list PySem.F.slot_list_index PySem.F.type_list_index (mth_index hK) ho ha hbase hfew hline hs hplain) fun σ H Q h => mth_imp (fun d w S H v h1 R r => mty_ty hK h1 R r) h
  · exact PE.imp (pe_bm PySem.F.plainAttrs_str PySem.F.slot_str_join PySem.F.type_str_join (mth_join hK) ho ha hbase hfew hline hs hplain) fun σ H Q h => mth_imp (fun d w S H v h1 R r => mty_ty hK h1 R r) h
  · exact PE.imp (pe_bm PySem.F.plainAttrs_dict PySem.F.slot_dict_update PySem.F.type_dict_update mth_update ho ha hbase hfew hline hs hplain) fun σ H Q h => mth_imp (fun d w S H v h1 R r => mty_ty hK h1 R r) h
  · exact PE.imp (pe_bm PySem.F.plainAttrs_str PySem.F.slot_str_split PySem.F.type_str_split mth_split ho ha hbase hfew hline hs hplain) fun σ H Q h => mth_imp (fun d w S H v h1 R r => mty_ty hK h1 R r) h
def mthName0 : Mth → Option String
  | .pop0 => some "pop" | .upper => some "upper"
  | _ => none
theorem sem_mth0 {m : Mth} {nm : String} (hK : X.K = c.K) (hnm : mthName0 m = some nm) (ho : PE X o (SemE c F ea)) (hbase : attributeBase o (nm : Str) X.env (eval o X.env) = eval o X.env) (hline : (apos.endLine == cpos.line) = true) :
    PE X (.Call (.Attribute o (nm : Str) apos) [] [] cpos) (SemE c F (.mth m ea [])) := by
  cases m <;> simp only [mthName0] at hnm <;> cases hnm
  · exact PE.imp (pe_bm0 PySem.F.plainAttrs_list PySem.F.slot_list_pop PySem.F.type_list_pop mth_pop0 ho hbase hline) fun σ H Q h => mth_imp0 (fun d w S H v h1 R r => mty_ty hK h1 R r) h
  · exact PE.imp (pe_bm0 PySem.F.plainAttrs_str PySem.F.slot_str_upper PySem.F.type_str_upper mth_upper ho hbase hline) fun σ H Q h => mth_imp0 (fun d w S H v h1 R r => mty_ty hK h1 R r) h
/-! texts with parts -/
theorem cat_len : ∀ (ys : List Str) (acc : Str), (ys.foldl (· ++ ·) acc).length = acc.length + (ys.map (·.length)).sum
  | [], acc => by simp
  | y :: ys, acc => by
    rw [List.foldl_cons, cat_len ys, List.map_cons, List.sum_cons]
    have : (acc ++ y).length = acc.length + y.length := by
      show (acc.cps ++ y.cps).size = acc.cps.size + y.cps.size
      rw [Array.size_append]
    omega
theorem tjs_imp : ∀ (es : List E) {w : Wd} {S : Store} {H : Hp} {env : Env} {σ : St} {ds : List D} {S' : Store} {ys : List Str} {acc : Str} {Q : Str → Hp → Prop}, Rel c w S H → RelEnv c w env σ → evs F es env S = .ok ds S' → ds.mapM fmtD = some ys →
    acc.length + (ys.map (·.length)).sum ≤ LIM → (∀ w' H', Go w H w' H' → Rel c w' S' H' → Q (ys.foldl (· ++ ·) acc) H') → tJs (es.map fun e => tFmt (SemE c F e)) acc σ H Q
  | [], w, S, H, env, σ, ds, S', ys, acc, Q, R, RE, h, hm, hl, k => by
    simp only [evs] at h
    cases h
    simp at hm
    subst hm
    exact k w H Go.refl R
  | e :: es, w, S, H, env, σ, ds, S', ys, acc, Q, R, RE, h, hm, hl, k => by
    simp only [evs] at h
    obtain ⟨d, S1, h1, h2⟩ := Res.bind_eq h
    obtain ⟨dr, S2, h3, h4⟩ := Res.bind_eq h2
    cases h4
    rw [List.mapM_cons] at hm
    cases hy : fmtD d with
    | none => rw [hy] at hm; cases hm
    | some y =>
      rw [hy] at hm
      cases hr : dr.mapM fmtD with
      | none => rw [hr] at hm; cases hm
      | some yr =>
        rw [hr] at hm
        have hm : some (y :: yr) = some ys := hm
        cases hm
        rw [List.map_cons, List.sum_cons] at hl
        have la : (acc ++ y).length = acc.length + y.length := by
          show (acc.cps ++ y.cps).size = acc.cps.size + y.cps.size
          rw [Array.size_append]
        refine ⟨w, S, env, d, S1, R, RE, h1, fun w1 H1 v1 g1 R1 r1 => ?_⟩
        have go : (acc ++ y).length ≤ sizeLine ∧ tJs (es.map fun e => tFmt (SemE c F e)) (acc ++ y) σ H1 Q := by
          refine ⟨lim_le (by rw [la]; omega), tjs_imp es R1 (RE.mono g1.le) h3 hr (by rw [la]; omega) fun w2 H2 g2 R2 => ?_⟩
          exact k w2 H2 (g1.trans g2) R2
        cases d <;> simp only [fmtD] at hy <;> try (cases hy; done)
        · split at hy
          · rename_i hz
            cases hy
            simp only [RelD] at r1
            exact .inr ⟨_, r1, hz, _, rfl, go.1, go.2⟩
          · cases hy
        · split at hy
          · rename_i hz
            cases hy
            simp only [RelD] at r1
            exact .inl ⟨_, r1, lim_le hz, _, rfl, go.1, go.2⟩
          · cases hy
theorem sem_fstr {v1 v2 : Expr} {rest : List Expr} (h : PJ X (v1 :: v2 :: rest) (ees.map fun e => tFmt (SemE c F e))) : PE X (.JoinedStr (v1 :: v2 :: rest) pos) (SemE c F (.fstr ees)) :=
  PE.imp (pe_joined h) fun σ H Q ⟨w, S, env, d, S', R, RE, hv, k⟩ => by
    simp only [ev] at hv
    obtain ⟨ds, S1, h1, h2⟩ := Res.bind_eq hv
    obtain ⟨h5, rfl⟩ := opt_eq h2
    clear h2
    unfold fstrD at h5
    rw [Option.bind_eq_some_iff] at h5
    obtain ⟨ys, h3, h4⟩ := h5
    split at h4
    · rename_i hz
      cases h4
      refine tjs_imp ees R RE h1 h3 (by show 0 + _ ≤ _; omega) fun w' H' g R' => ?_
      exact k w' H' _ g R' (by simp only [RelD]; rfl)
    · cases h4
/-! a written dict -/
structure KD (c : Cfg) (X : Cx) (a : Addr) (kvs : List (Str × D)) : Prop where
  dict : ∃ es n, KDict X.K X.w a es n
  get : ∀ z : Str, ∃ r, PySem.W.nsIn X.K a z = some r ∧ match lookS z kvs with
    | none => r = none
    | some d => ∃ u v, r = some u ∧ RelV v u ∧ ∀ w, RelD c w d v
theorem sem_cin {kvs : List (Str × D)} {ad : Addr} (D : KD c X ad kvs) (ha : PE X a (SemE c F ea)) (hd : PE X e (tC (.ref ad))) (hm : behindInMarks .In e = false) : PE X (.Compare a [.In] [e] pos) (SemE c F (.cin false kvs ea)) := by
  obtain ⟨es, n, KD⟩ := D.dict
  refine PE.imp (pe_cmpR (op_in_kd KD) ha hd hm) fun σ H Q ⟨w, S, env, d, S', R, RE, hv, k⟩ => ?_
  simp only [ev] at hv
  refine SemE.bind (es := ea) R RE hv fun d1 S1 w1 H1 v1 le1 R1 r1 RE1 h1 => ?_
  cases d1 <;> (try simp only at h1) <;> try (cases h1; done)
  rename_i z
  simp only [RelD] at r1
  obtain ⟨r, h2, h3⟩ := D.get z
  have k' := k w1 H1 (.bl r.isSome) le1
  cases q : lookS z kvs with
  | none =>
    rw [q] at h3 h1
    cases h1
    rw [show r = none from h3] at h2 k'
    exact ⟨z, none, r1, rfl, h2, k' R1 (by simp only [RelD]; rfl)⟩
  | some dd =>
    rw [q] at h3 h1
    obtain ⟨u, v, h3, _⟩ := h3
    cases h1
    rw [h3] at h2 k'
    exact ⟨z, some u, r1, rfl, h2, k' R1 (by simp only [RelD]; rfl)⟩
theorem sem_cnin {kvs : List (Str × D)} {ad : Addr} (D : KD c X ad kvs) (ha : PE X a (SemE c F ea)) (hd : PE X e (tC (.ref ad))) (hm : behindInMarks .NotIn e = false) : PE X (.Compare a [.NotIn] [e] pos) (SemE c F (.cin true kvs ea)) := by
  obtain ⟨es, n, KD⟩ := D.dict
  refine PE.imp (pe_cmpR (op_notIn_kd KD) ha hd hm) fun σ H Q ⟨w, S, env, d, S', R, RE, hv, k⟩ => ?_
  simp only [ev] at hv
  refine SemE.bind (es := ea) R RE hv fun d1 S1 w1 H1 v1 le1 R1 r1 RE1 h1 => ?_
  cases d1 <;> (try simp only at h1) <;> try (cases h1; done)
  rename_i z
  simp only [RelD] at r1
  obtain ⟨r, h2, h3⟩ := D.get z
  have k' := k w1 H1 (.bl (!r.isSome)) le1
  cases q : lookS z kvs with
  | none =>
    rw [q] at h3 h1
    cases h1
    rw [show r = none from h3] at h2 k'
    exact ⟨z, none, r1, rfl, h2, k' R1 (by simp only [RelD]; rfl)⟩
  | some dd =>
    rw [q] at h3 h1
    obtain ⟨u, v, h3, _⟩ := h3
    cases h1
    rw [h3] at h2 k'
    exact ⟨z, some u, r1, rfl, h2, k' R1 (by simp only [RelD]; rfl)⟩
theorem ix_kd {ad : Addr} {es : Array DictEntry} {n : Nat} (D : KDict X.K X.w ad es n) : IxR X (fun x y H Q => ∃ (z : Str) (u0 : Value) (v0 : V), x = .ref ad ∧ y = .str z ∧ PySem.W.nsIn X.K ad z = some (some u0) ∧ RelV v0 u0 ∧ Q v0 H) := by
  intro value slice pins s σ H x y v u Q I rx ry h hs
  obtain ⟨z, u0, v0, e1, e2, e3, e4, e5⟩ := h
  have hx : v = .ref ad := by rw [e1] at rx; exact rx
  have w := (op_item_kd D) pins s σ H x y v u Q I rx ry ⟨z, u0, v0, e1, e2, e3, e4, e5⟩
  subst hx
  exact PyProof.Rows.tail_any (ops := [.ref ad, u]) (kd_type D I) PySem.slot_dict_getitem.lookup w (by rw [hs])
theorem sem_cget {kvs : List (Str × D)} {ad : Addr} (D : KD c X ad kvs) (ha : PE X a (SemE c F ea)) (hd : PE X e (tC (.ref ad))) (hs : PlainIx a) : PE X (.Subscript e a pos) (SemE c F (.cget kvs ea)) := by
  obtain ⟨es, n, KD⟩ := D.dict
  refine PE.imp (pe_ix (ix_kd KD) hd ha hs) fun σ H Q ⟨w, S, env, d, S', R, RE, hv, k⟩ => ?_
  simp only [ev] at hv
  refine SemE.bind (es := ea) R RE hv fun d1 S1 w1 H1 v1 le1 R1 r1 RE1 h1 => ?_
  cases d1 <;> (try simp only at h1) <;> try (cases h1; done)
  rename_i z
  simp only [RelD] at r1
  obtain ⟨r, h2, h3⟩ := D.get z
  cases q : lookS z kvs with
  | none => rw [q] at h1; cases h1
  | some dd =>
    rw [q] at h3 h1
    obtain ⟨u, v, h3, h4, h5⟩ := h3
    cases h1
    rw [h3] at h2
    exact ⟨z, u, v, rfl, r1, h2, h4, k w1 H1 v le1 R1 (h5 w1)⟩
end
end MP

/-! MPE: enumerate of a tuple; a tuple turned about. -/
namespace MPE
open PySem PySem.Spec L2
open AutoSeq1 (wpAny_loadPart')
set_option maxHeartbeats 1000000 in
theorem meets_enumerate_newT (l : Addr) (items : Array Value) (n : Nat) (dct : Option Addr) (sl : Array (Option Value)) :
    Meets (Builtin.«enumerate.__new__» ⟨[.type "enumerate", .ref l], []⟩) (fun _ R s => s.heap.get? l = some { cls := .type "tuple", dict := dct, data := .seq items n, slots := sl } ∧
      R (.ok (.ret (.ref (s.heap.push { cls := .type "tuple_iterator", data := .fields #[.ref l, .int 0 0] }).objs.size)))
        { s with heap := (s.heap.push { cls := .type "tuple_iterator", data := .fields #[.ref l, .int 0 0] }).push { cls := .type "enumerate", data := .fields #[.none, .bool false, .ref s.heap.objs.size, rawInt 0, .none, .none] } }) :=
  .of_wp fun prog w A R s h => by
    obtain ⟨hp, g, d, tk, os⟩ := s; obtain ⟨hl, h⟩ := h
    have hsub := sub_enumerate
    have hL : Heap.IsTuple (Shared.heap ⟨hp, g, d, tk, os⟩) l items := ⟨_, hl, rfl, n, rfl⟩
    wp_walk using wpAny_loadPart' hl
    refine wpAny_stack_any fun st => wpAny_pure ?_
    split
    · rename_i c _ _ _ _ _
      cases (c == Value.type "enumerate")
      · wp_walk using wpAny_loadPart' hl, wpAny_pyIter_tuple hL
        exact ⟨_, rfl, h⟩
      · wp_walk using wpAny_loadPart' hl, wpAny_pyIter_tuple hL
        exact ⟨_, rfl, h⟩
    · wp_walk using wpAny_loadPart' hl, wpAny_pyIter_tuple hL
      exact ⟨_, rfl, h⟩
section
variable {prog : Program} {w : World} {A : Around} {E : Value → Shared → Prop} {s : Shared}
theorem call_enumerate_tuple {l : Addr} {items : Array Value} {Q : Value → Shared → Prop} (hL : s.heap.IsTuple l items)
    (h : ∀ h', IsEnum h' (s.heap.objs.size + 1) s.heap.objs.size 0 .none → h'.IsTupleIter s.heap.objs.size l 0 → h'.objs.size = s.heap.objs.size + 2 →
      (∀ b o, s.heap.get? b = some o → h'.get? b = some o) → Q (.ref (s.heap.objs.size + 1)) { s with heap := h' }) :
    wpAny (model prog w) A (call (.type "enumerate") [.ref l]) Q E s := by
  obtain ⟨⟨c, dct, dt, sl⟩, hl, hc, n, hd⟩ := hL
  replace hc : c = .type "tuple" := hc
  replace hd : dt = .seq items n := hd
  subst hc hd
  refine callType_new F.called_enumerate (by decide) (F.typeCall_enumerate_1 _) (F.newCall_enumerate_1 _) (fun obj => F.args_object_init_2 obj _) F.entry_enumerate_new
    (meets_enumerate_newT l items n dct sl) ⟨hl, ?_⟩
  have hz : (s.heap.push { cls := .type "tuple_iterator", data := .fields #[.ref l, .int 0 0] }).objs.size = s.heap.objs.size + 1 := Heap.size_push ..
  show _ ∧ _
  rw [hz]
  have he : IsEnum ((s.heap.push { cls := .type "tuple_iterator", data := .fields #[.ref l, .int 0 0] }).push
      { cls := .type "enumerate", data := .fields #[.none, .bool false, .ref s.heap.objs.size, rawInt 0, .none, .none] }) (s.heap.objs.size + 1) s.heap.objs.size 0 .none := by
    have := Heap.get?_push_size (s.heap.push { cls := .type "tuple_iterator", data := .fields #[.ref l, .int 0 0] })
      (o := { cls := .type "enumerate", data := .fields #[.none, .bool false, .ref s.heap.objs.size, rawInt 0, .none, .none] }) rfl
    rw [hz] at this; exact this
  refine ⟨⟨_, he, rfl⟩, h _ he ⟨_, Heap.get?_push_of_some _ (Heap.get?_push_size _ rfl), rfl, rfl⟩ (by rw [Heap.size_push, hz]) fun b o x => Heap.get?_push_of_some _ (Heap.get?_push_of_some _ x)⟩
end
/-- the tuple at a, each item in a new pair -/
def IteT (K : PySem.W.Frag) (a : Addr) : It :=
  ⟨fun i H => ∃ (xs : List V) (x : V), SqT K H a xs ∧ xs[i]? = some x, fun i H v H' => ∃ T x, v = .ref T ∧ H T = none ∧ H' = upd H T (.tup [.int (i : Nat), x]) ∧ ∀ xs, SqT K H a xs → xs[i]? = some x, fun i H => ∃ xs : List V, SqT K H a xs ∧ xs.length = i⟩
theorem turn_enumT {P : Program} {w : World} {K : PySem.W.Frag} {elts : List Expr} {kk : Nat} {tpos : Pos} (a e it : Addr) :
    Turn P w K (.Tuple elts kk tpos) (IteT K a) [e, it] e (fun i h => (∃ old, IsEnum h e it ((i : Nat) : Int) old) ∧ h.IsTupleIter it a i ∧ e ≠ it ∧ a ≠ it ∧ a ≠ e) where
  mem := by simp
  obj := fun i h st b hb => by
    obtain ⟨⟨old, he⟩, ⟨o, ho, hc, hd⟩, _⟩ := st
    have e' : b = e ∨ b = it := by simpa using hb
    rcases e' with z | z
    · rw [z]; exact ⟨_, he, fun v q => nomatch q⟩
    · rw [z]; exact ⟨o, ho, fun v q => by rw [hd] at q; cases q⟩
  keep := fun i h h' st k => let ⟨⟨old, he⟩, hi, hne⟩ := st; ⟨⟨old, k e (by simp) _ he⟩, hi.at fun o q => k it (by simp) o q, hne⟩
  item := by
    intro X hP hw hK hc i pins s σ H E I hf st hg
    subst hP hw hK
    obtain ⟨⟨old, he⟩, hit, hne, hai, hae⟩ := st
    obtain ⟨xs, x, hq, hx⟩ := hg
    obtain ⟨its, rv, p, hz⟩ := I.tuple hq
    obtain ⟨u, hu, ru⟩ := rv.get hx
    have hel : e < s.heap.objs.size := Heap.lt_size he
    have hil : it < s.heap.objs.size := by obtain ⟨_, q, _⟩ := hit; exact Heap.lt_size q
    have hlt : i < its.toArray.size := by
      have := (List.getElem?_eq_some_iff.mp hu).1
      simpa using this
    have hh : X.A.in1.handled = none := I.ok.hd hc
    have hat : a < s.heap.objs.size := p.lt
    have D := Draws.tuple (prog := X.prog) (w := X.w) (A := X.A.in1) hh it a hai its.toArray
    have haf : e ∉ [it, a] := by
      simp only [List.mem_cons, List.not_mem_nil, or_false, not_or]
      exact ⟨hne, Ne.symm hae⟩
    refine wpAny_pyNext_enum_itemD D he ⟨hit, p⟩ hlt hne haf fun x' h' tk hP ho hst' hT hsz hk => ?_
    have hxu : x' = u := by
      have h1 : its.toArray[i]? = some x' := hP
      have h2 : its.toArray[i]? = some u := by simpa using hu
      exact Option.some.inj (h1.symm.trans h2)
    subst hxu
    refine ⟨_, rfl, wpAny_letOwnedTupleGo_enum (s := { s with heap := h', toks := tk + 1 }) ho fun h'' he' sb => ?_⟩
    have hT2 : h''.get? s.heap.objs.size = some { cls := .type "tuple", data := .seq #[.int i tk, x'] } := (sb.2 _ (Nat.ne_of_gt hel)).trans hT
    have new : ObjOk X.prog X.w (upd H s.heap.objs.size (.tup [.int (i : Nat), x])) h'' s.heap.objs.size (.tup [.int (i : Nat), x]) :=
      ⟨by show 2 ≤ sizeLine; decide, [.int i tk, x'], .cons ⟨_, rfl⟩ (.cons ru .nil), ⟨_, hT2, rfl, _, rfl⟩⟩
    have I1 : Inv X pins σ (upd H s.heap.objs.size (.tup [.int (i : Nat), x])) { s with heap := h'', toks := tk + 1 } :=
      I.turnedNew (ch := [e, it]) (fun b ob hb q => (sb.2 b (fun z => hb (by simp [z]))).trans (hk b ob (fun z => hb (by simp [z])) (fun z => hb (by simp [z])) q)) hf (Nat.le_refl _) new
    refine ⟨.ref s.heap.objs.size, _, I1, rfl, ⟨_, x, rfl, I.hok.fresh (Nat.le_refl _), rfl, fun ys hy => by rw [I.tuple_inj hy hq]; exact hx⟩, ⟨⟨x', ?_⟩, hst'.1.at fun o q => (sb.2 it (Ne.symm hne)).trans q, hne, hai, hae⟩, fun b hb => ?_⟩
    · have e1 : ((i + 1 : Nat) : Int) = (i : Int) + 1 := by omega
      rw [e1]; exact he'
    · have hb' : b < s.heap.objs.size := by
        have e' : b = e ∨ b = it := by simpa using hb
        rcases e' with z | z
        · rw [z]; exact hel
        · rw [z]; exact hil
      rw [upd_ne (Nat.ne_of_lt hb')]
      exact (hf b hb).1
  done := by
    intro X hP hw hK hc i pins s σ H E I hf st hg
    subst hP hw hK
    obtain ⟨⟨old, he⟩, hit, hne, hai, hae⟩ := st
    obtain ⟨xs, hq, hx⟩ := hg
    obtain ⟨its, rv, p, hz⟩ := I.tuple hq
    obtain ⟨f0, f1, f2, f3, f4, f5⟩ := hf it (by simp)
    have hl := rv.length
    have hh : X.A.in1.handled = none := I.ok.hd hc
    have D := Draws.tuple (prog := X.prog) (w := X.w) (A := X.A.in1) hh it a hai its.toArray
    have hi : i = its.toArray.size := by simp; omega
    subst hi
    exact wpAny_pyNext_enum_endD D he ⟨hit, p⟩ fun h' eb => ⟨rfl, I.turned (t' := s.toks) (fun b o hb q => eb b o hb q) f0 f1 f3 f4 f5⟩
  self := fun A i s Q E st h => let ⟨⟨_, he⟩, _⟩ := st; wpAny_pyIter_enum he h
def iEnumT (K : PySem.W.Frag) (ta : TA) : TI := fun σ H R => ta σ H fun vs H1 => ∃ a xs, vs = [.ref a] ∧ ((SqL K H1 a xs ∧ R (Ite K a) H1) ∨ (SqT K H1 a xs ∧ R (IteT K a) H1))
theorem pi_enumT {X : Cx} {e : Expr} {ta : TA} {p pos tpos : Pos} {elts : List Expr} {kk : Nat} (hg : Gl X "enumerate") (hm : X.mg "enumerate" = none) (ha : PA X [e] ta) (hs : starEach [e] X.env = [(false, eval e X.env)]) :
    PI X (.Tuple elts kk tpos) (.Call (.Name "enumerate" p) [e] [] pos) (iEnumT X.K ta) := by
  refine ⟨fun pins s σ H R I h => ?_⟩
  refine PyProof.Rows.Call_ (ld_blt I hg hm PyProof.Rows.boot_enumerate (PyProof.Rows.callWith_type1 (thn (ha.run pos pins s σ H _ I h) fun us s1 ⟨vs, H1, I1, r1, q1⟩ => ?_) hs rfl))
  obtain ⟨a, xs, ex, q1⟩ := q1
  subst ex
  cases r1 with
  | cons r rr =>
    cases rr
    cases r
    have fin : ∀ (b : Addr), b ∈ [s1.heap.objs.size + 1, s1.heap.objs.size] → FpOk X pins H1 b := fun b hb => by
      have e' : b = s1.heap.objs.size + 1 ∨ b = s1.heap.objs.size := by simpa using hb
      have hle : s1.heap.objs.size ≤ b := by
        rcases e' with z | z
        · rw [z]; exact Nat.le_add_right _ _
        · rw [z]; exact Nat.le_refl _
      exact I1.fpOk hle (I1.hok.fresh hle)
    rcases q1 with ⟨hq, q⟩ | ⟨hq, q⟩
    · obtain ⟨its, rv, p', hz⟩ := I1.list hq
      refine call_enumerate_list p'.isList fun h' he hit hsz hk => wpAny_pyIter_enum he ?_
      have I2 : Inv X pins σ H1 { s1 with heap := h' } := I1.kept (t' := s1.toks) hk
      exact ⟨s1.heap.objs.size + 1, [s1.heap.objs.size + 1, s1.heap.objs.size], _, _, H1, rfl, I2, turn_enum a (s1.heap.objs.size + 1) s1.heap.objs.size, ⟨⟨.none, he⟩, hit, Nat.succ_ne_self _⟩, fin, q⟩
    · obtain ⟨its, rv, p', hz⟩ := I1.tuple hq
      have hat : a < s1.heap.objs.size := p'.lt
      refine call_enumerate_tuple p' fun h' he hit hsz hk => wpAny_pyIter_enum he ?_
      have I2 : Inv X pins σ H1 { s1 with heap := h' } := I1.kept (t' := s1.toks) hk
      exact ⟨s1.heap.objs.size + 1, [s1.heap.objs.size + 1, s1.heap.objs.size], _, _, H1, rfl, I2, turn_enumT a (s1.heap.objs.size + 1) s1.heap.objs.size, ⟨⟨.none, he⟩, hit, Nat.succ_ne_self _, Nat.ne_of_lt hat, Nat.ne_of_lt (Nat.lt_succ_of_lt hat)⟩, fin, q⟩
theorem walk_enumT {K : PySem.W.Frag} {a : Addr} {xs : List V} : Walk (IteT K a) xs.length (fun H => SqT K H a xs) (YPair (fun i => some (.int (i : Nat))) (fun i => xs[i]?)) := by
  refine ⟨fun i _ hi q => ⟨xs, xs[i], q, by simp [hi]⟩, fun _ q => ⟨xs, q, rfl⟩, fun i H v H' _ q y => ?_⟩
  obtain ⟨T, x, h1, h2, h3, h4⟩ := y
  exact ⟨T, .int (i : Nat), x, h1, h2, h3, rfl, h4 xs q⟩
/-! ### a tuple turned about -/
section
variable {prog : Program} {w : World} {A : Around} {E : Value → Shared → Prop} {s : Shared}
theorem fm_congr {α β : Type} {f g : α → Option β} : ∀ {l : List α}, (∀ a ∈ l, f a = g a) → l.filterMap f = l.filterMap g
  | [], _ => rfl
  | a :: l, h => by
    rw [List.filterMap_cons, List.filterMap_cons, h a List.mem_cons_self, fm_congr fun b hb => h b (List.mem_cons_of_mem _ hb)]
theorem pick_rev (xs : List Value) : ((List.range xs.length).filterMap fun (m : Nat) => xs.toArray[(((xs.length : Int) - 1) + (m : Int) * (-1)).toNat]?) = xs.reverse := by
  have h : ((List.range xs.length).filterMap fun (m : Nat) => xs.toArray[(((xs.length : Int) - 1) + (m : Int) * (-1)).toNat]?) = (List.range xs.reverse.toArray.size).filterMap (xs.reverse.toArray[·]?) := by
    rw [List.size_toArray, List.length_reverse]
    apply fm_congr
    intro m hm
    rw [List.mem_range] at hm
    have : (((xs.length : Int) - 1) + (m : Int) * (-1)).toNat = xs.length - 1 - m := by omega
    rw [this, List.getElem?_toArray, List.getElem?_toArray, List.getElem?_reverse hm]
  rw [h, PySem.W.krv_all]
theorem sliceApplied_rev {sl : Addr} {vl vu vst : Value} {n : Nat} {Q : Int × Int × Nat → Shared → Prop} (hs : s.heap.IsSliceOf sl vl vu vst) (pl : IsPart vl none) (pu : IsPart vu none) (ps : IsPart vst (some (-1)))
    (h : Q ((n : Int) - 1, -1, n) s) : wpAny (model prog w) A (Builtin.Slice.sliceApplied (.ref sl) (pure (n : Int))) Q E s := by
  obtain ⟨os, hos, hcs, hds⟩ := id hs
  unfold Builtin.Slice.sliceApplied Builtin.Slice.sliceFields
  refine wpAny_bind (wpAny_bind (wpAny_field hos hds (x := vl) rfl (wpAny_bind (wpAny_field hos hds (x := vu) rfl (wpAny_bind (wpAny_field hos hds (x := vst) rfl (wpAny_pure ?_)))))))
  refine wpAny_bind (HT.slicePart_ ps ?_)
  show wpAny _ _ (if ((-1 : Int) == 0) = true then _ else _) _ _ s
  rw [if_neg (by decide)]
  refine wpAny_bind (HT.slicePart_ pl (wpAny_bind (HT.slicePart_ pu (wpAny_bind (wpAny_pure ?_)))))
  show wpAny _ _ (pure (((n : Int) - 1), (-1 : Int), Builtin.Slice.slicePlaces ((n : Int) - 1) (-1) (-1))) _ _ s
  have e : Builtin.Slice.slicePlaces ((n : Int) - 1) (-1) (-1) = n := by
    unfold Builtin.Slice.slicePlaces
    rw [if_neg (by decide)]
    split
    · have : (n : Int) - 1 - -1 - 1 = (n : Int) - 1 := by omega
      rw [this]
      have : ((n : Int) - 1) / (- -1) + 1 = n := by
        have : (- -1 : Int) = 1 := rfl
        rw [this, Int.ediv_one]; omega
      rw [this]; rfl
    · omega
  rw [e]
  exact wpAny_pure h
theorem getItem_tuple_rev {t sl : Addr} {its : List Value} {vl vu vst : Value} {Q : Value → Shared → Prop} (ht : PyProof.Rows.IsTup s.heap t its.toArray) (hs : s.heap.IsSliceOf sl vl vu vst) (pl : IsPart vl none) (pu : IsPart vu none) (ps : IsPart vst (some (-1)))
    (h : Q (.ref s.heap.objs.size) { s with heap := s.heap.push { cls := .type "tuple", data := .seq its.reverse.toArray } })
    (hsz : its.length ≤ sizeLine) : wpAny (model prog w) A (getItem (.ref t) (.ref sl)) Q E s := by
  have htake : sizeOk (.seq its.reverse.toArray) := by
    show its.reverse.toArray.size ≤ sizeLine
    rw [List.size_toArray, List.length_reverse]; exact hsz
  obtain ⟨os, hos, hcs, hds⟩ := id hs
  have hTs : s.TypeIs (.ref sl) "slice" := ⟨os, hos, hcs⟩
  unfold getItem
  try with_reducible refine wpAny_holding ?_
  first | refine wpAny_bind (wpAny_pure ?_) | skip
  refine wpAny_bind (wpAny_sequenceKey ht.typeIs (by decide) ?_)
  refine wpAny_bind (wpAny_callSpecial?_slot (name := Str.ofString "__getitem__") ht.typeIs PyProof.Rows.slot_tuple_getitem
    (wpAny_call_entry PyProof.Rows.slot_tuple_getitem ht.typeIs PyProof.Rows.entry_tuple_getitem ?_ (PyProof.Rows.args_tuple_getitem _ _)))
  show wpAny _ _ (Builtin.Tuple.tupleItemsOf (.ref t) >>= _) _ _ s
  refine wpAny_bind (PyProof.Rows.tupleItemsOf_ ht ?_)
  refine wpAny_bind (wpAny_typeOf hTs ?_)
  rw [if_pos (by decide)]
  refine wpAny_bind (sliceApplied_rev hs pl pu ps ?_)
  show wpAny _ _ (if ((((its.toArray.size : Nat) : Int) - 1) == 0 && (-1 : Int) == 1 && its.toArray.size == its.toArray.size) = true then _ else _) _ _ s
  rw [if_neg (by rw [show ((-1 : Int) == 1) = false from rfl]; simp)]
  rw [List.size_toArray, pick_rev]
  first
    | exact wpAny_bind (m := Builtin.Tuple.tupleExact _) (wpAny_newObj_type (wpAny_pure ⟨_, rfl, wpAny_pure h⟩) htake)
    | exact wpAny_bind (m := Builtin.Tuple.tupleExact _) (wpAny_newObj_type (wpAny_bind (wpAny_pure (wpAny_pure ⟨_, rfl, wpAny_pure h⟩))) htake)
    | exact wpAny_bind (wpAny_bind (m := Builtin.Tuple.tupleExact _) (wpAny_newObj_type (wpAny_pure (wpAny_pure ⟨_, rfl, wpAny_pure h⟩)) htake))
    | exact wpAny_bind (wpAny_bind (m := Builtin.Tuple.tupleExact _) (wpAny_newObj_type (wpAny_pure ⟨_, rfl, wpAny_pure h⟩) htake))
end
/-- x[::-1] of a list or a tuple -/
def tRevA (K : PySem.W.Frag) (te : TE) : TE := fun σ H Q => te σ H fun x H1 => ∃ a xs, x = .ref a ∧ ((SqL K H1 a xs ∧ ∀ p, H1 p = none → Q (.ref p) (upd H1 p (.lst xs.reverse))) ∨ (SqT K H1 a xs ∧ ∀ p, H1 p = none → Q (.ref p) (upd H1 p (.tup xs.reverse))))
theorem pe_revA {X : Cx} {e : Expr} {te : TE} {k : Nat} {p1 p2 p3 pos : Pos} (he : PE X e te) : PE X (.Subscript e (.Slice none none (some (.UnaryOp .USub (.Constant (.int 1) k p1) p2)) p3) pos) (tRevA X.K te) := by
  refine ⟨fun pins s σ H Q I h => ?_⟩
  refine PyProof.Rows.Subscript_ (thn (he.run pins s σ H _ I h) fun v s1 ⟨x, H1, I1, r1, q1⟩ => ?_)
  obtain ⟨a, xs, ex, q1⟩ := q1
  subst ex
  cases r1
  have hst : PO X (some (.UnaryOp .USub (.Constant (.int 1) k p1) p2)) (tPart (tUn (rU fun i => .int (-i)) (tC (.int 1)))) := po_some (pe_un un_neg pe_int)
  refine wpAny_Slice (thn (po_none.run pins s1 σ H1 (fun o H2 => o = none ∧ H2 = H1) I1 ⟨rfl, rfl⟩) fun vl s2 ⟨l, H2, I2, pl, el, e2⟩ => ?_)
  subst el e2
  refine thn (po_none.run pins s2 σ H2 (fun o H3 => o = none ∧ H3 = H2) I2 ⟨rfl, rfl⟩) fun vu s3 ⟨u, H3, I3, pu, eu, e3⟩ => ?_
  subst eu e3
  refine thn (hst.run pins s3 σ H3 (fun o H4 => o = some (-1) ∧ H4 = H3) I3 ⟨1, rfl, -1, rfl, rfl, rfl⟩) fun vs s4 ⟨o, H4, I4, ps, eo, e4⟩ => ?_
  subst eo e4
  have I5 : Inv X pins σ H4 { s4 with heap := s4.heap.push { cls := .type "slice", data := .fields #[vl, vu, vs] } } := I4.kept (t' := s4.toks) fun b ob q => Heap.get?_push_of_some _ q
  show wpAny (model X.prog X.w) X.A (PyProof.Rows.subscriptTail e (.Slice none none (some (.UnaryOp .USub (.Constant (.int 1) k p1) p2)) p3) (.ref a) (.ref s4.heap.objs.size)) (EP X pins σ Q) X.xe { s4 with heap := s4.heap.push { cls := .type "slice", data := .fields #[vl, vu, vs] } }
  rcases q1 with ⟨hx, q⟩ | ⟨hx, q⟩
  · obtain ⟨its, r, ht, hz⟩ := I5.list hx
    have hlen := r.length
    refine PyProof.Rows.tail_any (ops := [.ref a, .ref s4.heap.objs.size]) ht.isList.typeIs (PySem.slot_list_getitem.lookup) ?_ (by with_unfolding_all rfl)
    refine wpAny_getItem_list_slice ht.isList (Heap.IsSliceOf.new _ vl vu vs) pl pu ps (by decide) ?_ (by rw [List.size_toArray]; omega)
    rw [PySem.W.krv_pick]
    refine ⟨.ref _, _, I5.laid (t' := s4.toks) (o := .lst xs.reverse) (fun b ob q => Heap.get?_push_of_some _ q) (Nat.le_refl _) ?_, rfl, q _ (I5.hok.fresh (Nat.le_refl _))⟩
    exact ⟨by rw [List.length_reverse]; exact hz, _, 0, r.reverse, Heap.get?_push_size _ rfl⟩
  · obtain ⟨its, r, ht, hz⟩ := I5.tuple hx
    have hlen := r.length
    refine PyProof.Rows.tail_any (ops := [.ref a, .ref s4.heap.objs.size]) ht.typeIs (PyProof.Rows.slot_tuple_getitem.lookup) ?_ (by with_unfolding_all rfl)
    refine getItem_tuple_rev ht (Heap.IsSliceOf.new _ vl vu vs) pl pu ps ?_ (by omega)
    refine ⟨.ref _, _, I5.laid (t' := s4.toks) (o := .tup xs.reverse) (fun b ob q => Heap.get?_push_of_some _ q) (Nat.le_refl _) ?_, rfl, q _ (I5.hok.fresh (Nat.le_refl _))⟩
    exact ⟨by rw [List.length_reverse]; exact hz, _, r.reverse, ⟨_, Heap.get?_push_size _ rfl, rfl, _, rfl⟩⟩
end MPE

/-! MPS: unpacking with a star, of a tuple. -/
namespace MPS
open PySem PySem.Spec L2
/-- a walk from its k-th turn on -/
theorem walks_from {prog : Program} {w : World} {A : Around} {I : Addr} {fp wr : List Addr} {n : Nat} {P : Nat → Value → Prop} {St : Nat → Heap → Prop} (W : Walks prog w A I fp wr n P St) (k : Nat) (hk : k ≤ n) :
    Walks prog w A I fp wr (n - k) (fun i v => P (k + i) v) (fun i h => St (k + i) h) where
  sub := W.sub
  frame := fun i h h' st q => W.frame (k + i) h h' st q
  item := fun i s Q E hi st hQ => W.item (k + i) s Q E (by omega) st fun v h' tk p st' q => hQ v h' tk p st' q
  done := fun s Q E st hQ => W.done s Q E (by have : k + (n - k) = n := by omega
                                              rw [this] at st; exact st) hQ
  self := fun i s Q E st hQ => W.self (k + i) s Q E st hQ
theorem itemsOf_drop {items : List Value} {acc : Array Value} {k : Nat} (hk : k ≤ items.length) (h : ItemsOf (fun i v => items.toArray[k + i]? = some v) acc (items.length - k)) : acc.toList = items.drop k := by
  apply List.ext_getElem?
  intro i
  have h1 : acc.size = items.length - k := h.1
  by_cases hi : i < items.length - k
  · have hv : acc[i]? = some (acc[i]'(by omega)) := by simp [h1, hi]
    have hp := h.2 i _ hv
    rw [Array.getElem?_toList, hv, List.getElem?_drop]
    simpa using hp.symm
  · rw [List.getElem?_eq_none (by rw [Array.length_toList]; omega), List.getElem?_eq_none (by rw [List.length_drop]; omega)]
section
variable {prog : Program} {w : World} {A : Around} {E : Value → Shared → Prop} {s : Shared}
theorem unpackItems_star {t : Addr} {its : List Value} {n i : Nat} {Q : List Value → Shared → Prop} (hh : A.handled = none) (ht : PyProof.Rows.IsTup s.heap t its.toArray) (hi : i < n) (hn : n ≤ its.length + 1) (hz : its.length ≤ sizeLine)
    (hQ : ∀ (s' : Shared), (∀ b o, s.heap.get? b = some o → s'.heap.get? b = some o) → s'.gens = s.gens → s'.os = s.os → s'.drawn = s.drawn →
      Q (its.take i ++ [.ref s'.heap.objs.size] ++ (its.drop i).drop (its.length - i - (n - 1 - i))) { s' with heap := s'.heap.push { cls := .type "list", data := .seq ((its.drop i).take (its.length - i - (n - 1 - i))).toArray } }) : wpAny (model prog w) A (unpackItems (.ref t) n (some i)) Q E s := by
  have hlt : t ≠ s.heap.objs.size := by obtain ⟨o, ho, _⟩ := ht; exact Nat.ne_of_lt (Heap.lt_size ho)
  unfold unpackItems
  refine wpAny_bind ?_
  unfold notIterableAtAll
  refine wpAny_bind (wpAny_specialOf ht.typeIs PyProof.Rows.slot_tuple_iter.lookup ?_)
  refine wpAny_pure ?_
  simp only [Bool.false_eq_true, if_false]
  refine wpAny_bind (wpAny_holding (wpAny_pyIter_tuple (show s.heap.IsTuple t its.toArray from ht) ?_))
  refine wpAny_bind (wpAny_holding (wpAny_draw_tuple hlt i 0 _ _ ⟨_, Heap.get?_push_size _ rfl, rfl, rfl⟩ (show Heap.IsTuple _ t its.toArray from ht.push _) (by rw [List.size_toArray]; omega) fun h₁ hit₁ hs₁ => ?_))
  rw [List.drop_zero]
  have htk : (List.take i its.toArray.toList).length = i := by simp; omega
  rw [if_neg (by rw [htk]; exact Nat.lt_irrefl _)]
  have ht₁ : PyProof.Rows.IsTup h₁ t its.toArray := (ht.push _).extBut hs₁.extBut hlt
  have keep₁ : ∀ b o, s.heap.get? b = some o → h₁.get? b = some o := fun b o e => hs₁.extBut b o (Nat.ne_of_lt (Heap.lt_size e)) (Heap.get?_push_of_some _ e)
  have hsz₁ : h₁.objs.size = s.heap.objs.size + 1 := by rw [hs₁.1]; exact Heap.size_push ..
  have W := (walks_from (Walks.tuple (prog := prog) (w := w) (A := A.in1) (show A.in1.handled = none from hh) s.heap.objs.size t hlt its.toArray) i (by rw [List.size_toArray]; omega)).toS
  have hit0 : h₁.IsTupleIter s.heap.objs.size t (i + 0) := by simpa using hit₁
  refine wpAny_bind (wpAny_holding (wpAny_collect_iter (T := "tuple_iterator") (.inr (.inr (.inr rfl))) W (fun j s' st => by
      obtain ⟨⟨o, ho, hc, _⟩, _⟩ := st
      exact ⟨o, ho, hc⟩) ⟨hit0, ht₁⟩ (fun b hb => ?_) (by simp) (fun s' acc hm hacc => ?_) (by rw [List.size_toArray]; omega)))
  · have e : b = s.heap.objs.size ∨ b = t := by simpa using hb
    show b < h₁.objs.size
    rcases e with e | e
    · rw [e, hsz₁]; exact Nat.lt_succ_self _
    · rw [e, hsz₁]
      obtain ⟨o, ho, _⟩ := ht
      exact Nat.lt_succ_of_lt (Heap.lt_size ho)
  · have hrest : acc.toList = its.drop i := itemsOf_drop (by omega) (by simpa using hacc)
    rw [hrest]
    have hl : (its.drop i).length = its.length - i := List.length_drop
    simp only [hl]
    rw [if_neg (by omega)]
    refine wpAny_bind (wpAny_newObj_type ?_ (by
      show (List.take _ _).toArray.size ≤ sizeLine
      rw [List.size_toArray, List.length_take, List.length_drop]
      omega))
    refine wpAny_pure ?_
    have hmk : ∀ b o, s.heap.get? b = some o → s'.heap.get? b = some o := fun b o e => hm.heap b o (by simp; exact Nat.ne_of_lt (Heap.lt_size e)) (keep₁ b o e)
    exact hQ s' hmk hm.gens hm.os hm.drawn
theorem unpackItems_starL {t : Addr} {its : List Value} {n i : Nat} {Q : List Value → Shared → Prop} (hh : A.handled = none) (ht : s.heap.IsList t its.toArray) (hi : i < n) (hn : n ≤ its.length + 1) (hz : its.length ≤ sizeLine)
    (hQ : ∀ (s' : Shared), (∀ b o, s.heap.get? b = some o → s'.heap.get? b = some o) → s'.gens = s.gens → s'.os = s.os → s'.drawn = s.drawn →
      Q (its.take i ++ [.ref s'.heap.objs.size] ++ (its.drop i).drop (its.length - i - (n - 1 - i))) { s' with heap := s'.heap.push { cls := .type "list", data := .seq ((its.drop i).take (its.length - i - (n - 1 - i))).toArray } }) : wpAny (model prog w) A (unpackItems (.ref t) n (some i)) Q E s := by
  have hlt : t ≠ s.heap.objs.size := by obtain ⟨o, ho, _⟩ := ht; exact Nat.ne_of_lt (Heap.lt_size ho)
  unfold unpackItems
  refine wpAny_bind ?_
  unfold notIterableAtAll
  refine wpAny_bind (wpAny_specialOf ht.typeIs PySem.slot_list_iter.lookup ?_)
  refine wpAny_pure ?_
  simp only [Bool.false_eq_true, if_false]
  refine wpAny_bind (wpAny_holding (wpAny_pyIter_list ht ?_))
  refine wpAny_bind (wpAny_holding (PySem.W.kun_draw hlt i 0 _ _ ⟨_, Heap.get?_push_size _ rfl, rfl, rfl⟩ (ht.push _) (by rw [List.size_toArray]; omega) fun h₁ hit₁ hs₁ => ?_))
  rw [List.drop_zero]
  have htk : (List.take i its.toArray.toList).length = i := by simp; omega
  rw [if_neg (by rw [htk]; exact Nat.lt_irrefl _)]
  have ht₁ : h₁.IsList t its.toArray := (ht.push _).extBut hs₁.extBut hlt
  have keep₁ : ∀ b o, s.heap.get? b = some o → h₁.get? b = some o := fun b o e => hs₁.extBut b o (Nat.ne_of_lt (Heap.lt_size e)) (Heap.get?_push_of_some _ e)
  have hsz₁ : h₁.objs.size = s.heap.objs.size + 1 := by rw [hs₁.1]; exact Heap.size_push ..
  have W := (walks_from (Walks.list (prog := prog) (w := w) (A := A.in1) (show A.in1.handled = none from hh) s.heap.objs.size t hlt its.toArray) i (by rw [List.size_toArray]; omega)).toS
  have hit0 : h₁.IsListIter s.heap.objs.size t (i + 0) := by simpa using hit₁
  refine wpAny_bind (wpAny_holding (wpAny_collect_iter (T := "list_iterator") (.inr (.inr (.inl rfl))) W (fun j s' st => by
      obtain ⟨⟨o, ho, hc, _⟩, _⟩ := st
      exact ⟨o, ho, hc⟩) ⟨hit0, ht₁⟩ (fun b hb => ?_) (by simp) (fun s' acc hm hacc => ?_) (by rw [List.size_toArray]; omega)))
  · have e : b = s.heap.objs.size ∨ b = t := by simpa using hb
    show b < h₁.objs.size
    rcases e with e | e
    · rw [e, hsz₁]; exact Nat.lt_succ_self _
    · rw [e, hsz₁]
      obtain ⟨o, ho, _⟩ := ht
      exact Nat.lt_succ_of_lt (Heap.lt_size ho)
  · have hrest : acc.toList = its.drop i := itemsOf_drop (by omega) (by simpa using hacc)
    rw [hrest]
    have hl : (its.drop i).length = its.length - i := List.length_drop
    simp only [hl]
    rw [if_neg (by omega)]
    refine wpAny_bind (wpAny_newObj_type ?_ (by
      show (List.take _ _).toArray.size ≤ sizeLine
      rw [List.size_toArray, List.length_take, List.length_drop]
      omega))
    refine wpAny_pure ?_
    have hmk : ∀ b o, s.heap.get? b = some o → s'.heap.get? b = some o := fun b o e => hm.heap b o (by simp; exact Nat.ne_of_lt (Heap.lt_size e)) (keep₁ b o e)
    exact hQ s' hmk hm.gens hm.os hm.drawn
end
/-- a, *rest, b = a tuple: i names ahead of the star, n targets in all -/
def gStar (K : PySem.W.Frag) (n i : Nat) (t : TGs) : TG := fun v σ H Q => ∃ a xs, v = .ref a ∧ SqT K H a xs ∧ n ≤ xs.length + 1 ∧
  ∀ p, H p = none → t (xs.take i ++ [.ref p] ++ (xs.drop i).drop (xs.length - i - (n - 1 - i))) σ (upd H p (.lst ((xs.drop i).take (xs.length - i - (n - 1 - i))))) Q
/-- the same of a list -/
def gStarL (K : PySem.W.Frag) (n i : Nat) (t : TGs) : TG := fun v σ H Q => ∃ a xs, v = .ref a ∧ SqL K H a xs ∧ n ≤ xs.length + 1 ∧
  ∀ p, H p = none → t (xs.take i ++ [.ref p] ++ (xs.drop i).drop (xs.length - i - (n - 1 - i))) σ (upd H p (.lst ((xs.drop i).take (xs.length - i - (n - 1 - i))))) Q
section
variable {X : Cx} {pos : Pos}
theorem pg_star {es : List Expr} {k : Nat} {t : TGs} {n i : Nat} (hc : X.calm = true) (h : PGs X es t) (hn : (assignEach es X.env).length = n) (hst : (assignEach es X.env).findIdx? (·.1) = some i) (hi : i < n) : PG X (.Tuple es k pos) (gStar X.K n i t) := by
  refine ⟨fun pins s σ H v u Q I r hw => ?_⟩
  obtain ⟨a, xs, e1, hq, hl, hw⟩ := hw
  subst e1
  cases r
  obtain ⟨its, rv, ht, hz⟩ := I.tuple hq
  have hlen := rv.length
  rw [PyProof.Rows.assign_Tuple]
  refine wpAny_bind (wpAny_standAt ?_)
  unfold unpack
  rw [hn, hst]
  refine wpAny_bind (wpAny_holding (unpackItems_star (I.ok.hd hc) ht hi (by omega) (by omega) fun s' hk hg ho hd => ?_))
  obtain ⟨h1, g1, d1, t1, o1⟩ := s'
  obtain ⟨h0, g0, d0, t0, o0⟩ := s
  simp only at hk hg ho hd
  subst hg ho hd
  have I1 : Inv X pins σ H ⟨h1, g1, d1, t1, o1⟩ := I.kept (t' := t1) hk
  have rl : Vals ((xs.drop i).take (xs.length - i - (n - 1 - i))) ((its.drop i).take (its.length - i - (n - 1 - i))) := by
    rw [← hlen]; exact (rv.drop _).take _
  have I2 : Inv X pins σ (upd H h1.objs.size (.lst ((xs.drop i).take (xs.length - i - (n - 1 - i))))) ⟨h1.push { cls := .type "list", data := .seq ((its.drop i).take (its.length - i - (n - 1 - i))).toArray }, g1, d1, t1, o1⟩ :=
    I1.laid (t' := t1) (fun b o e => Heap.get?_push_of_some _ e) (Nat.le_refl _) ⟨by rw [List.length_take, List.length_drop]; omega, _, 0, rl, Heap.get?_push_size _ rfl⟩
  refine h.run pins _ σ _ _ _ Q I2 ?_ (hw _ (I1.hok.fresh (Nat.le_refl _)))
  refine Vals.append (Vals.append (rv.take _) (.cons rfl .nil)) ?_
  rw [← hlen]
  exact (rv.drop _).drop _
theorem pg_starL {es : List Expr} {k : Nat} {t : TGs} {n i : Nat} (hc : X.calm = true) (h : PGs X es t) (hn : (assignEach es X.env).length = n) (hst : (assignEach es X.env).findIdx? (·.1) = some i) (hi : i < n) : PG X (.Tuple es k pos) (gStarL X.K n i t) := by
  refine ⟨fun pins s σ H v u Q I r hw => ?_⟩
  obtain ⟨a, xs, e1, hq, hl, hw⟩ := hw
  subst e1
  cases r
  obtain ⟨its, rv, ht0, hz⟩ := I.list hq
  have ht := ht0.isList
  have hlen := rv.length
  rw [PyProof.Rows.assign_Tuple]
  refine wpAny_bind (wpAny_standAt ?_)
  unfold unpack
  rw [hn, hst]
  refine wpAny_bind (wpAny_holding (unpackItems_starL (I.ok.hd hc) ht hi (by omega) (by omega) fun s' hk hg ho hd => ?_))
  obtain ⟨h1, g1, d1, t1, o1⟩ := s'
  obtain ⟨h0, g0, d0, t0, o0⟩ := s
  simp only at hk hg ho hd
  subst hg ho hd
  have I1 : Inv X pins σ H ⟨h1, g1, d1, t1, o1⟩ := I.kept (t' := t1) hk
  have rl : Vals ((xs.drop i).take (xs.length - i - (n - 1 - i))) ((its.drop i).take (its.length - i - (n - 1 - i))) := by
    rw [← hlen]; exact (rv.drop _).take _
  have I2 : Inv X pins σ (upd H h1.objs.size (.lst ((xs.drop i).take (xs.length - i - (n - 1 - i))))) ⟨h1.push { cls := .type "list", data := .seq ((its.drop i).take (its.length - i - (n - 1 - i))).toArray }, g1, d1, t1, o1⟩ :=
    I1.laid (t' := t1) (fun b o e => Heap.get?_push_of_some _ e) (Nat.le_refl _) ⟨by rw [List.length_take, List.length_drop]; omega, _, 0, rl, Heap.get?_push_size _ rfl⟩
  refine h.run pins _ σ _ _ _ Q I2 ?_ (hw _ (I1.hok.fresh (Nat.le_refl _)))
  refine Vals.append (Vals.append (rv.take _) (.cons rfl .nil)) ?_
  rw [← hlen]
  exact (rv.drop _).drop _
theorem PG.or {e : Expr} {g h : TG} (a : PG X e g) (b : PG X e h) : PG X e (fun v σ H Q => g v σ H Q ∨ h v σ H Q) :=
  ⟨fun pins s σ H v u Q I r hw => hw.elim (fun z => a.run pins s σ H v u Q I r z) fun z => b.run pins s σ H v u Q I r z⟩
theorem pgs_starred {e : Expr} {es : List Expr} {t : TG} {u : TGs} {sp : Pos} (h1 : PG X e t) (h2 : PGs X es u) : PGs X (.Starred e sp :: es) (gCons t u) := by
  refine ⟨fun pins s σ H vs us Q I r h => ?_⟩
  obtain ⟨v, vr, e1, h⟩ := h
  subst e1
  cases r with
  | cons r rr =>
    show wpAny _ _ (assignInOrder (assign e X.env :: (assignEach es X.env).map (·.2)) _) _ _ _
    refine PyProof.Rows.assignInOrder_cons (thn (h1.run pins s σ H _ _ _ I r h) fun _ s1 ⟨σ1, H1, I1, q1⟩ => ?_)
    exact h2.run pins s1 σ1 H1 _ _ Q I1 rr q1
end
end MPS

set_option maxHeartbeats 1000000
/-! MPZ: zip of a tuple and a list. -/
namespace MPZ
open PySem PySem.Spec PyProof.Rows L2 RZ
abbrev nxt (i : Addr) : Sem Value := Builtin.SmallTypes.nextOf (.ref i)
/-- an iterator i over what stands at l, as zip steps it -/
structure Stp (i l : Addr) (items : Array Value) (St : Nat → Heap → Prop) : Prop where
  mv : ∀ {k : Nat} {h h' : Heap}, St k h → (∀ o, h.get? i = some o → h'.get? i = some o) → (∀ o, h.get? l = some o → h'.get? l = some o) → St k h'
  ob : ∀ {k : Nat} {h : Heap}, St k h → ∃ o, h.get? i = some o ∧ ∀ v, o.data ≠ .cell v
  item : ∀ {P : Program} {w : World} {A : Around} {E : Value → Shared → Prop} {s : Shared} {k : Nat} {x : Value} {Q : Value → Shared → Prop}, St k s.heap → items[k]? = some x →
    (∀ h', St (k + 1) h' → Heap.SameBut i s.heap h' → Q x { s with heap := h' }) → wpAny (model P w) A (nxt i) Q E s
  stop : ∀ {P : Program} {w : World} {A : Around} {E : Value → Shared → Prop} {s : Shared} {k : Nat} {Q : Value → Shared → Prop}, A.handled = none → St k s.heap → items[k]? = none →
    (∀ h' e, Heap.ExtBut i s.heap h' → (∃ o, h'.get? e = some o ∧ o.cls = .type "StopIteration") → E (.ref e) { s with heap := h' }) → wpAny (model P w) A (nxt i) Q E s
theorem stp_tup {i l : Addr} {items : Array Value} (hne : l ≠ i) : Stp i l items (fun k h => h.IsTupleIter i l k ∧ h.IsTuple l items) where
  mv := fun a b d => ⟨a.1.at b, a.2.at d⟩
  ob := fun ⟨⟨o, e, _, d⟩, _⟩ => ⟨o, e, fun v q => by rw [d] at q; cases q⟩
  item := fun a hx k => nextOf_tuple_item a.1 a.2 hx fun h' b d => k h' ⟨b, a.2.extBut d.extBut hne⟩ d
  stop := fun hh a hx k => nextOf_tuple_end hh a.1 a.2 hx k
theorem stp_lst {i l : Addr} {items : Array Value} (hne : l ≠ i) : Stp i l items (fun k h => h.IsListIter i l k ∧ h.IsList l items) where
  mv := fun a b d => ⟨a.1.at b, a.2.at d⟩
  ob := fun ⟨⟨o, e, _, d⟩, _⟩ => ⟨o, e, fun v q => by rw [d] at q; cases q⟩
  item := fun a hx k => wpAny_nextOf_list_item a.1 a.2 hx fun h' b d => k h' ⟨b, a.2.extBut d.extBut hne⟩ d
  stop := fun hh a hx k => wpAny_nextOf_list_end hh a.1 a.2 hx k
section
variable {P : Program} {w : World} {A : Around} {E : Value → Shared → Prop} {s : Shared} {z TI TO i1 i2 l1 l2 : Addr} {k : Nat} {xs ys : Array Value} {x y a b : Value} {S1 S2 : Nat → Heap → Prop}
theorem zx_item {Q : Option Value → Shared → Prop} (D : ZipApart z TI TO i1 i2 l1 l2) (P1 : Stp i1 l1 xs S1) (P2 : Stp i2 l2 ys S2)
    (hz : IsZip s.heap z TI TO .none) (hTI : IsPair s.heap TI (.ref i1) (.ref i2)) (hTO : IsPair s.heap TO a b) (a1 : S1 k s.heap) (a2 : S2 k s.heap) (hx : xs[k]? = some x) (hy : ys[k]? = some y)
    (hQ : ∀ h', IsZip h' z TI TO (rawInt s.heap.objs.size) → IsPair h' TO x y → S1 (k + 1) h' → S2 (k + 1) h' → IsPair h' s.heap.objs.size x y → h'.objs.size = s.heap.objs.size + 1 →
      (∀ c o, c ≠ z → c ≠ TO → c ≠ i1 → c ≠ i2 → s.heap.get? c = some o → h'.get? c = some o) → Q (some (.ref s.heap.objs.size)) { s with heap := h' }) : wpAny (model P w) A (pyNext (.ref z)) Q E s := by
  have hT : s.TypeIs (.ref z) "zip" := ⟨_, hz, rfl⟩
  unfold pyNext
  refine wpAny_bind (wpAny_attempt (wpAny_callSpecial?_slot (name := Str.ofString "__next__") hT F.slot_zip_next (wpAny_call_entry F.slot_zip_next hT F.entry_zip_next ?_ (F.args_zip_next_1 _))))
  show wpAny _ _ (field (.ref z) 2 >>= _) _ _ _; refine wpAny_bind (wpAny_field hz rfl (x := .bool false) rfl ?_)
  show wpAny _ _ (field (.ref z) 3 >>= _) _ _ _; refine wpAny_bind (wpAny_field hz rfl (x := .ref TI) rfl (wpAny_bind (wpAny_seqItems hTI rfl ?_)))
  show wpAny _ _ (Builtin.SmallTypes.ownedTupleIsFree (.ref z) >>= _) _ _ _; refine wpAny_bind ?_
  unfold Builtin.SmallTypes.ownedTupleIsFree
  refine wpAny_bind (wpAny_field hz rfl (x := .none) rfl (wpAny_pure ?_)); simp only [if_true]
  refine wpAny_bind (wpAny_rule (wpAny_bind (wpAny_field hz rfl (x := .ref TO) rfl (wpAny_bind (wpAny_setField_rec hz (by simp) fun g1 z1 b1 => ?_)))))
  replace z1 : IsZip g1 z TI TO .ellipsis := z1
  refine wpAny_bind ?_; simp only [List.zipIdx_cons, List.zipIdx_nil, List.forIn_cons, List.forIn_nil]
  have m1 : S1 k g1 := P1.mv a1 (fun o e => b1.extBut _ _ D.i1z e) fun o e => b1.extBut _ _ D.l1z e
  have m2 : S2 k g1 := P2.mv a2 (fun o e => b1.extBut _ _ D.i2z e) fun o e => b1.extBut _ _ D.l2z e
  refine wpAny_bind (wpAny_bind (wpAny_onRaise ?_)); show wpAny _ _ (nxt i1 >>= _) _ _ _
  refine wpAny_bind (P1.item m1 hx fun g2 m12 b2 => wpAny_pure ?_)
  have o2 : IsPair g2 TO a b := b2.extBut _ _ D.TOi1 (b1.extBut _ _ D.TOz hTO)
  refine wpAny_bind (wpAny_seqItems o2 rfl (wpAny_bind (wpAny_updateSeq_pair o2 fun g3 o3 b3 => ?_)))
  replace o3 : IsPair g3 TO x b := o3
  refine wpAny_bind (wpAny_letGo (wpAny_pure (wpAny_bind (wpAny_bind (wpAny_onRaise ?_)))))
  show wpAny _ _ (nxt i2 >>= _) _ _ _
  have m3 : S2 k g3 := P2.mv m2 (fun o e => b3.extBut _ _ D.TOi2.symm (b2.extBut _ _ D.i12.symm e)) fun o e => b3.extBut _ _ D.l2TO (b2.extBut _ _ D.l2i1 e)
  refine wpAny_bind (P2.item m3 hy fun g4 m4 b4 => wpAny_pure ?_)
  have o4 : IsPair g4 TO x b := b4.extBut _ _ D.TOi2 o3
  refine wpAny_bind (wpAny_seqItems o4 rfl (wpAny_bind (wpAny_updateSeq_pair o4 fun g5 o5 b5 => ?_)))
  replace o5 : IsPair g5 TO x y := o5
  refine wpAny_bind (wpAny_letGo (wpAny_pure (wpAny_pure (wpAny_bind (wpAny_seqItems o5 rfl (wpAny_bind (wpAny_newTuple ?_)))))))
  have sz : g5.objs.size = s.heap.objs.size := by rw [b5.1, b4.1, b3.1, b2.1, b1.1]
  have z5 : IsZip g5 z TI TO .ellipsis := b5.extBut _ _ D.TOz.symm (b4.extBut _ _ D.i2z.symm (b3.extBut _ _ D.TOz.symm (b2.extBut _ _ D.i1z.symm z1)))
  have kp : ∀ c o, c ≠ z → c ≠ TO → c ≠ i1 → c ≠ i2 → s.heap.get? c = some o → g5.get? c = some o := fun c o c1 c2 c3 c4 e => b5.extBut _ _ c2 (b4.extBut _ _ c4 (b3.extBut _ _ c2 (b2.extBut _ _ c3 (b1.extBut _ _ c1 e))))
  have n1 : S1 (k + 1) g5 := P1.mv m12 (fun o e => b5.extBut _ _ D.TOi1.symm (b4.extBut _ _ D.i12 (b3.extBut _ _ D.TOi1.symm e))) fun o e => b5.extBut _ _ D.l1TO (b4.extBut _ _ D.l1i2 (b3.extBut _ _ D.l1TO e))
  have n2 : S2 (k + 1) g5 := P2.mv m4 (fun o e => b5.extBut _ _ D.TOi2.symm e) fun o e => b5.extBut _ _ D.l2TO e
  have lz : z < g5.objs.size := Heap.lt_size z5
  show wpAny _ _ (Builtin.SmallTypes.ownedTupleHandOut (.ref z) (.ref g5.objs.size) >>= _) _ _ _; refine wpAny_bind ?_
  unfold Builtin.SmallTypes.ownedTupleHandOut
  have z6 : IsZip (g5.push { cls := .type "tuple", data := .seq #[x, y] }) z TI TO .ellipsis := Heap.get?_push_of_some _ z5
  refine wpAny_bind (wpAny_setField_rec z6 (by simp) fun g7 z7 b7 => ?_); replace z7 : IsZip g7 z TI TO (rawInt g5.objs.size) := z7
  refine wpAny_setField_rec z7 (by simp) fun g8 z8 b8 => ?_; replace z8 : IsZip g8 z TI TO (rawInt g5.objs.size) := z8
  have up : ∀ c o, c ≠ z → g5.get? c = some o → g8.get? c = some o := fun c o c1 e => b8.extBut _ _ c1 (b7.extBut _ _ c1 (Heap.get?_push_of_some _ e))
  have t8 : IsPair g8 g5.objs.size x y := b8.extBut _ _ (Nat.ne_of_gt lz) (b7.extBut _ _ (Nat.ne_of_gt lz) (Heap.get?_push_size _ rfl))
  have s8 : g8.objs.size = g5.objs.size + 1 := by rw [b8.1, b7.1, Heap.size_push]
  rw [sz] at z8 t8 s8
  refine wpAny_pure ⟨_, rfl, ?_⟩
  refine wpAny_pure ?_
  show Q (some (.ref g5.objs.size)) _
  rw [sz]
  exact hQ g8 z8 (up _ _ D.TOz o5) (P1.mv n1 (fun o e => up _ o D.i1z e) fun o e => up _ o D.l1z e) (P2.mv n2 (fun o e => up _ o D.i2z e) fun o e => up _ o D.l2z e) t8 s8 fun c o c1 c2 c3 c4 e => up c o c1 (kp c o c1 c2 c3 c4 e)
theorem zx_end {Q : Option Value → Shared → Prop} (hh : A.handled = none) (D : ZipApart z TI TO i1 i2 l1 l2) (P1 : Stp i1 l1 xs S1) (P2 : Stp i2 l2 ys S2)
    (hz : IsZip s.heap z TI TO .none) (hTI : IsPair s.heap TI (.ref i1) (.ref i2)) (hTO : IsPair s.heap TO a b) (a1 : S1 k s.heap) (a2 : S2 k s.heap) (hend : xs[k]? = none ∨ ys[k]? = none)
    (hQ : ∀ h', (∀ c o, c ≠ z → c ≠ TO → c ≠ i1 → c ≠ i2 → s.heap.get? c = some o → h'.get? c = some o) → Q none { s with heap := h' }) : wpAny (model P w) A (pyNext (.ref z)) Q E s := by
  have hT : s.TypeIs (.ref z) "zip" := ⟨_, hz, rfl⟩
  have fin : ∀ (h' : Heap) (e : Addr), (∀ c o, c ≠ z → c ≠ TO → c ≠ i1 → c ≠ i2 → s.heap.get? c = some o → h'.get? c = some o) → (∃ o, h'.get? e = some o ∧ o.cls = .type "StopIteration") →
      wpAny (model P w) A (isInstance (.ref e) (.type "StopIteration") >>= fun b => if b = true then pure none else throw (.ref e)) Q E { s with heap := h' } := fun h' e hk ⟨o, ho, hc⟩ =>
    wpAny_bind (wpAny_isInstance (T := "StopIteration") (b := true) ⟨o, ho, hc⟩ isSubtype_stop (wpAny_pure (hQ _ hk)))
  unfold pyNext
  refine wpAny_bind (wpAny_attempt (wpAny_callSpecial?_slot (name := Str.ofString "__next__") hT F.slot_zip_next (wpAny_call_entry F.slot_zip_next hT F.entry_zip_next ?_ (F.args_zip_next_1 _))))
  show wpAny _ _ (field (.ref z) 2 >>= _) _ _ _; refine wpAny_bind (wpAny_field hz rfl (x := .bool false) rfl ?_)
  show wpAny _ _ (field (.ref z) 3 >>= _) _ _ _; refine wpAny_bind (wpAny_field hz rfl (x := .ref TI) rfl (wpAny_bind (wpAny_seqItems hTI rfl ?_)))
  show wpAny _ _ (Builtin.SmallTypes.ownedTupleIsFree (.ref z) >>= _) _ _ _; refine wpAny_bind ?_
  unfold Builtin.SmallTypes.ownedTupleIsFree
  refine wpAny_bind (wpAny_field hz rfl (x := .none) rfl (wpAny_pure ?_)); simp only [if_true]
  refine wpAny_bind (wpAny_rule (wpAny_bind (wpAny_field hz rfl (x := .ref TO) rfl (wpAny_bind (wpAny_setField_rec hz (by simp) fun g1 z1 b1 => ?_)))))
  replace z1 : IsZip g1 z TI TO .ellipsis := z1
  refine wpAny_bind ?_; simp only [List.zipIdx_cons, List.zipIdx_nil, List.forIn_cons, List.forIn_nil]
  have m1 : S1 k g1 := P1.mv a1 (fun o e => b1.extBut _ _ D.i1z e) fun o e => b1.extBut _ _ D.l1z e
  have m2 : S2 k g1 := P2.mv a2 (fun o e => b1.extBut _ _ D.i2z e) fun o e => b1.extBut _ _ D.l2z e
  refine wpAny_bind (wpAny_bind (wpAny_onRaise ?_)); show wpAny _ _ (nxt i1 >>= _) _ _ _
  cases hx : xs[k]? with
  | none =>
    refine wpAny_bind (P1.stop hh m1 hx fun g2 e b2 he => ?_)
    obtain ⟨oe, hoe, hce⟩ := he
    have z2 : IsZip g2 z TI TO .ellipsis := b2 _ _ D.i1z.symm z1
    have nez : e ≠ z := fun q => by subst q; rw [z2] at hoe; cases hoe; simp at hce
    exact wpAny_setField_rec z2 (by simp) fun g3 _ b3 => fin g3 e (fun c o c1 _ c3 _ q => b3.extBut _ _ c1 (b2 _ _ c3 (b1.extBut _ _ c1 q))) ⟨oe, b3.extBut _ _ nez hoe, hce⟩
  | some x =>
    have hy : ys[k]? = none := by rcases hend with q | q; rw [hx] at q; cases q; exact q
    refine wpAny_bind (P1.item m1 hx fun g2 m12 b2 => wpAny_pure ?_)
    have o2 : IsPair g2 TO a b := b2.extBut _ _ D.TOi1 (b1.extBut _ _ D.TOz hTO)
    refine wpAny_bind (wpAny_seqItems o2 rfl (wpAny_bind (wpAny_updateSeq_pair o2 fun g3 o3 b3 => ?_)))
    refine wpAny_bind (wpAny_letGo (wpAny_pure (wpAny_bind (wpAny_bind (wpAny_onRaise ?_)))))
    show wpAny _ _ (nxt i2 >>= _) _ _ _
    have m3 : S2 k g3 := P2.mv m2 (fun o e => b3.extBut _ _ D.TOi2.symm (b2.extBut _ _ D.i12.symm e)) fun o e => b3.extBut _ _ D.l2TO (b2.extBut _ _ D.l2i1 e)
    refine wpAny_bind (P2.stop hh m3 hy fun g4 e b4 he => ?_)
    obtain ⟨oe, hoe, hce⟩ := he
    have z4 : IsZip g4 z TI TO .ellipsis := b4 _ _ D.i2z.symm (b3.extBut _ _ D.TOz.symm (b2.extBut _ _ D.i1z.symm z1))
    have nez : e ≠ z := fun q => by subst q; rw [z4] at hoe; cases hoe; simp at hce
    exact wpAny_setField_rec z4 (by simp) fun g5 _ b5 => fin g5 e (fun c o c1 c2 c3 c4 q => b5.extBut _ _ c1 (b4 _ _ c4 (b3.extBut _ _ c2 (b2.extBut _ _ c3 (b1.extBut _ _ c1 q))))) ⟨oe, b5.extBut _ _ nez hoe, hce⟩
end
/-! making one -/
abbrev H1 (h : Heap) (l1 : Addr) : Heap := h.push { cls := .type "tuple_iterator", data := .fields #[.ref l1, .int 0 0] }
abbrev H2 (h : Heap) (l1 l2 : Addr) : Heap := (H1 h l1).push { cls := .type "list_iterator", data := .fields #[.ref l2, .int 0 0] }
abbrev H3 (h : Heap) (l1 l2 : Addr) : Heap := (H2 h l1 l2).push { cls := .type "tuple", data := .seq #[.ref h.objs.size, .ref (H1 h l1).objs.size] }
abbrev H4 (h : Heap) (l1 l2 : Addr) : Heap := (H3 h l1 l2).push { cls := .type "tuple", data := .seq #[.none, .none] }
abbrev H5 (h : Heap) (l1 l2 : Addr) : Heap := (H4 h l1 l2).push { cls := .type "zip", data := .fields #[.none, .bool false, .bool false, .ref (H2 h l1 l2).objs.size, .ref (H3 h l1 l2).objs.size] }
theorem new_meets (l1 l2 : Addr) (xs ys : Array Value) :
    Meets (Builtin.«zip.__new__» ⟨[.type "zip", .ref l1, .ref l2], []⟩) (fun _ R s => s.heap.IsTuple l1 xs ∧ s.heap.IsList l2 ys ∧ R (.ok (.ret (.ref (H4 s.heap l1 l2).objs.size))) { s with heap := H5 s.heap l1 l2 }) :=
  .of_wp fun prog w A R s h => by
    obtain ⟨hp, g, d, tk, os⟩ := s; obtain ⟨q1, q2, h⟩ := h
    have hsub := sub_zip
    have j1 : Heap.IsTuple (Shared.heap ⟨hp, g, d, tk, os⟩) l1 xs := q1
    have j2 : Heap.IsList (Shared.heap ⟨hp.push { cls := .type "tuple_iterator", data := .fields #[.ref l1, .int 0 0] }, g, d, tk, os⟩) l2 ys := Heap.IsList.push q2 _
    wp_walk using wpAny_pyIter_tuple j1, wpAny_pyIter_list j2
    exact ⟨_, rfl, h⟩
theorem call_zipX {P : Program} {w : World} {A : Around} {E : Value → Shared → Prop} {s : Shared} {l1 l2 : Addr} {xs ys : Array Value} {Q : Value → Shared → Prop} (q1 : s.heap.IsTuple l1 xs) (q2 : s.heap.IsList l2 ys)
    (h : ∀ h', IsZip h' (s.heap.objs.size + 4) (s.heap.objs.size + 2) (s.heap.objs.size + 3) .none → IsPair h' (s.heap.objs.size + 2) (.ref s.heap.objs.size) (.ref (s.heap.objs.size + 1)) →
      IsPair h' (s.heap.objs.size + 3) .none .none → h'.IsTupleIter s.heap.objs.size l1 0 → h'.IsListIter (s.heap.objs.size + 1) l2 0 → (∀ c o, s.heap.get? c = some o → h'.get? c = some o) → Q (.ref (s.heap.objs.size + 4)) { s with heap := h' }) :
    wpAny (model P w) A (call (.type "zip") [.ref l1, .ref l2]) Q E s := by
  refine callType_new F.called_zip (by decide) (F.typeCall_zip_2 _ _) (F.newCall_zip_2 _ _) (fun obj => F.args_object_init_3 obj _ _) F.entry_zip_new (new_meets l1 l2 xs ys) ⟨q1, q2, ?_⟩
  have e1 : (H1 s.heap l1).objs.size = s.heap.objs.size + 1 := Heap.size_push ..
  have e2 : (H2 s.heap l1 l2).objs.size = s.heap.objs.size + 2 := by rw [Heap.size_push, e1]
  have e3 : (H3 s.heap l1 l2).objs.size = s.heap.objs.size + 3 := by rw [Heap.size_push, e2]
  have e4 : (H4 s.heap l1 l2).objs.size = s.heap.objs.size + 4 := by rw [Heap.size_push, e3]
  have f5 : (H5 s.heap l1 l2).get? (H4 s.heap l1 l2).objs.size = some _ := Heap.get?_push_size _ rfl
  have f4 : (H5 s.heap l1 l2).get? (H3 s.heap l1 l2).objs.size = some _ := Heap.get?_push_of_some _ (Heap.get?_push_size _ rfl)
  have f3 : (H5 s.heap l1 l2).get? (H2 s.heap l1 l2).objs.size = some _ := Heap.get?_push_of_some _ (Heap.get?_push_of_some _ (Heap.get?_push_size _ rfl))
  have f2 : (H5 s.heap l1 l2).get? (H1 s.heap l1).objs.size = some _ := Heap.get?_push_of_some _ (Heap.get?_push_of_some _ (Heap.get?_push_of_some _ (Heap.get?_push_size _ rfl)))
  have f1 : (H5 s.heap l1 l2).get? s.heap.objs.size = some _ := Heap.get?_push_of_some _ (Heap.get?_push_of_some _ (Heap.get?_push_of_some _ (Heap.get?_push_of_some _ (Heap.get?_push_size _ rfl))))
  show _ ∧ _
  rw [e2, e3, e4] at f5; rw [e1, e2] at f3; rw [e3] at f4; rw [e1] at f2; rw [e4]
  exact ⟨⟨_, f5, rfl⟩, h _ f5 f3 f4 ⟨_, f1, rfl, rfl⟩ ⟨_, f2, rfl, rfl⟩ fun c o q => Heap.get?_push_of_some _ (Heap.get?_push_of_some _ (Heap.get?_push_of_some _ (Heap.get?_push_of_some _ (Heap.get?_push_of_some _ q))))⟩
/-- the tuple at a and the list at b, the items in new pairs -/
def ItzM (K : PySem.W.Frag) (a b : Addr) : It :=
  ⟨fun i H => ∃ (xs ys : List V) (x y : V), SqT K H a xs ∧ SqL K H b ys ∧ xs[i]? = some x ∧ ys[i]? = some y,
    fun i H v H' => ∃ T x y, v = .ref T ∧ H T = none ∧ H' = upd H T (.tup [x, y]) ∧ (∀ xs, SqT K H a xs → xs[i]? = some x) ∧ ∀ ys, SqL K H b ys → ys[i]? = some y,
    fun i H => ∃ xs ys : List V, SqT K H a xs ∧ SqL K H b ys ∧ (xs.length ≤ i ∨ ys.length ≤ i)⟩
theorem turn_zipM {P : Program} {w : World} {K : PySem.W.Frag} {elts : List Expr} {kk : Nat} {tpos : Pos} {a b z TI TO i1 i2 : Addr} (D : ZipApart z TI TO i1 i2 a b) :
    Turn P w K (.Tuple elts kk tpos) (ItzM K a b) [z, TI, TO, i1, i2] z (fun i h => IsZip h z TI TO .none ∧ IsPair h TI (.ref i1) (.ref i2) ∧ (∃ x y, IsPair h TO x y) ∧ h.IsTupleIter i1 a i ∧ h.IsListIter i2 b i) where
  mem := by simp
  obj := fun i h st c hc => by
    obtain ⟨hz, hTI, ⟨x, y, hTO⟩, ⟨o1, e1, _, d1⟩, ⟨o2, e2, _, d2⟩⟩ := st
    simp only [List.mem_cons, List.not_mem_nil, or_false] at hc
    rcases hc with rfl | rfl | rfl | rfl | rfl
    · exact ⟨_, hz, fun v q => nomatch q⟩
    · exact ⟨_, hTI, fun v q => nomatch q⟩
    · exact ⟨_, hTO, fun v q => nomatch q⟩
    · exact ⟨o1, e1, fun v q => by rw [d1] at q; cases q⟩
    · exact ⟨o2, e2, fun v q => by rw [d2] at q; cases q⟩
  keep := fun i h h' st k => by
    obtain ⟨hz, hTI, ⟨x, y, hTO⟩, q1, q2⟩ := st
    exact ⟨k z (by simp) _ hz, k TI (by simp) _ hTI, ⟨x, y, k TO (by simp) _ hTO⟩, q1.at fun o q => k i1 (by simp) o q, q2.at fun o q => k i2 (by simp) o q⟩
  item := by
    intro X hP hw hK hc i pins s σ H E I hf st hg
    subst hP hw hK
    obtain ⟨hz, hTI, ⟨x0, y0, hTO⟩, q1, q2⟩ := st
    obtain ⟨xs, ys, x, y, hqx, hqy, hx, hy⟩ := hg
    obtain ⟨its, rv, p, _⟩ := I.tuple hqx
    obtain ⟨its2, rv2, p2, _⟩ := I.list hqy
    obtain ⟨u, hu, ru⟩ := rv.get hx
    obtain ⟨u2, hu2, ru2⟩ := rv2.get hy
    have lz : z < s.heap.objs.size := Heap.lt_size hz
    refine zx_item D (stp_tup D.l1i1) (stp_lst D.l2i2) hz hTI hTO ⟨q1, (show s.heap.IsTuple a its.toArray from p)⟩ ⟨q2, p2.isList⟩ (x := u) (y := u2) (by simpa using hu) (by simpa using hu2) fun h' z' TO' m1 m2 hT hsz hk => ?_
    refine ⟨_, rfl, wpAny_letOwnedTupleGo_zip (s := { s with heap := h' }) z' fun h2 z2 sb => ?_⟩
    have hT2 : h2.get? s.heap.objs.size = some { cls := .type "tuple", data := .seq #[u, u2] } := (sb.2 _ (Nat.ne_of_gt lz)).trans hT
    have nw : ObjOk X.prog X.w (upd H s.heap.objs.size (.tup [x, y])) h2 s.heap.objs.size (.tup [x, y]) := ⟨by show 2 ≤ sizeLine; decide, [u, u2], .cons ru (.cons ru2 .nil), ⟨_, hT2, rfl, _, rfl⟩⟩
    have J : Inv X pins σ (upd H s.heap.objs.size (.tup [x, y])) { s with heap := h2 } :=
      I.turnedNew (t' := s.toks) (ch := [z, TI, TO, i1, i2]) (fun c o hb q => (sb.2 c (fun e => hb (by simp [e]))).trans (hk c o (fun e => hb (by simp [e])) (fun e => hb (by simp [e])) (fun e => hb (by simp [e])) (fun e => hb (by simp [e])) q)) hf (Nat.le_refl _) nw
    refine ⟨.ref s.heap.objs.size, _, J, rfl, ⟨_, x, y, rfl, I.hok.fresh (Nat.le_refl _), rfl, fun l hl => by rw [I.tuple_inj hl hqx]; exact hx, fun l hl => by rw [I.list_inj hl hqy]; exact hy⟩, ⟨z2, ?_, ⟨u, u2, ?_⟩, ?_, ?_⟩, fun c hcm => ?_⟩
    · exact (sb.2 _ D.TIz).trans (hk _ _ D.TIz D.TITO D.TIi1 D.TIi2 hTI)
    · exact (sb.2 _ D.TOz).trans TO'
    · exact m1.1.at fun o q => (sb.2 _ D.i1z).trans q
    · exact m2.1.at fun o q => (sb.2 _ D.i2z).trans q
    · have hlt : c < s.heap.objs.size := by
        simp only [List.mem_cons, List.not_mem_nil, or_false] at hcm
        rcases hcm with rfl | rfl | rfl | rfl | rfl
        · exact lz
        · exact Heap.lt_size hTI
        · exact Heap.lt_size hTO
        · obtain ⟨_, e1, _⟩ := q1; exact Heap.lt_size e1
        · obtain ⟨_, e2, _⟩ := q2; exact Heap.lt_size e2
      rw [upd_ne (Nat.ne_of_lt hlt)]
      exact (hf c hcm).1
  done := by
    intro X hP hw hK hc i pins s σ H E I hf st hg
    subst hP hw hK
    obtain ⟨hz, hTI, ⟨x0, y0, hTO⟩, q1, q2⟩ := st
    obtain ⟨xs, ys, hqx, hqy, hend⟩ := hg
    obtain ⟨its, rv, p, _⟩ := I.tuple hqx
    obtain ⟨its2, rv2, p2, _⟩ := I.list hqy
    have l1 := rv.length
    have l2 := rv2.length
    have he : its.toArray[i]? = none ∨ its2.toArray[i]? = none := hend.imp (fun q => by simp; omega) fun q => by simp; omega
    exact zx_end (I.ok.hd hc) D (stp_tup D.l1i1) (stp_lst D.l2i2) hz hTI hTO ⟨q1, (show s.heap.IsTuple a its.toArray from p)⟩ ⟨q2, p2.isList⟩ he fun h' hk => ⟨rfl, I.turnedL (t' := s.toks) (ch := [z, TI, TO, i1, i2])
      (fun c o hb q => hk c o (fun e => hb (by simp [e])) (fun e => hb (by simp [e])) (fun e => hb (by simp [e])) (fun e => hb (by simp [e])) q) hf⟩
  self := fun A i s Q E st h => wpAny_pyIter_zip st.1 h
def iZipM (K : PySem.W.Frag) (ta : TA) : TI := fun σ H R => ta σ H fun vs H1 => ∃ a b xs ys, vs = [.ref a, .ref b] ∧ SqT K H1 a xs ∧ SqL K H1 b ys ∧ R (ItzM K a b) H1
theorem run_zipM {X : Cx} {pins : List (Addr × Obj)} {σ : L2.St} {H : Hp} {s : Shared} {a b : Addr} {xs ys : List V} {elts : List Expr} {kk : Nat} {tpos : Pos} {Q : Value → Shared → Prop} (I : Inv X pins σ H s) (q1 : SqT X.K H a xs) (q2 : SqL X.K H b ys)
    (h : ∀ h' : Heap, Inv X pins σ H { s with heap := h' } → Turn X.prog X.w X.K (.Tuple elts kk tpos) (ItzM X.K a b) [s.heap.objs.size + 4, s.heap.objs.size + 2, s.heap.objs.size + 3, s.heap.objs.size, s.heap.objs.size + 1] (s.heap.objs.size + 4)
        (fun i h => IsZip h (s.heap.objs.size + 4) (s.heap.objs.size + 2) (s.heap.objs.size + 3) .none ∧ IsPair h (s.heap.objs.size + 2) (.ref s.heap.objs.size) (.ref (s.heap.objs.size + 1)) ∧ (∃ x y, IsPair h (s.heap.objs.size + 3) x y) ∧ h.IsTupleIter s.heap.objs.size a i ∧ h.IsListIter (s.heap.objs.size + 1) b i) →
      IsZip h' (s.heap.objs.size + 4) (s.heap.objs.size + 2) (s.heap.objs.size + 3) .none → IsPair h' (s.heap.objs.size + 2) (.ref s.heap.objs.size) (.ref (s.heap.objs.size + 1)) → IsPair h' (s.heap.objs.size + 3) .none .none →
      h'.IsTupleIter s.heap.objs.size a 0 → h'.IsListIter (s.heap.objs.size + 1) b 0 → (∀ c, c ∈ [s.heap.objs.size + 4, s.heap.objs.size + 2, s.heap.objs.size + 3, s.heap.objs.size, s.heap.objs.size + 1] → FpOk X pins H c) → Q (.ref (s.heap.objs.size + 4)) { s with heap := h' }) :
    wpAny (model X.prog X.w) X.A (call (.type "zip") [.ref a, .ref b]) Q X.xe s := by
  obtain ⟨its, rv, p, _⟩ := I.tuple q1
  obtain ⟨its2, rv2, p2, _⟩ := I.list q2
  obtain ⟨o1, ho1, _⟩ := id p
  refine call_zipX (show s.heap.IsTuple a its.toArray from p) p2.isList fun h' z1 z2 z3 z4 z5 hk => h h' (I.kept (t' := s.toks) hk) (turn_zipM (PySem.W.ktu_apart s.heap.objs.size a b (Heap.lt_size ho1) p2.lt)) z1 z2 z3 z4 z5 fun c hc => ?_
  have hle : s.heap.objs.size ≤ c := by
    simp only [List.mem_cons, List.not_mem_nil, or_false] at hc
    rcases hc with q | q | q | q | q <;> (rw [q]; first | exact Nat.le_add_right _ _ | exact Nat.le_refl _)
  exact I.fpOk hle (I.hok.fresh hle)
theorem pi_zipM {X : Cx} {e e2 : Expr} {ta : TA} {p pos tpos : Pos} {elts : List Expr} {kk : Nat} (hg : Gl X "zip") (hm : X.mg "zip" = none) (ha : PA X [e, e2] ta)
    (hs : starEach [e, e2] X.env = (false, eval e X.env) :: starEach [e2] X.env) (hpl : (backTo pos (starEach [e2] X.env)).any (·.1) = false) : PI X (.Tuple elts kk tpos) (.Call (.Name "zip" p) [e, e2] [] pos) (iZipM X.K ta) := by
  refine ⟨fun pins s σ H R I h => ?_⟩
  refine Call_ (ld_blt I hg hm PyProof.Rows.boot_zip (PyProof.Rows.callWith_type1 (thn (ha.run pos pins s σ H _ I h) fun us s1 ⟨vs, G1, J1, r1, q1⟩ => ?_) hs hpl))
  obtain ⟨a, b, xs, ys, rfl, hqx, hqy, q⟩ := q1
  cases r1 with
  | cons r rr =>
    cases rr with
    | cons r' rr =>
      cases rr; cases r; cases r'
      refine run_zipM (elts := elts) (kk := kk) (tpos := tpos) J1 hqx hqy fun h' I2 T z1 z2 z3 z4 z5 fp => wpAny_pyIter_zip z1 ?_
      exact ⟨s1.heap.objs.size + 4, _, _, _, G1, rfl, I2, T, ⟨z1, z2, ⟨_, _, z3⟩, z4, z5⟩, fp, q⟩
theorem PI.or {X : Cx} {tg e : Expr} {t t' : TI} (h : PI X tg e t) (k : PI X tg e t') : PI X tg e (fun σ H R => t σ H R ∨ t' σ H R) :=
  ⟨fun pins s σ H R I q => q.elim (fun z => h.run pins s σ H R I z) fun z => k.run pins s σ H R I z⟩
theorem walk_zipM {K : PySem.W.Frag} {a b : Addr} {xs ys : List V} {n : Nat} (hn : n = min xs.length ys.length) : Walk (ItzM K a b) n (fun H => SqT K H a xs ∧ SqL K H b ys) (YPair (fun i => xs[i]?) (fun i => ys[i]?)) := by
  subst hn
  refine ⟨fun i _ hi q => ?_, fun _ q => ⟨xs, ys, q.1, q.2, by omega⟩, fun i H v H' _ q y => ?_⟩
  · have h1 : i < xs.length := by omega
    have h2 : i < ys.length := by omega
    exact ⟨xs, ys, xs[i], ys[i], q.1, q.2, by simp [h1], by simp [h2]⟩
  · obtain ⟨T, x, z, h1, h2, h3, h4, h5⟩ := y
    exact ⟨T, x, z, h1, h2, h3, h4 xs q.1, h5 ys q.2⟩
end MPZ

/-! MP6: what is walked; comprehensions. -/
namespace MP
open PySem L2 RZ

/-- J walks the data xs in every later state -/
structure WalkD (c : Cfg) (w : Wd) (J : It) (xs : List D) : Prop where
  go : ∀ (i : Nat) (w' : Wd) (S' : Store) (H' : Hp), i < xs.length → w.le w' → Rel c w' S' H' → J.go i H'
  stop : ∀ (w' : Wd) (S' : Store) (H' : Hp), w.le w' → Rel c w' S' H' → J.stop xs.length H'
  yld : ∀ (i : Nat) (w' : Wd) (S' : Store) (H' : Hp) (x : V) (H2 : Hp), i < xs.length → w.le w' → Rel c w' S' H' → J.yld i H' x H2 → ∃ d w2, xs[i]? = some d ∧ Go w' H' w2 H2 ∧ Rel c w2 S' H2 ∧ RelD c w2 d x
section
variable {c : Cfg} {w : Wd}
theorem walkD_list {a : Addr} {xs : List D} {ys : List V} (h : SqL c.K w.B a ys) (r : RelDs c w xs ys) : WalkD c w (Itl c.K a) xs := by
  have wk := walk_list (K := c.K) (a := a) (xs := ys)
  rw [← r.length] at wk
  refine ⟨fun i w' S' H' hi le R => wk.goes i H' hi (sqL_mono R.ex (sqL_mono le.b h)), fun w' S' H' le R => wk.stops H' (sqL_mono R.ex (sqL_mono le.b h)), fun i w' S' H' x H2 hi le R y => ?_⟩
  obtain ⟨rfl, hx⟩ := wk.yields i H' x H2 hi (sqL_mono R.ex (sqL_mono le.b h)) y
  obtain ⟨d, e, rd⟩ := (r.mono le).getV hx
  exact ⟨d, w', e, Go.refl, R, rd⟩
theorem walkD_tup {a : Addr} {xs : List D} {ys : List V} (h : SqT c.K w.B a ys) (r : RelDs c w xs ys) : WalkD c w (Itt c.K a) xs := by
  have wk := walk_tup (K := c.K) (a := a) (xs := ys)
  rw [← r.length] at wk
  refine ⟨fun i w' S' H' hi le R => wk.goes i H' hi (sqT_mono R.ex (sqT_mono le.b h)), fun w' S' H' le R => wk.stops H' (sqT_mono R.ex (sqT_mono le.b h)), fun i w' S' H' x H2 hi le R y => ?_⟩
  obtain ⟨rfl, hx⟩ := wk.yields i H' x H2 hi (sqT_mono R.ex (sqT_mono le.b h)) y
  obtain ⟨d, e, rd⟩ := (r.mono le).getV hx
  exact ⟨d, w', e, Go.refl, R, rd⟩
theorem signs_length (z : Str) : (signs z).length = z.cps.size := by unfold signs; simp
theorem walkD_str {z : Str} : WalkD c w (Its z) (signs z) := by
  refine ⟨fun i w' S' H' hi le R => ?_, fun w' S' H' le R => ?_, fun i w' S' H' x H2 hi le R y => ?_⟩
  · rw [signs_length] at hi; exact hi
  · rw [signs_length]; exact Nat.le_refl _
  · obtain ⟨rfl, cc, hc, rfl⟩ := y
    refine ⟨.str ⟨#[cc]⟩, w', ?_, Go.refl, R, by simp only [RelD]⟩
    unfold signs
    rw [List.getElem?_map, Array.getElem?_toList, hc]; rfl
theorem walkD_range {lo hi : Int} : WalkD c w (Itr lo (hi - lo).toNat) (rangeD lo hi) := by
  have hl : (rangeD lo hi).length = (hi - lo).toNat := by unfold rangeD; simp
  refine ⟨fun i w' S' H' hi' le R => ?_, fun w' S' H' le R => ?_, fun i w' S' H' x H2 hi' le R y => ?_⟩
  · rw [hl] at hi'; exact hi'
  · rw [hl]; exact Nat.le_refl _
  · obtain ⟨rfl, rfl⟩ := y
    rw [hl] at hi'
    refine ⟨.int (lo + i), w', ?_, Go.refl, R, by simp only [RelD]⟩
    unfold rangeD
    rw [List.getElem?_map, List.getElem?_range hi']; rfl
/-- pairs made on the way -/
theorem walkD_pair {J : It} {n : Nat} {G : Hp → Prop} {f g : Nat → Option V} {xs ys : List D} (wk : Walk J n G (YPair f g)) (hG : ∀ (w' : Wd) (S' : Store) (H' : Hp), w.le w' → Rel c w' S' H' → G H')
    (hn : n = min xs.length ys.length) (hf : ∀ (i : Nat) (v : V), f i = some v → ∃ d, xs[i]? = some d ∧ RelD c w d v) (hg : ∀ (i : Nat) (v : V), g i = some v → ∃ d, ys[i]? = some d ∧ RelD c w d v) :
    WalkD c w J ((xs.zip ys).map fun p => .tup [p.1, p.2]) := by
  have hl : ((xs.zip ys).map fun p => D.tup [p.1, p.2]).length = n := by rw [List.length_map, List.length_zip, hn]
  refine ⟨fun i w' S' H' hi le R => wk.goes i H' (by rw [hl] at hi; exact hi) (hG w' S' H' le R), fun w' S' H' le R => by rw [hl]; exact wk.stops H' (hG w' S' H' le R), fun i w' S' H' x H2 hi le R y => ?_⟩
  rw [hl] at hi
  obtain ⟨T, a, b, rfl, hT, rfl, h1, h2⟩ := wk.yields i H' x H2 hi (hG w' S' H' le R) y
  obtain ⟨d, e1, r1⟩ := hf i a h1
  obtain ⟨d', e2, r2⟩ := hg i b h2
  obtain ⟨z1, z2, z3⟩ := R.newTup (xs := [d, d']) (.cons (r1.mono le) (.cons (r2.mono le) .nil)) hT
  refine ⟨.tup [d, d'], _, ?_, z1, z2, z3⟩
  rw [List.getElem?_map, show (xs.zip ys)[i]? = some (d, d') from List.getElem?_zip_eq_some.mpr ⟨e1, e2⟩]; rfl
end
/-- what a for walks -/
def SemI (c : Cfg) (F : Fn) (k : IK) (its : List E) : TI := fun σ H R => ∃ w S env ds xs S', Rel c w S H ∧ RelEnv c w env σ ∧ evs F its env S = .ok ds S' ∧ itD k ds = some xs ∧
  ∀ w' H' J, Go w H w' H' → Rel c w' S' H' → WalkD c w' J xs → R J H'
theorem PI.imp {X : Cx} {tg e : Expr} {t t' : TI} (h : PI X tg e t) (i : ∀ σ H R, t' σ H R → t σ H R) : PI X tg e t' := ⟨fun pins s σ H R I q => h.run pins s σ H R I (i σ H R q)⟩
section
variable {X : Cx} {c : Cfg} {F : Fn} {tg a b e : Expr} {ea eb ee : E} {p pos : Pos}
theorem evs_one {es : E} {env : Env} {S S' : Store} {ds : List D} (h : evs F [es] env S = .ok ds S') : ∃ d, ds = [d] ∧ ev F es env S = .ok d S' := by
  simp only [evs] at h
  obtain ⟨d1, S1, e1, e2⟩ := Res.bind_eq h
  cases e2
  exact ⟨d1, rfl, e1⟩
theorem evs_two {e1 e2 : E} {env : Env} {S S' : Store} {ds : List D} (h : evs F [e1, e2] env S = .ok ds S') : ∃ d d', ds = [d, d'] := by
  have := evs_length h
  match ds, this with
  | [d, d'], _ => exact ⟨d, d', rfl⟩
theorem sem_seq (hK : X.K = c.K) (he : PE X e (SemE c F ee)) : PI X tg e (SemI c F .seq [ee]) := by
  refine ⟨fun pins s σ H R I ⟨w, S, env, ds, xs, S', Rl, RE, hev, hit, k⟩ => ?_⟩
  obtain ⟨d, rfl, hv⟩ := evs_one hev
  refine thn (he.run pins s σ H (fun v H1 => ∃ w1, Go w H w1 H1 ∧ Rel c w1 S' H1 ∧ RelD c w1 d v) I ⟨w, S, env, d, S', Rl, RE, hv, fun w1 H1 v g R1 r1 => ⟨w1, g, R1, r1⟩⟩) fun u s1 ⟨x, H1, I1, rx, w1, g, R1, r1⟩ => ?_
  cases d with
  | str z =>
    simp only [itD] at hit
    cases hit
    simp only [RelD] at r1
    subst r1
    obtain ⟨t, rfl⟩ := rx
    have q := k w1 H1 _ g R1 walkD_str
    cases hz : z.cps.all (· < 128)
    · exact wpAny_pyIter_wide hz (pi_one (tk := s1.toks) I1 _ (turn_str _ z t "str_iterator" (.inr rfl)) ⟨_, Heap.get?_push_size _ rfl, rfl, rfl⟩ q)
    · exact wpAny_pyIter_ascii hz (pi_one (tk := s1.toks) I1 _ (turn_str _ z t "str_ascii_iterator" (.inl rfl)) ⟨_, Heap.get?_push_size _ rfl, rfl, rfl⟩ q)
  | tup xs' =>
    simp only [itD] at hit
    cases hit
    simp only [RelD] at r1
    obtain ⟨ad, ys, rfl, h1, h2⟩ := r1
    cases rx
    have q := k w1 H1 _ g R1 (walkD_tup h1 h2)
    obtain ⟨its, rv, p, hz⟩ := I1.tuple (by rw [hK]; exact sqT_mono R1.ex h1)
    refine wpAny_pyIter_tuple (show s1.heap.IsTuple ad its.toArray from p) (pi_one (tk := s1.toks) (tn := fun i h => h.IsTupleIter s1.heap.objs.size ad i) I1 _ (by rw [hK]; exact turn_tuple ad _) ⟨_, Heap.get?_push_size _ rfl, rfl, rfl⟩ q)
  | lst xs' =>
    simp only [itD] at hit
    cases hit
    simp only [RelD] at r1
    obtain ⟨ad, ys, rfl, h1, h2⟩ := r1
    cases rx
    have q := k w1 H1 _ g R1 (walkD_list (SqL.of h1) h2)
    obtain ⟨its, rv, p, hz⟩ := I1.list (SqL.of (R1.ex _ _ h1))
    refine wpAny_pyIter_list p.isList (pi_one (tk := s1.toks) (tn := fun i h => h.IsListIter s1.heap.objs.size ad i) I1 _ (by rw [hK]; exact turn_list ad _) ⟨_, Heap.get?_push_size _ rfl, rfl, rfl⟩ q)
  | scr ns =>
    simp only [itD] at hit
    cases hit
    simp only [RelD] at r1
    obtain ⟨ad, rfl, h1⟩ := r1
    cases rx
    have q := k w1 H1 _ g R1 (walkD_list h1 (RelDs.ints _))
    obtain ⟨its, rv, p, hz⟩ := I1.list (by rw [hK]; exact sqL_mono R1.ex h1)
    refine wpAny_pyIter_list p.isList (pi_one (tk := s1.toks) (tn := fun i h => h.IsListIter s1.heap.objs.size ad i) I1 _ (by rw [hK]; exact turn_list ad _) ⟨_, Heap.get?_push_size _ rfl, rfl, rfl⟩ q)
  | _ => simp only [itD] at hit; cases hit
theorem sem_range1 (hg : Gl X "range") (hm : X.mg "range" = none) (ha : PA X [a] (SemA c F [ea])) (hs : starEach [a] X.env = [(false, eval a X.env)]) : PI X tg (.Call (.Name "range" p) [a] [] pos) (SemI c F .range [ea]) :=
  PI.imp (pi_range1 hg hm ha hs) fun σ H R ⟨w, S, env, ds, xs, S', Rl, RE, hev, hit, k⟩ => by
    refine ⟨w, S, env, ds, S', Rl, RE, hev, fun w1 H1 vs g R1 rs => ?_⟩
    obtain ⟨d, rfl, _⟩ := evs_one hev
    obtain ⟨v, rfl, rv⟩ := rs.one
    cases d <;> simp only [itD] at hit <;> try (cases hit; done)
    split at hit
    · rename_i hz
      cases hit
      simp only [RelD] at rv
      refine ⟨_, by rw [rv], by omega, by omega, ?_⟩
      have q := k w1 H1 _ g R1 walkD_range
      rw [Int.sub_zero] at q
      exact q
    · cases hit
theorem sem_range2 (hg : Gl X "range") (hm : X.mg "range" = none) (ha : PA X [a, b] (SemA c F [ea, eb])) (hs : starEach [a, b] X.env = [(false, eval a X.env), (false, eval b X.env)]) (hs2 : starEach [b] X.env = [(false, eval b X.env)]) :
    PI X tg (.Call (.Name "range" p) [a, b] [] pos) (SemI c F .range [ea, eb]) :=
  PI.imp (pi_range2 hg hm ha hs hs2) fun σ H R ⟨w, S, env, ds, xs, S', Rl, RE, hev, hit, k⟩ => by
    refine ⟨w, S, env, ds, S', Rl, RE, hev, fun w1 H1 vs g R1 rs => ?_⟩
    obtain ⟨d, d', rfl⟩ := evs_two hev
    obtain ⟨v, u, rfl, rv, ru⟩ := rs.two
    cases d <;> cases d' <;> simp only [itD] at hit <;> try (cases hit; done)
    split at hit
    · rename_i hz
      cases hit
      simp only [RelD] at rv ru
      exact ⟨_, _, by rw [rv, ru], ⟨by omega, by omega, by omega, by omega⟩, k w1 H1 _ g R1 walkD_range⟩
    · cases hit
theorem walk_zipT {K : PySem.W.Frag} {a b : Addr} {xs ys : List V} {n : Nat} (hn : n = min xs.length ys.length) : Walk (ItzT K a b) n (fun H => SqT K H a xs ∧ SqT K H b ys) (YPair (fun i => xs[i]?) (fun i => ys[i]?)) := by
  subst hn
  refine ⟨fun i _ hi q => ?_, fun _ q => ⟨xs, ys, q.1, q.2, by omega⟩, fun i H v H' _ q y => ?_⟩
  · have h1 : i < xs.length := by omega
    have h2 : i < ys.length := by omega
    exact ⟨xs, ys, xs[i], ys[i], q.1, q.2, by simp [h1], by simp [h2]⟩
  · obtain ⟨T, x, z, h1, h2, h3, h4, h5⟩ := y
    exact ⟨T, x, z, h1, h2, h3, h4 xs q.1, h5 ys q.2⟩
theorem sem_zip {elts : List Expr} {kk : Nat} {tpos : Pos} (hK : X.K = c.K) (hg : Gl X "zip") (hm : X.mg "zip" = none) (ha : PA X [a, b] (SemA c F [ea, eb])) (hs : starEach [a, b] X.env = (false, eval a X.env) :: starEach [b] X.env) (hpl : (backTo pos (starEach [b] X.env)).any (·.1) = false) :
    PI X (.Tuple elts kk tpos) (.Call (.Name "zip" p) [a, b] [] pos) (SemI c F .zip [ea, eb]) :=
  PI.imp (MPZ.PI.or (MPZ.pi_zipM hg hm ha hs hpl) (pi_zipA hg hm ha hs hpl)) fun σ H R ⟨w, S, env, ds, xs, S', Rl, RE, hev, hit, k⟩ => by
    have hl := evs_two hev
    obtain ⟨d, d', rfl⟩ := hl
    by_cases hm : ∃ us, d = .tup us ∧ ∃ ws, d' = .lst ws
    · obtain ⟨us, rfl, ws, rfl⟩ := hm
      refine .inl ⟨w, S, env, _, S', Rl, RE, hev, fun w1 H1 vs g R1 rs => ?_⟩
      obtain ⟨v, u, rfl, rv, ru⟩ := rs.two
      simp only [itD] at hit
      cases hit
      simp only [RelD] at rv ru
      obtain ⟨a1, ys, rfl, h1, q1⟩ := rv
      obtain ⟨b1, zs, rfl, h2, q2⟩ := ru
      refine ⟨a1, b1, ys, zs, rfl, by rw [hK]; exact sqT_mono R1.ex h1, SqL.of (R1.ex _ _ h2), ?_⟩
      rw [hK]
      exact k w1 H1 _ g R1 (walkD_pair (MPZ.walk_zipM (xs := ys) (ys := zs) rfl) (fun w' S' H' le R => ⟨sqT_mono R.ex (sqT_mono le.b h1), SqL.of (R.ex _ _ (le.b _ _ h2))⟩) (by rw [q1.length, q2.length]) (fun i v hv => q1.getV hv) (fun i v hv => q2.getV hv))
    refine .inr ⟨w, S, env, _, S', Rl, RE, hev, fun w1 H1 vs g R1 rs => ?_⟩
    obtain ⟨v, u, rfl, rv, ru⟩ := rs.two
    cases d <;> cases d' <;> simp only [itD] at hit <;> try (cases hit; done)
    · cases hit
      simp only [RelD] at rv ru
      obtain ⟨a1, ys, rfl, h1, q1⟩ := rv
      obtain ⟨b1, zs, rfl, h2, q2⟩ := ru
      refine ⟨a1, b1, ys, zs, rfl, .inr ⟨by rw [hK]; exact sqT_mono R1.ex h1, by rw [hK]; exact sqT_mono R1.ex h2, ?_⟩⟩
      rw [hK]
      refine k w1 H1 _ g R1 (walkD_pair (walk_zipT (xs := ys) (ys := zs) rfl) (fun w' S' H' le R => ⟨sqT_mono R.ex (sqT_mono le.b h1), sqT_mono R.ex (sqT_mono le.b h2)⟩) (by rw [q1.length, q2.length]) (fun i v hv => q1.getV hv) (fun i v hv => q2.getV hv))
    · exact absurd ⟨_, rfl, _, rfl⟩ hm
    · cases hit
      simp only [RelD] at rv ru
      obtain ⟨a1, ys, rfl, h1, q1⟩ := rv
      obtain ⟨b1, zs, rfl, h2, q2⟩ := ru
      refine ⟨a1, b1, ys, zs, rfl, .inl ⟨SqL.of (R1.ex _ _ h1), SqL.of (R1.ex _ _ h2), ?_⟩⟩
      rw [hK]
      refine k w1 H1 _ g R1 (walkD_pair (walk_zip (xs := ys) (ys := zs) rfl) (fun w' S' H' le R => ⟨SqL.of (R.ex _ _ (le.b _ _ h1)), SqL.of (R.ex _ _ (le.b _ _ h2))⟩) (by rw [q1.length, q2.length]) (fun i v hv => q1.getV hv) (fun i v hv => q2.getV hv))
theorem enum_eq (xs : List D) : ((List.range xs.length).zip xs).map (fun p => D.tup [.int (p.1 : Nat), p.2]) = (((List.range xs.length).map fun (i : Nat) => D.int (i : Int)).zip xs).map fun p => D.tup [p.1, p.2] := by
  rw [List.zip_map_left, List.map_map]
  rfl
theorem enum_pair {w : Wd} {n : Nat} (i : Nat) (v : V) (h : some (V.int (i : Int)) = some v) (hi : i < n) : ∃ d, ((List.range n).map fun (i : Nat) => D.int (i : Int))[i]? = some d ∧ RelD c w d v := by
  cases h
  refine ⟨.int i, ?_, by simp only [RelD]⟩
  rw [List.getElem?_map, List.getElem?_range hi]; rfl
theorem walkD_pairE {J : It} {n : Nat} {G : Hp → Prop} {g : Nat → Option V} {ys : List D} {w : Wd} (wk : Walk J n G (YPair (fun i => some (.int (i : Nat))) g)) (hG : ∀ (w' : Wd) (S' : Store) (H' : Hp), w.le w' → Rel c w' S' H' → G H')
    (hn : n = ys.length) (hg : ∀ (i : Nat) (v : V), g i = some v → ∃ d, ys[i]? = some d ∧ RelD c w d v) :
    WalkD c w J (((List.range ys.length).zip ys).map fun p => .tup [.int (p.1 : Nat), p.2]) := by
  rw [enum_eq]
  refine walkD_pair (f := fun i => if i < n then some (.int (i : Nat)) else none) (wk.mono (fun _ h => h) fun i H x H' hi _ y => ?_) hG (by simp [hn]) (fun i v h => ?_) hg
  · obtain ⟨T, a, b, h1, h2, h3, h4, h5⟩ := y
    exact ⟨T, a, b, h1, h2, h3, by show (if i < n then some (V.int ↑i) else none) = some a; rw [if_pos hi]; exact h4, h5⟩
  · split at h
    · rename_i hi
      exact enum_pair i v h (by rw [← hn]; exact hi)
    · cases h
theorem sem_enum {elts : List Expr} {kk : Nat} {tpos : Pos} (hK : X.K = c.K) (hg : Gl X "enumerate") (hm : X.mg "enumerate" = none) (ha : PA X [a] (SemA c F [ea])) (hs : starEach [a] X.env = [(false, eval a X.env)]) :
    PI X (.Tuple elts kk tpos) (.Call (.Name "enumerate" p) [a] [] pos) (SemI c F .enum [ea]) :=
  PI.imp (MPE.pi_enumT hg hm ha hs) fun σ H R ⟨w, S, env, ds, xs, S', Rl, RE, hev, hit, k⟩ => by
    refine ⟨w, S, env, ds, S', Rl, RE, hev, fun w1 H1 vs g R1 rs => ?_⟩
    obtain ⟨d, rfl, hd⟩ := evs_one hev
    obtain ⟨v, rfl, rv⟩ := rs.one
    cases d <;> simp only [itD] at hit <;> try (cases hit; done)
    · cases hit
      simp only [RelD] at rv
      obtain ⟨a1, ys, rfl, h1, q1⟩ := rv
      refine ⟨a1, ys, rfl, .inr ⟨by rw [hK]; exact sqT_mono R1.ex h1, ?_⟩⟩
      rw [hK]
      exact k w1 H1 _ g R1 (walkD_pairE (MPE.walk_enumT (xs := ys)) (fun w' S' H' le R => sqT_mono R.ex (sqT_mono le.b h1)) q1.length.symm (fun i v hv => q1.getV hv))
    · cases hit
      simp only [RelD] at rv
      obtain ⟨a1, ys, rfl, h1, q1⟩ := rv
      refine ⟨a1, ys, rfl, .inl ⟨SqL.of (R1.ex _ _ h1), ?_⟩⟩
      rw [hK]
      exact k w1 H1 _ g R1 (walkD_pairE (walk_enum (xs := ys)) (fun w' S' H' le R => SqL.of (R.ex _ _ (le.b _ _ h1))) q1.length.symm (fun i v hv => q1.getV hv))
theorem sem_rev {k0 : Nat} {p1 p2 p3 : Pos} (hK : X.K = c.K) (ha : PE X a (SemE c F ea)) : PE X (.Subscript a (.Slice none none (some (.UnaryOp .USub (.Constant (.int 1) k0 p1) p2)) p3) pos) (SemE c F (.rev ea)) :=
  PE.imp (MPE.pe_revA ha) fun σ H Q ⟨w, S, env, d, S', R, RE, hv, k⟩ => by
    simp only [ev] at hv
    refine SemE.bind (es := ea) R RE hv fun d1 S1 w1 H1 v1 le1 R1 r1 RE1 h1 => ?_
    cases d1 <;> (try simp only at h1) <;> try (cases h1; done)
    · cases h1
      simp only [RelD] at r1
      obtain ⟨ad, ys, rfl, h2, h3⟩ := r1
      refine ⟨ad, ys, rfl, .inr ⟨by rw [hK]; exact sqT_mono R1.ex h2, fun q hq => ?_⟩⟩
      obtain ⟨z1, z2, z3⟩ := R1.newTup h3.reverse hq
      exact k _ _ _ (le1.trans z1) z2 z3
    · cases h1
      simp only [RelD] at r1
      obtain ⟨ad, ys, rfl, h2, h3⟩ := r1
      refine ⟨ad, ys, rfl, .inl ⟨SqL.of (R1.ex _ _ h2), fun q hq => ?_⟩⟩
      obtain ⟨z1, z2, z3⟩ := R1.newLst h3.reverse hq
      exact k _ _ _ (le1.trans z1) z2 z3
end
/-! ### targets -/
def SemG (c : Cfg) (p : P) : TG := fun v σ H Q => ∃ w S env d env', Rel c w S H ∧ RelEnv c w env σ ∧ RelD c w d v ∧ bindP p d env = some env' ∧
  ∀ w' σ' H', Go w H w' H' → Rel c w' S H' → RelEnv c w' env' σ' → (∀ j : Nat, j ∉ slotsP p → σ'[j]? = σ[j]?) → Q σ' H'
def SemGs (c : Cfg) (ps : List P) : TGs := fun vs σ H Q => ∃ w S env ds env', Rel c w S H ∧ RelEnv c w env σ ∧ RelDs c w ds vs ∧ bindPs ps ds env = some env' ∧
  ∀ w' σ' H', Go w H w' H' → Rel c w' S H' → RelEnv c w' env' σ' → (∀ j : Nat, j ∉ slotsPs ps → σ'[j]? = σ[j]?) → Q σ' H'
theorem PG.imp {X : Cx} {e : Expr} {t t' : TG} (h : PG X e t) (i : ∀ v σ H Q, t' v σ H Q → t v σ H Q) : PG X e t' := ⟨fun pins s σ H v u Q I r q => h.run pins s σ H v u Q I r (i v σ H Q q)⟩
theorem PGs.imp {X : Cx} {e : List Expr} {t t' : TGs} (h : PGs X e t) (i : ∀ v σ H Q, t' v σ H Q → t v σ H Q) : PGs X e t' := ⟨fun pins s σ H v u Q I r q => h.run pins s σ H v u Q I r (i v σ H Q q)⟩
section
variable {X : Cx} {c : Cfg} {pos : Pos}
theorem tgt_name {i : Nat} {x : Str} (h : PG X (.Name x pos) (gName i)) : PG X (.Name x pos) (SemG c (.name i)) := PG.imp h fun v σ H Q ⟨w, S, env, d, env', R, RE, rd, hb, k⟩ => by
  simp only [bindP] at hb
  split at hb
  · rename_i hi
    cases hb
    refine k w _ H Go.refl R (RE.set rd hi) fun j hj => ?_
    simp only [slotsP, List.mem_singleton] at hj
    rw [List.getElem?_set_ne (Ne.symm hj)]
  · cases hb
theorem tgt_nil : PGs X [] (SemGs c []) := PGs.imp pgs_nil fun v σ H Q ⟨w, S, env, d, env', R, RE, rd, hb, k⟩ => by
  cases d with
  | nil => simp only [bindPs] at hb; cases hb; exact ⟨rd.nil_inv, k w σ H Go.refl R RE fun _ _ => rfl⟩
  | cons d ds => simp only [bindPs] at hb; cases hb
theorem tgt_cons {e : Expr} {es : List Expr} {p : P} {ps : List P} (h1 : PG X e (SemG c p)) (h2 : PGs X es (SemGs c ps)) (hs : (assignEach (e :: es) X.env).map (·.2) = assign e X.env :: (assignEach es X.env).map (·.2)) : PGs X (e :: es) (SemGs c (p :: ps)) :=
  PGs.imp (pgs_cons h1 h2 hs) fun vs σ H Q ⟨w, S, env, ds, env', R, RE, rd, hb, k⟩ => by
    cases ds with
    | nil => simp only [bindPs] at hb; cases hb
    | cons d ds =>
      obtain ⟨v, r, rfl, r1, r2⟩ := rd.cons_inv
      simp only [bindPs] at hb
      cases q : bindP p d env with
      | none => rw [q] at hb; cases hb
      | some env1 =>
        rw [q] at hb
        simp only [Option.bind_some] at hb
        refine ⟨v, r, rfl, w, S, env, d, env1, R, RE, r1, q, fun w1 σ1 H1 g1 R1 RE1 n1 => ⟨w1, S, env1, ds, env', R1, RE1, r2.mono g1.le, hb, fun w2 σ2 H2 g2 R2 RE2 n2 => k w2 σ2 H2 (g1.trans g2) R2 RE2 fun j hj => ?_⟩⟩
        simp only [slotsPs, List.mem_append, not_or] at hj
        rw [n2 j hj.2, n1 j hj.1]
theorem bindPs_length : ∀ {ps : List P} {ds : List D} {env env' : Env}, bindPs ps ds env = some env' → ds.length = ps.length
  | [], [], _, _, _ => rfl
  | [], _ :: _, _, _, h => by simp only [bindPs] at h; cases h
  | _ :: _, [], _, _, h => by simp only [bindPs] at h; cases h
  | p :: ps, d :: ds, env, env', h => by
    simp only [bindPs] at h
    cases q : bindP p d env with
    | none => rw [q] at h; cases h
    | some env1 => rw [q] at h; simp only [List.length_cons, bindPs_length h]
theorem tgt_tup {es : List Expr} {kk n : Nat} {ps : List P} (hK : X.K = c.K) (hc : X.calm = true) (h : PGs X es (SemGs c ps)) (hn : (assignEach es X.env).length = n) (hn2 : ps.length = n) (hst : (assignEach es X.env).findIdx? (·.1) = none) : PG X (.Tuple es kk pos) (SemG c (.tup ps)) :=
  PG.imp (pg_tup hc h hn hst) fun v σ H Q ⟨w, S, env, d, env', R, RE, rd, hb, k⟩ => by
    cases d <;> simp only [bindP] at hb <;> try (cases hb; done)
    simp only [RelD] at rd
    obtain ⟨a, ys, rfl, h1, h2⟩ := rd
    exact ⟨a, ys, rfl, by rw [hK]; exact sqT_mono R.ex h1, by rw [← h2.length, bindPs_length hb, hn2], w, S, env, _, env', R, RE, h2, hb, fun w' σ' H' g' R' RE' n' => k w' σ' H' g' R' RE' fun j hj => n' j (by simpa only [slotsP] using hj)⟩
theorem starD_rel {w : Wd} {S : Store} {H : Hp} {xs : List D} {ys : List V} {i n : Nat} {p : Addr} (R : Rel c w S H) (r : RelDs c w xs ys) (hp : H p = none) :
    let l := (ys.drop i).take (ys.length - i - (n - 1 - i))
    Go w H (w.add p (.lst l)) (upd H p (.lst l)) ∧ Rel c (w.add p (.lst l)) S (upd H p (.lst l)) ∧ RelDs c (w.add p (.lst l)) (starD i n xs) (ys.take i ++ [.ref p] ++ (ys.drop i).drop (ys.length - i - (n - 1 - i))) := by
  intro l
  have hl : RelDs c w ((xs.drop i).take (xs.length - i - (n - 1 - i))) l := by
    show RelDs c w _ ((ys.drop i).take (ys.length - i - (n - 1 - i)))
    rw [r.length]; exact (r.drop _).take _
  obtain ⟨z1, z2, z3⟩ := R.newLst hl hp
  refine ⟨z1, z2, ?_⟩
  unfold starD
  have r' := r.mono z1.le
  refine RelDs.append (RelDs.append (r'.take _) (.cons z3 .nil)) ?_
  rw [r.length]
  exact (r'.drop _).drop _
theorem tgt_star {es : List Expr} {kk n i : Nat} {ps : List P} (hK : X.K = c.K) (hc : X.calm = true) (h : PGs X es (SemGs c ps)) (hn : (assignEach es X.env).length = n) (hn2 : ps.length = n) (hst : (assignEach es X.env).findIdx? (·.1) = some i) (hi : i < n) : PG X (.Tuple es kk pos) (SemG c (.star i ps)) :=
  PG.imp (MPS.PG.or (MPS.pg_star hc h hn hst hi) (MPS.pg_starL hc h hn hst hi)) fun v σ H Q ⟨w, S, env, d, env', R, RE, rd, hb, k⟩ => by
    cases d <;> simp only [bindP] at hb <;> try (cases hb; done)
    · split at hb
      · rename_i hlen
        simp only [RelD] at rd
        obtain ⟨a, ys, rfl, h1, h2⟩ := rd
        rw [hn2] at hb hlen
        refine .inl ⟨a, ys, rfl, by rw [hK]; exact sqT_mono R.ex h1, by rw [← h2.length]; exact hlen.2, fun p hp => ?_⟩
        obtain ⟨z1, z2, z3⟩ := starD_rel (i := i) (n := n) R h2 hp
        exact ⟨_, S, env, _, env', z2, RE.mono z1.le, z3, hb, fun w' σ' H' g' R' RE' n' => k w' σ' H' (z1.trans g') R' RE' fun j hj => n' j (by simpa only [slotsP] using hj)⟩
      · cases hb
    split at hb
    · rename_i hlen
      simp only [RelD] at rd
      obtain ⟨a, ys, rfl, h1, h2⟩ := rd
      rw [hn2] at hb hlen
      refine .inr ⟨a, ys, rfl, SqL.of (R.ex _ _ h1), by rw [← h2.length]; exact hlen.2, fun p hp => ?_⟩
      obtain ⟨z1, z2, z3⟩ := starD_rel (i := i) (n := n) R h2 hp
      exact ⟨_, S, env, _, env', z2, RE.mono z1.le, z3, hb, fun w' σ' H' g' R' RE' n' => k w' σ' H' (z1.trans g') R' RE' fun j hj => n' j (by simpa only [slotsP] using hj)⟩
    · cases hb
end
/-! ### comprehensions -/
theorem wipe_eq : ∀ {vs : List Nat} {σ σ' : St}, σ'.length = σ.length → (∀ j : Nat, j ∉ vs → σ'[j]? = σ[j]?) → wipe σ' vs = wipe σ vs := by
  intro vs σ σ' hl h
  have key : ∀ (vs : List Nat) (σ : St) (j : Nat), (wipe σ vs)[j]? = if j ∈ vs then (if j < σ.length then some none else none) else σ[j]? := by
    intro vs
    induction vs with
    | nil => intro σ j; simp [wipe]
    | cons v vs ih =>
      intro σ j
      show ((wipe σ vs).set v none)[j]? = _
      by_cases hj : j = v
      · subst hj
        by_cases hlt : j < σ.length
        · rw [List.getElem?_set_self (by rw [wipe_length]; exact hlt)]; simp [hlt]
        · rw [List.getElem?_eq_none (by rw [List.length_set, wipe_length]; omega)]; simp [hlt]
      · rw [List.getElem?_set_ne (Ne.symm hj), ih σ j]
        simp [hj]
  apply List.ext_getElem?
  intro j
  rw [key, key, hl]
  by_cases hj : j ∈ vs
  · simp [hj]
  · simp [hj, h j hj]
theorem RelEnv.wipe {c : Cfg} {w : Wd} {env : Env} {σ : St} (r : RelEnv c w env σ) : ∀ vs : List Nat, RelEnv c w (wipeE env vs) (L2.wipe σ vs)
  | [] => r
  | v :: vs => by
    have ih := RelEnv.wipe r vs
    refine ⟨by show ((wipeE env vs).set v none).length = ((L2.wipe σ vs).set v none).length; rw [List.length_set, List.length_set]; exact ih.1, fun j d e => ?_⟩
    have e' : ((wipeE env vs).set v none)[j]? = some (some d) := e
    by_cases hj : j = v
    · subst hj
      rw [List.getElem?_set] at e'
      simp at e'
    · rw [List.getElem?_set_ne (Ne.symm hj)] at e'
      obtain ⟨u, q1, q2⟩ := ih.2 j d e'
      exact ⟨u, by show ((L2.wipe σ vs).set v none)[j]? = _; rw [List.getElem?_set_ne (Ne.symm hj)]; exact q1, q2⟩
def SemTs (c : Cfg) (F : Fn) (cond : List E) : TT := fun σ H Q => ∃ w S env ds S' b, Rel c w S H ∧ RelEnv c w env σ ∧ evs F cond env S = .ok ds S' ∧ (ds = [] ∧ b = true ∨ ds = [.bl b]) ∧ ∀ w' H', Go w H w' H' → Rel c w' S' H' → Q b H'
theorem PTs.imp {X : Cx} {e : List Expr} {t t' : TT} (h : PTs X e t) (i : ∀ σ H Q, t' σ H Q → t σ H Q) : PTs X e t' := ⟨fun pins s σ H Q I q => h.run pins s σ H Q I (i σ H Q q)⟩
section
variable {X : Cx} {c : Cfg} {F : Fn}
theorem tsts_none : PTs X [] (SemTs c F []) := PTs.imp pts_nil fun σ H Q ⟨w, S, env, ds, S', b, R, RE, hv, hb, k⟩ => by
  simp only [evs] at hv
  cases hv
  rcases hb with ⟨_, rfl⟩ | h
  · exact k w H Go.refl R
  · cases h
theorem tsts_one {t : Expr} {et : E} (h : PT X t (SemT c F et)) : PTs X [t] (SemTs c F [et]) := PTs.imp (pts_one h) fun σ H Q ⟨w, S, env, ds, S', b, R, RE, hv, hb, k⟩ => by
  obtain ⟨d, rfl, hd⟩ := evs_one hv
  rcases hb with ⟨h, _⟩ | h
  · cases h
  · cases h
    exact ⟨w, S, env, b, S', R, RE, hd, k⟩
mutual
theorem bindP_len : ∀ {p : P} {d : D} {env env' : Env}, bindP p d env = some env' → env'.length = env.length
  | .name i, d, env, env', h => by
    simp only [bindP] at h
    split at h
    · cases h; rw [List.length_set]
    · cases h
  | .tup ps, d, env, env', h => by
    cases d <;> simp only [bindP] at h <;> try (cases h; done)
    exact bindPs_len h
  | .star i ps, d, env, env', h => by
    cases d <;> simp only [bindP] at h <;> try (cases h; done)
    all_goals split at h
    all_goals first | exact bindPs_len h | cases h
theorem bindPs_len : ∀ {ps : List P} {ds : List D} {env env' : Env}, bindPs ps ds env = some env' → env'.length = env.length
  | [], [], env, env', h => by simp only [bindPs] at h; cases h; rfl
  | [], _ :: _, _, _, h => by simp only [bindPs] at h; cases h
  | _ :: _, [], _, _, h => by simp only [bindPs] at h; cases h
  | p :: ps, d :: ds, env, env', h => by
    simp only [bindPs] at h
    cases q : bindP p d env with
    | none => rw [q] at h; cases h
    | some env1 => rw [q] at h; simp only [Option.bind_some] at h; rw [bindPs_len h, bindP_len q]
end
/-- one turn of a comprehension -/
def turnC (F : Fn) (p : P) (cond : List E) (e : E) (env : Env) (x : D) (S : Store) : Res (Option D) := match bindP p x (wipeE env (slotsP p)) with
  | none => .bad
  | some env' => (evs F cond env' S).bind fun cs S2 => match cs with
    | [] => (ev F e env' S2).bind fun y S3 => .ok (some y) S3
    | [.bl true] => (ev F e env' S2).bind fun y S3 => .ok (some y) S3
    | [.bl false] => .ok none S2
    | _ => .bad
/-- J walks the data xs in every later state in which G holds -/
structure WalkG (c : Cfg) (w : Wd) (J : It) (xs : List D) (G : Store → Prop) : Prop where
  go : ∀ (i : Nat) (w' : Wd) (S' : Store) (H' : Hp), i < xs.length → w.le w' → Rel c w' S' H' → G S' → J.go i H'
  stop : ∀ (w' : Wd) (S' : Store) (H' : Hp), w.le w' → Rel c w' S' H' → G S' → J.stop xs.length H'
  yld : ∀ (i : Nat) (w' : Wd) (S' : Store) (H' : Hp) (x : V) (H2 : Hp), i < xs.length → w.le w' → Rel c w' S' H' → G S' → J.yld i H' x H2 → ∃ d w2, xs[i]? = some d ∧ Go w' H' w2 H2 ∧ Rel c w2 S' H2 ∧ RelD c w2 d x
theorem WalkD.g {c : Cfg} {w : Wd} {J : It} {xs : List D} (k : WalkD c w J xs) (G : Store → Prop) : WalkG c w J xs G :=
  ⟨fun i w' S' H' a b d _ => k.go i w' S' H' a b d, fun w' S' H' a b _ => k.stop w' S' H' a b, fun i w' S' H' x H2 a b d _ e => k.yld i w' S' H' x H2 a b d e⟩
theorem comp_core {mu : Bool} {p : P} {cond : List E} {ee : E} {turn : D → Store → Res (Option D)} {G : Store → Prop} {S1' S2 S0 SE : Store} {env : Env} {d : D} {xs ys : List D} {H0 H1 : Hp} {σ : St} {Q : VK} {w0 w1 : Wd} {J : It}
    (R : Rel c w0 S0 H0) (RE : RelEnv c w0 env σ) (htn : ∀ x S o S2, turn x S = .ok o S2 → turnC F p cond ee env x S = .ok o S2 ∧ G S2) (hG1 : G S1') (e3 : loopC turn xs S1' = .ok ys S2)
    (hv : (if ys.length ≤ LIM then (match mu with | true => Res.ok (D.ref S2.length) (S2 ++ [.lst ys]) | false => Res.ok (D.lst ys) S2) else Res.bad) = Res.ok d SE)
    (kk : ∀ w' H' v, Go w0 H0 w' H' → Rel c w' SE H' → RelD c w' d v → Q v H') (g1 : Go w0 H0 w1 H1) (R1 : Rel c w1 S1' H1) (wk : WalkG c w1 J xs G) :
    tLc (fun _ _ R => R J H1) (SemG c p) (SemTs c F cond) (SemE c F ee) (slotsP p) σ H0 Q := by
  intro Dl hD
  have RE1 := RE.mono g1.le
  have hz : ys.length ≤ LIM := by
    split at hv
    · assumption
    · cases hv
  have DnB1 : w1.B Dl = none := R1.freeB hD
  have DnR1 : ∀ l : Nat, w1.ρ[l]? ≠ some Dl := R1.notR hD
  refine lc_it (n := xs.length) (G := fun H' => ∃ w' S', w1.le w' ∧ Rel c w' S' H' ∧ G S')
    (Y := fun i H' x H2 => ∀ w' S', w1.le w' → Rel c w' S' H' → G S' → ∃ d w2, xs[i]? = some d ∧ Go w' H' w2 H2 ∧ Rel c w2 S' H2 ∧ RelD c w2 d x)
    ⟨fun i H' hi ⟨w', S', le, R', hG⟩ => wk.go i w' S' H' hi le R' hG, fun H' ⟨w', S', le, R', hG⟩ => wk.stop w' S' H' le R' hG, fun i H' x H2 hi _ y w' S' le R' hG => wk.yld i w' S' H' x H2 hi le R' hG y⟩
    (fun i H' => ∃ w' S' acc vs, Go w1 H1 w' H' ∧ Rel c w' S' H' ∧ G S' ∧ H' Dl = some (.lst vs) ∧ (∀ l : Nat, w'.ρ[l]? ≠ some Dl) ∧ w'.B Dl = none ∧ RelDs c w' acc vs ∧ ∃ rest, loopC (turn) (xs.drop i) S' = .ok rest S2 ∧ acc ++ rest = ys)
    ⟨w1, S1', [], [], Go.refl.other hD, R1.other DnB1 DnR1, hG1, upd_same, DnR1, DnB1, .nil, ys, e3, rfl⟩
    (fun i H' _ ⟨w', S', _, _, g', R', hG, _⟩ => ⟨w', S', g'.le, R', hG⟩) ?_ ?_
  · intro i x H0 H' hi ⟨w', S', acc, vs, g', R', hG, hDl, nR, nB, racc, rest, hl, hys⟩ hY
    obtain ⟨d0, w2, hx, g2, R2, r2⟩ := hY w' S' g'.le R' hG
    have hdrop : xs.drop i = d0 :: xs.drop (i + 1) := by
      obtain ⟨h1, h2⟩ := List.getElem?_eq_some_iff.mp hx
      rw [List.drop_eq_getElem_cons h1, h2]
    rw [hdrop] at hl
    simp only [loopC] at hl
    obtain ⟨oy, S3, h3, hl⟩ := Res.bind_eq hl
    obtain ⟨rest', S4, h4, hl⟩ := Res.bind_eq hl
    cases hl
    obtain ⟨h3, hG3⟩ := htn _ _ _ _ h3
    unfold turnC at h3
    cases hb : bindP p d0 (wipeE env (slotsP p)) with
    | none => rw [hb] at h3; cases h3
    | some env' =>
      rw [hb] at h3
      obtain ⟨cs, S5, h5, h3⟩ := Res.bind_eq h3
      have g12 := g'.trans g2
      refine ⟨w2, S', wipeE env (slotsP p), d0, env', R2, (RE1.mono g12.le).wipe _, r2, hb, fun wT σ2 HT gT RT RE2 n2 => ⟨?_, ?_⟩⟩
      · have hl2 : σ2.length = σ.length := by rw [← RE2.1, bindP_len hb, (RE1.wipe (slotsP p)).1, wipe_length]
        refine wipe_eq hl2 fun j hj => ?_
        rw [n2 j hj, wipe_out hj]
      · have g2T := g2.trans gT
        replace g2 := g2T
        have h2l : HT Dl = some (.lst vs) := g2.fr Dl _ hDl nR
        have n2R : ∀ l : Nat, wT.ρ[l]? ≠ some Dl := fun l q => by
          rcases g2.nw l Dl q with ⟨j, hj⟩ | h
          · exact nR j hj
          · rw [hDl] at h; cases h
        have n2B : wT.B Dl = none := by
          cases q : wT.B Dl with
          | none => rfl
          | some o =>
            rcases g2.nb Dl o q with h | h
            · rw [nB] at h; cases h
            · rw [hDl] at h; cases h.1
        have fin : ∀ (bb : Bool), (cs = [] ∧ bb = true ∨ cs = [.bl bb]) → SemTs c F cond σ2 HT fun b H3 => if b = true then SemE c F ee σ2 H3 fun y H4 => ∃ acc, H4 Dl = some (.lst acc) ∧ acc.length < sizeLine ∧
            (∃ w' S' acc' vs, Go w1 H1 w' (upd H4 Dl (.lst (acc ++ [y]))) ∧ Rel c w' S' (upd H4 Dl (.lst (acc ++ [y]))) ∧ G S' ∧ (upd H4 Dl (.lst (acc ++ [y]))) Dl = some (.lst vs) ∧ (∀ l : Nat, w'.ρ[l]? ≠ some Dl) ∧ w'.B Dl = none ∧ RelDs c w' acc' vs ∧ ∃ rest, loopC (turn) (xs.drop (i + 1)) S' = .ok rest S2 ∧ acc' ++ rest = ys)
            else ∃ w' S' acc vs, Go w1 H1 w' H3 ∧ Rel c w' S' H3 ∧ G S' ∧ H3 Dl = some (.lst vs) ∧ (∀ l : Nat, w'.ρ[l]? ≠ some Dl) ∧ w'.B Dl = none ∧ RelDs c w' acc vs ∧ ∃ rest, loopC (turn) (xs.drop (i + 1)) S' = .ok rest S2 ∧ acc ++ rest = ys := by
          intro bb hbb
          refine ⟨wT, S', env', cs, S5, bb, RT, RE2, h5, hbb, fun w3 H3 g3 R3 => ?_⟩
          have h3l : H3 Dl = some (.lst vs) := g3.fr Dl _ h2l n2R
          have n3R : ∀ l : Nat, w3.ρ[l]? ≠ some Dl := fun l q => by
            rcases g3.nw l Dl q with ⟨j, hj⟩ | h
            · exact n2R j hj
            · rw [h2l] at h; cases h
          have n3B : w3.B Dl = none := by
            cases q : w3.B Dl with
            | none => rfl
            | some o =>
              rcases g3.nb Dl o q with h | h
              · rw [n2B] at h; cases h
              · rw [h2l] at h; cases h.1
          have yes : bb = true → ((ev F ee env' S5).bind fun y S3 => Res.ok (some y) S3) = .ok oy S3 := by
            intro hbt
            rcases hbb with ⟨rfl, _⟩ | rfl
            · exact h3
            · subst hbt; exact h3
          cases bb with
          | true =>
            show if true = true then _ else _
            rw [if_pos rfl]
            obtain ⟨y0, S6, h6, h7⟩ := Res.bind_eq (yes rfl)
            cases h7
            refine ⟨w3, S5, env', y0, S3, R3, RE2.mono g3.le, h6, fun w4 H4 v4 g4 R4 r4 => ?_⟩
            have h4l : H4 Dl = some (.lst vs) := g4.fr Dl _ h3l n3R
            have n4R : ∀ l : Nat, w4.ρ[l]? ≠ some Dl := fun l q => by
              rcases g4.nw l Dl q with ⟨j, hj⟩ | h
              · exact n3R j hj
              · rw [h3l] at h; cases h
            have n4B : w4.B Dl = none := by
              cases q : w4.B Dl with
              | none => rfl
              | some o =>
                rcases g4.nb Dl o q with h | h
                · rw [n3B] at h; cases h
                · rw [h3l] at h; cases h.1
            have racc4 := racc.mono ((g2.trans g3).trans g4).le
            have hlen : vs.length < sizeLine := by
              have : (acc ++ y0 :: rest').length ≤ LIM := by rw [hys]; exact hz
              rw [List.length_append, List.length_cons] at this
              rw [← racc4.length]
              exact lim_lt (by omega)
            exact ⟨vs, h4l, hlen, w4, S3, acc ++ [y0], vs ++ [v4], (((g'.trans g2).trans g3).trans g4).other hD, R4.other n4B n4R, hG3, upd_same, n4R, n4B, racc4.append (.cons r4 .nil), rest', h4, by rw [List.append_assoc]; exact hys⟩
          | false =>
            show if false = true then _ else _
            rw [if_neg (by decide)]
            rcases hbb with ⟨_, h⟩ | rfl
            · cases h
            · cases h3
              exact ⟨w3, S3, acc, vs, (g'.trans g2).trans g3, R3, hG3, h3l, n3R, n3B, racc.mono (g2.trans g3).le, rest', h4, hys⟩
        match cs, h5, h3, fin with
        | [], _, _, fin => exact fin true (.inl ⟨rfl, rfl⟩)
        | [.bl true], _, _, fin => exact fin true (.inr rfl)
        | [.bl false], _, _, fin => exact fin false (.inr rfl)
  · intro H' ⟨w', S', acc, vs, g', R', hG, hDl, nR, nB, racc, rest, hl, hys⟩
    rw [List.drop_length] at hl
    simp only [loopC] at hl
    cases hl
    rw [List.append_nil] at hys
    subst hys
    rw [if_pos hz] at hv
    have hDH : H0 Dl = none := g1.free R1 hD
    have nRw : ∀ l : Nat, w0.ρ[l]? ≠ some Dl := R.notR hDH
    cases mu with
    | true =>
      cases hv
      refine kk (w'.more Dl) H' (.ref Dl) ?_ (R'.adoptO hDl nB nR ⟨vs, rfl, racc.mono Wd.le_more⟩) ?_
      · have g := g1.trans g'
        refine ⟨g.le.le_trans Wd.le_more, g.fr, fun l a e => ?_, g.nb⟩
        by_cases hl : l < w'.ρ.length
        · rw [show (w'.more Dl).ρ = w'.ρ ++ [Dl] from rfl, List.getElem?_append_left hl] at e; exact g.nw l a e
        · rw [show (w'.more Dl).ρ = w'.ρ ++ [Dl] from rfl, List.getElem?_append_right (by omega)] at e
          have := List.mem_of_getElem? e
          simp at this
          rw [this]; exact .inr hDH
      · simp only [RelD]
        refine ⟨Dl, ?_, rfl⟩
        show (w'.ρ ++ [Dl])[S2.length]? = some Dl
        rw [← R'.len, List.getElem?_append_right (Nat.le_refl _)]
        simp
    | false =>
      cases hv
      refine kk (w'.add Dl (.lst vs)) H' (.ref Dl) ?_ (R'.adopt hDl nB nR) ?_
      · have g := g1.trans g'
        refine ⟨g.le.le_trans (Wd.le_add nB), g.fr, g.nw, fun a o e => ?_⟩
        by_cases ha : a = Dl
        · subst ha; exact .inr ⟨hDH, nRw⟩
        · rw [show (w'.add Dl (.lst vs)).B a = w'.B a from upd_ne ha] at e; exact g.nb a o e
      · simp only [RelD]
        exact ⟨Dl, vs, rfl, (show upd w'.B Dl (.lst vs) Dl = some (.lst vs) from upd_same), racc.mono (Wd.le_add nB)⟩
theorem comp_imp {mu : Bool} {p : P} {k : IK} {its cond : List E} {ee : E} {σ : St} {H : Hp} {Q : VK} (h : SemE c F (.comp mu p k its cond ee) σ H Q) : tLc (SemI c F k its) (SemG c p) (SemTs c F cond) (SemE c F ee) (slotsP p) σ H Q := by
  obtain ⟨w, S, env, d, S', R, RE, hv, kk⟩ := h
  simp only [ev] at hv
  obtain ⟨ds, S1, e1, hv1⟩ := Res.bind_eq hv
  clear hv
  obtain ⟨xs, S1', e2, hv2⟩ := Res.bind_eq hv1
  clear hv1
  obtain ⟨e2', rfl⟩ := opt_eq e2
  obtain ⟨ys, S2, e30, hv⟩ := Res.bind_eq hv2
  clear hv2
  have e3 : loopC (turnC F p cond ee env) xs S1' = .ok ys S2 := e30
  exact ⟨w, S, env, ds, xs, S1', R, RE, e1, e2', fun w1 H1 J g1 R1 wk => comp_core (turn := turnC F p cond ee env) (G := fun _ => True) R RE (fun x S o S2 h => ⟨h, True.intro⟩) True.intro e3 hv kk g1 R1 (wk.g _)⟩
/-- a comprehension over a list of the store that stays as it is -/
def SemIL (c : Cfg) (F : Fn) (it : E) : TI := fun σ H R => ∃ w S env l xs S', Rel c w S H ∧ RelEnv c w env σ ∧ ev F it env S = .ok (.ref l) S' ∧ S'[l]? = some (.lst xs) ∧
  ∀ w' H' J, Go w H w' H' → Rel c w' S' H' → WalkG c w' J xs (fun S => S[l]? = some (.lst xs)) → R J H'
theorem sem_seqL {X : Cx} {tg e : Expr} {ee : E} (hK : X.K = c.K) (he : PE X e (SemE c F ee)) : PI X tg e (SemIL c F ee) := by
  refine ⟨fun pins s σ H R I ⟨w, S, env, l, xs, S', Rl, RE, hev, hl, k⟩ => ?_⟩
  refine thn (he.run pins s σ H (fun v H1 => ∃ w1, Go w H w1 H1 ∧ Rel c w1 S' H1 ∧ RelD c w1 (.ref l) v) I ⟨w, S, env, _, S', Rl, RE, hev, fun w1 H1 v g R1 r1 => ⟨w1, g, R1, r1⟩⟩) fun u s1 ⟨x, H1, I1, rx, w1, g, R1, r1⟩ => ?_
  simp only [RelD] at r1
  obtain ⟨ad, hr, rfl⟩ := r1
  cases rx
  obtain ⟨ys, h1, h2⟩ := R1.lst hr hl
  have q := k w1 H1 (Itl c.K ad) g R1 ?_
  · obtain ⟨its, rv, p, hz⟩ := I1.list (SqL.of h1)
    exact wpAny_pyIter_list p.isList (pi_one (tk := s1.toks) (tn := fun i h => h.IsListIter s1.heap.objs.size ad i) I1 _ (by rw [hK]; exact turn_list ad _) ⟨_, Heap.get?_push_size _ rfl, rfl, rfl⟩ q)
  · refine ⟨fun i w' S2 H' hi le R' hS => ?_, fun w' S2 H' le R' hS => ?_, fun i w' S2 H' x H2 hi le R' hS y => ?_⟩
    · obtain ⟨zs, z1, z2⟩ := R'.lst (le.l _ _ hr) hS
      have wk := walk_list (K := c.K) (a := ad) (xs := zs)
      rw [← z2.length] at wk
      exact wk.goes i H' hi (SqL.of z1)
    · obtain ⟨zs, z1, z2⟩ := R'.lst (le.l _ _ hr) hS
      have wk := walk_list (K := c.K) (a := ad) (xs := zs)
      rw [← z2.length] at wk
      exact wk.stops H' (SqL.of z1)
    · obtain ⟨zs, z1, z2⟩ := R'.lst (le.l _ _ hr) hS
      have wk := walk_list (K := c.K) (a := ad) (xs := zs)
      rw [← z2.length] at wk
      obtain ⟨rfl, hx⟩ := wk.yields i H' x H2 hi (SqL.of z1) y
      obtain ⟨d, e, rd⟩ := z2.getV hx
      exact ⟨d, w', e, Go.refl, R', rd⟩
def turnL (F : Fn) (p : P) (cond : List E) (e : E) (env : Env) (l : Nat) (xs : List D) (x : D) (S : Store) : Res (Option D) := (turnC F p cond e env x S).bind fun o S4 => if stillL l xs S4 = true then .ok o S4 else .bad
theorem still_eq {l : Nat} {xs : List D} {S : Store} (h : stillL l xs S = true) : S[l]? = some (.lst xs) := by
  unfold stillL at h
  split at h
  · rename_i ys e
    rw [e, beqDs_eq ys xs h]
  · cases h
theorem comp_impL {mu : Bool} {p : P} {it ee : E} {cond : List E} {σ : St} {H : Hp} {Q : VK} (h : SemE c F (.compL mu p it cond ee) σ H Q) : tLc (SemIL c F it) (SemG c p) (SemTs c F cond) (SemE c F ee) (slotsP p) σ H Q := by
  obtain ⟨w, S, env, d, S', R, RE, hv, kk⟩ := h
  rw [ev] at hv
  obtain ⟨ds, S1, e1, hv1⟩ := Res.bind_eq hv
  clear hv
  split at hv1
  · rename_i l
    split at hv1
    · rename_i xs hl
      obtain ⟨ys, S2, e30, hv⟩ := Res.bind_eq hv1
      clear hv1
      have e3 : loopC (turnL F p cond ee env l xs) xs S1 = .ok ys S2 := e30
      exact ⟨w, S, env, l, xs, S1, R, RE, e1, hl, fun w1 H1 J g1 R1 wk => comp_core (turn := turnL F p cond ee env l xs) (G := fun S => S[l]? = some (.lst xs)) R RE (fun x S o S2 h => by
        unfold turnL at h
        obtain ⟨o1, S4, h1, h2⟩ := Res.bind_eq h
        split at h2
        · rename_i hs
          cases h2
          exact ⟨h1, still_eq hs⟩
        · cases h2) hl e3 hv kk g1 R1 wk⟩
    · cases hv1
  · cases hv1
theorem sem_comp {elt tg iter : Expr} {ifs : List Expr} {scope : Scope} {own : List (Str × Nat)} {pos : Pos} {mu : Bool} {p : P} {k : IK} {its cond : List E} {ee : E} (hc : X.calm = true) (hN : X.N.Nodup) (hi : PI X tg iter (SemI c F k its)) (ok : BlkOk X.N X.env.scope scope own)
    (hg : ∀ (s : Shared) (H : Hp) (C : Addr) (cl : List (Str × Addr)) (fp : List Addr), PG (X.blk s H scope (compEnvC scope cl C X.env) fp) tg (SemG c p))
    (ht : ∀ (s : Shared) (H : Hp) (C : Addr) (cl : List (Str × Addr)) (fp : List Addr), PTs (X.blk s H scope (compEnvC scope cl C X.env) fp) ifs (SemTs c F cond))
    (he : ∀ (s : Shared) (H : Hp) (C : Addr) (cl : List (Str × Addr)) (fp : List Addr), PE (X.blk s H scope (compEnvC scope cl C X.env) fp) elt (SemE c F ee)) (hs : ∀ x, foldedSetIterable iter X.env x = pure x) (how : own.map (·.2) = slotsP p) :
    PE X (.ListComp elt [⟨tg, iter, ifs, 0⟩] scope pos) (SemE c F (.comp mu p k its cond ee)) := by
  have q := pe_lc (pos := pos) hc hN hi ok hg ht he hs
  rw [how] at q
  exact PE.imp q fun σ H Q h => comp_imp h
theorem sem_compL {elt tg iter : Expr} {ifs : List Expr} {scope : Scope} {own : List (Str × Nat)} {pos : Pos} {mu : Bool} {p : P} {it : E} {cond : List E} {ee : E} (hc : X.calm = true) (hN : X.N.Nodup) (hi : PI X tg iter (SemIL c F it)) (ok : BlkOk X.N X.env.scope scope own)
    (hg : ∀ (s : Shared) (H : Hp) (C : Addr) (cl : List (Str × Addr)) (fp : List Addr), PG (X.blk s H scope (compEnvC scope cl C X.env) fp) tg (SemG c p))
    (ht : ∀ (s : Shared) (H : Hp) (C : Addr) (cl : List (Str × Addr)) (fp : List Addr), PTs (X.blk s H scope (compEnvC scope cl C X.env) fp) ifs (SemTs c F cond))
    (he : ∀ (s : Shared) (H : Hp) (C : Addr) (cl : List (Str × Addr)) (fp : List Addr), PE (X.blk s H scope (compEnvC scope cl C X.env) fp) elt (SemE c F ee)) (hs : ∀ x, foldedSetIterable iter X.env x = pure x) (how : own.map (·.2) = slotsP p) :
    PE X (.ListComp elt [⟨tg, iter, ifs, 0⟩] scope pos) (SemE c F (.compL mu p it cond ee)) := by
  have q := pe_lc (pos := pos) hc hN hi ok hg ht he hs
  rw [how] at q
  exact PE.imp q fun σ H Q h => comp_impL h
end
end MP

/-! MP7: statements. -/
namespace MP
open PySem L2

/-- what is wanted of an outcome -/
def Want (c : Cfg) (WX : XK) (w : Wd) (H : Hp) (Dn : Ends) : Out → Prop
  | .nx env' S' => ∀ w' σ' H', Go w H w' H' → Rel c w' S' H' → RelEnv c w' env' σ' → Dn.nx σ' H'
  | .rt d S' => ∀ w' H' v, Go w H w' H' → Rel c w' S' H' → RelD c w' d v → Dn.rt v H'
  | .bk env' S' => ∀ w' σ' H', Go w H w' H' → Rel c w' S' H' → RelEnv c w' env' σ' → Dn.bk σ' H'
  | .ct env' S' => ∀ w' σ' H', Go w H w' H' → Rel c w' S' H' → RelEnv c w' env' σ' → Dn.ct σ' H'
  | .ex d S' => ∀ w' H' cls dd, Go w H w' H' → Rel c w' S' H' → ExR c w' d cls dd → WX cls dd H'
  | .bad => False
theorem Want.go {c : Cfg} {WX : XK} {w w1 : Wd} {H H1 : Hp} {Dn : Ends} (g : Go w H w1 H1) : ∀ {o : Out}, Want c WX w H Dn o → Want c WX w1 H1 Dn o
  | .nx _ _, h => fun w' σ' H' g' R RE => h w' σ' H' (g.trans g') R RE
  | .rt _ _, h => fun w' H' v g' R RE => h w' H' v (g.trans g') R RE
  | .bk _ _, h => fun w' σ' H' g' R RE => h w' σ' H' (g.trans g') R RE
  | .ct _ _, h => fun w' σ' H' g' R RE => h w' σ' H' (g.trans g') R RE
  | .ex _ _, h => fun w' H' cls dd g' R RE => h w' H' cls dd (g.trans g') R RE
  | .bad, h => h
def SemS (c : Cfg) (WX : XK) (body : Env → Store → Out) : TS := fun Dn σ H => ∃ w S env, Rel c w S H ∧ RelEnv c w env σ ∧ Want c WX w H Dn (body env S)
section
variable {X : Cx} {c : Cfg} {WX : XK} {F : Fn} {st : Stmt} {rest : List Stmt} {e : Expr} {ee : E} {pos : Pos}
theorem sem_snil : PSs X [] (SemS c WX (exs F [])) := PSs.imp pss_nil fun Dn σ H ⟨w, S, env, R, RE, k⟩ => by
  simp only [exs, Want] at k
  exact k w σ H Go.refl R RE
theorem sem_scons {s : SA} {r : List SA} (h1 : PS X st (SemS c WX (ex F s))) (h2 : PSs X rest (SemS c WX (exs F r))) : PSs X (st :: rest) (SemS c WX (exs F (s :: r))) :=
  PSs.imp (pss_cons h1 h2) fun Dn σ H ⟨w, S, env, R, RE, k⟩ => by
    simp only [exs] at k
    refine ⟨w, S, env, R, RE, ?_⟩
    cases q : ex F s env S with
    | nx env' S' =>
      rw [q] at k
      exact fun w' σ' H' g R' RE' => ⟨w', S', env', R', RE', Want.go g k⟩
    | rt d S' => rw [q] at k; exact k
    | bk env' S' => rw [q] at k; exact k
    | ct env' S' => rw [q] at k; exact k
    | ex d S' => rw [q] at k; exact k
    | bad => rw [q] at k; exact k
/-- an expression's value, then what follows -/
theorem Want.of {env : Env} {w : Wd} {S : Store} {H : Hp} {σ : St} {Dn : Ends} {f : D → Store → Out} {Q : VK} (R : Rel c w S H) (RE : RelEnv c w env σ) (h : Want c WX w H Dn (Out.of (ev F ee env S) f))
    (g : ∀ d1 S1 w1 H1 v1, Go w H w1 H1 → Rel c w1 S1 H1 → RelD c w1 d1 v1 → RelEnv c w1 env σ → Want c WX w1 H1 Dn (f d1 S1) → Q v1 H1) : SemE c F ee σ H Q := by
  cases q : ev F ee env S with
  | exc d1 S1 => rw [q] at h; exact h.elim
  | bad => rw [q] at h; exact h.elim
  | ok d1 S1 =>
    rw [q] at h
    exact ⟨w, S, env, d1, S1, R, RE, q, fun w1 H1 v1 g1 R1 r1 => g d1 S1 w1 H1 v1 g1 R1 r1 (RE.mono g1.le) (Want.go g1 h)⟩
theorem sem_asg {p : P} {tg : Expr} (h : PS X st (tAsg (SemE c F ee) (SemG c p))) : PS X st (SemS c WX (ex F (.asg p ee))) := PS.imp h fun Dn σ H ⟨w, S, env, R, RE, k⟩ => by
  simp only [ex] at k
  refine Want.of R RE k fun d1 S1 w1 H1 v1 g1 R1 r1 RE1 h1 => ?_
  cases q : bindP p d1 env with
  | none => rw [q] at h1; exact h1.elim
  | some env' =>
    rw [q] at h1
    exact ⟨w1, S1, env, d1, env', R1, RE1, r1, q, fun w2 σ2 H2 g2 R2 RE2 _ => h1 w2 σ2 H2 g2 R2 RE2⟩
/-- x = e -/
theorem asg_name {i : Nat} (h : PS X st (tAsg (SemE c F ee) (gName i))) : PS X st (SemS c WX (ex F (.asg (.name i) ee))) := PS.imp h fun Dn σ H ⟨w, S, env, R, RE, k⟩ => by
  simp only [ex] at k
  refine Want.of R RE k fun d1 S1 w1 H1 v1 g1 R1 r1 RE1 h1 => ?_
  simp only [bindP] at h1
  split at h1
  · rename_i env' q
    split at q
    · rename_i hi
      cases q
      exact h1 w1 _ H1 Go.refl R1 (RE1.set r1 hi)
    · cases q
  · exact h1.elim
theorem sem_setIx {o i : Expr} {eo ei : E} {p' : Pos} (he : PE X e (SemE c F ee)) (ho : PE X o (SemE c F eo)) (hi : PE X i (SemE c F ei)) (hs : swapsWithSole [.Subscript o i p'] e pos.line X.env = pure false) (hw : swappedStores [.Subscript o i p'] e X.env = pure none)
    (hns : ∀ v, assign (.Subscript o i p') X.env v = (do
      let ov ← holding [v] (eval o X.env)
      let iv ← holding [v, ov] (eval i X.env)
      standAt p'
      holding [v, ov, iv] (setItem ov iv v)
      release [v, ov, iv] [])) : PS X (.Assign [.Subscript o i p'] e pos) (SemS c WX (ex F (.setIx ee eo ei))) :=
  PS.imp (ps_asg he (pg_sub ho hi set_list hns) hs hw) fun Dn σ H ⟨w, S, env, R, RE, k⟩ => by
    simp only [ex] at k
    refine Want.of R RE k fun d1 S1 w1 H1 v1 g1 R1 r1 RE1 h1 => ?_
    refine Want.of R1 RE1 h1 fun d2 S2 w2 H2 v2 g2 R2 r2 RE2 h2 => ?_
    refine Want.of R2 RE2 h2 fun d3 S3 w3 H3 v3 g3 R3 r3 RE3 h3 => ?_
    cases q : setIxD d1 d2 d3 S3 with
    | none => rw [q] at h3; exact h3.elim
    | some S4 =>
      rw [q] at h3
      unfold setIxD at q
      cases d2 <;> try (cases q; done)
      rename_i l
      cases d3 <;> try (cases q; done)
      rename_i kk
      simp only at q
      split at q
      · rename_i xs hx
        rw [Option.map_eq_some_iff] at q
        obtain ⟨j, hj, rfl⟩ := q
        have r2' := r2.mono g3.le
        simp only [RelD] at r2' r3
        obtain ⟨a, ha, rfl⟩ := r2'
        obtain ⟨ys, hys, rys⟩ := R3.lst ha hx
        refine ⟨a, ys, kk, j, rfl, r3, hys, by rw [← rys.length]; exact hj, ?_⟩
        have r1' := r1.mono (g2.trans g3).le
        exact h3 w3 σ _ (Go.put ha) (R3.putL ha (rys.set r1' j)) RE3
      · cases q
theorem sem_expr (h : PE X e (SemE c F ee)) (hs : swapsWith e none pos.line X.env = pure false) : PS X (.Expr e pos) (SemS c WX (ex F (.expr ee))) := PS.imp (ps_expr h hs) fun Dn σ H ⟨w, S, env, R, RE, k⟩ => by
  simp only [ex] at k
  exact Want.of R RE k fun d1 S1 w1 H1 v1 g1 R1 r1 RE1 h1 => h1 w1 σ H1 Go.refl R1 RE1
theorem sem_ret (h : PE X e (SemE c F ee)) : PS X (.Return (some e) pos) (SemS c WX (ex F (.ret ee))) := PS.imp (ps_ret h) fun Dn σ H ⟨w, S, env, R, RE, k⟩ => by
  simp only [ex] at k
  exact Want.of R RE k fun d1 S1 w1 H1 v1 g1 R1 r1 RE1 h1 => h1 w1 H1 v1 Go.refl R1 r1
theorem sem_retN : PS X (.Return none pos) (SemS c WX (ex F .retN)) := PS.imp ps_retN fun Dn σ H ⟨w, S, env, R, RE, k⟩ => by
  simp only [ex, Want] at k
  exact k w H _ Go.refl R (by simp only [RelD])
/-- what is never come to -/
theorem sem_die {st : Stmt} : PS X st (SemS c WX (ex F .die)) := ⟨fun pins s σ H D I ⟨w, S, env, R, RE, k⟩ => (show False by simp only [ex, Want] at k).elim⟩
theorem sem_pass : PS X (.Pass pos) (SemS c WX (ex F .pass)) := PS.imp ps_pass fun Dn σ H ⟨w, S, env, R, RE, k⟩ => by
  simp only [ex, Want] at k
  exact k w σ H Go.refl R RE
theorem sem_brk : PS X (.Break pos) (SemS c WX (ex F .brk)) := PS.imp ps_break fun Dn σ H ⟨w, S, env, R, RE, k⟩ => by
  simp only [ex, Want] at k
  exact k w σ H Go.refl R RE
theorem sem_cont : PS X (.Continue pos) (SemS c WX (ex F .cont)) := PS.imp ps_continue fun Dn σ H ⟨w, S, env, R, RE, k⟩ => by
  simp only [ex, Want] at k
  exact k w σ H Go.refl R RE
theorem sem_ifs {t : Expr} {et : E} {a b : List Stmt} {sa sb : List SA} (ht : PT X t (SemT c F et)) (ha : PSs X a (SemS c WX (exs F sa))) (hb : PSs X b (SemS c WX (exs F sb))) : PS X (.If t a b pos) (SemS c WX (ex F (.ifs et sa sb))) :=
  PS.imp (ps_if ht ha hb) fun Dn σ H ⟨w, S, env, R, RE, k⟩ => by
    simp only [ex] at k
    cases q : ev F et env S with
    | exc d1 S1 => rw [q] at k; exact k.elim
    | bad => rw [q] at k; exact k.elim
    | ok d1 S1 =>
      rw [q] at k
      simp only [Out.of] at k
      cases d1 <;> try exact k.elim
      rename_i bb
      refine ⟨w, S, env, bb, S1, R, RE, q, fun w1 H1 g1 R1 => ?_⟩
      cases bb with
      | true => rw [if_pos rfl]; exact ⟨w1, S1, env, R1, RE.mono g1.le, Want.go g1 k⟩
      | false => rw [if_neg (by decide)]; exact ⟨w1, S1, env, R1, RE.mono g1.le, Want.go g1 k⟩
/-- what a loop hands on -/
theorem sem_for {tg iter : Expr} {body : List Stmt} {p : P} {kk : IK} {its : List E} {sb : List SA} (hp : PassesOwn (model X.prog X.w) X.A X.env X.xe) (hc : X.calm = true) (hi : PI X tg iter (SemI c F kk its)) (hg : PG X tg (SemG c p)) (hb : PSs X body (SemS c WX (exs F sb)))
    (hs : ∀ x, foldedSetIterable iter X.env x = pure x) : PS X (.For tg iter body [] pos) (SemS c WX (ex F (.for_ p kk its sb))) :=
  PS.imp (ps_for hp hc hi hg hb hs) fun Dn σ H ⟨w, S, env, R, RE, k⟩ => by
    simp only [ex] at k
    cases q : evs F its env S with
    | exc d1 S1 => rw [q] at k; exact k.elim
    | bad => rw [q] at k; exact k.elim
    | ok ds S1 =>
      rw [q] at k
      simp only [Out.of] at k
      cases q2 : itD kk ds with
      | none => rw [q2] at k; exact k.elim
      | some xs =>
        rw [q2] at k
        refine ⟨w, S, env, ds, xs, S1, R, RE, q, q2, fun w1 H1 J g1 R1 wk => ?_⟩
        have k1 := Want.go g1 k
        clear k
        refine for_it (n := xs.length) (G := fun H' => ∃ w' S', w1.le w' ∧ Rel c w' S' H')
          (Y := fun i H' x H2 => ∀ w' S', w1.le w' → Rel c w' S' H' → ∃ d w2, xs[i]? = some d ∧ Go w' H' w2 H2 ∧ Rel c w2 S' H2 ∧ RelD c w2 d x)
          ⟨fun i H' hi ⟨w', S', le, R'⟩ => wk.go i w' S' H' hi le R', fun H' ⟨w', S', le, R'⟩ => wk.stop w' S' H' le R', fun i H' x H2 hi _ y w' S' le R' => wk.yld i w' S' H' x H2 hi le R' y⟩
          (fun i σ' H' => ∃ w' S' env', w1.le w' ∧ Rel c w' S' H' ∧ RelEnv c w' env' σ' ∧ Want c WX w' H' Dn (loopF (fun x env S => match bindP p x env with
            | none => .bad
            | some env' => exs F sb env' S) (xs.drop i) env' S'))
          ⟨w1, S1, env, w1.le_refl, R1, RE.mono g1.le, k1⟩ (fun i σ' H' _ ⟨w', S', _, le, R', _⟩ => ⟨w', S', le, R'⟩) ?_ ?_
        · intro i x σ0 H0 H' hi ⟨w', S', env0, le, R', RE', wt⟩ hY
          obtain ⟨d0, w2, hx, g2, R2, r2⟩ := hY w' S' le R'
          have hdrop : xs.drop i = d0 :: xs.drop (i + 1) := by
            obtain ⟨h1, h2⟩ := List.getElem?_eq_some_iff.mp hx
            rw [List.drop_eq_getElem_cons h1, h2]
          rw [hdrop] at wt
          simp only [loopF] at wt
          have wt2 := Want.go g2 wt
          clear wt
          cases hb : bindP p d0 env0 with
          | none => rw [hb] at wt2; exact wt2.elim
          | some env1 =>
            rw [hb] at wt2
            refine ⟨w2, S', env0, d0, env1, R2, RE'.mono g2.le, r2, hb, fun w3 σ3 H3 g3 R3 RE3 _ => ⟨w3, S', env1, R3, RE3, ?_⟩⟩
            have wt3 := Want.go g3 wt2
            clear wt2
            have le3 : w1.le w3 := (le.le_trans g2.le).le_trans g3.le
            simp only at wt3
            cases hr : exs F sb env1 S' with
            | nx env4 S4 =>
              rw [hr] at wt3
              exact fun w4 σ4 H4 g4 R4 RE4 => ⟨w4, S4, env4, le3.le_trans g4.le, R4, RE4, Want.go g4 wt3⟩
            | ct env4 S4 =>
              rw [hr] at wt3
              exact fun w4 σ4 H4 g4 R4 RE4 => ⟨w4, S4, env4, le3.le_trans g4.le, R4, RE4, Want.go g4 wt3⟩
            | bk env4 S4 => rw [hr] at wt3; exact wt3
            | rt d4 S4 => rw [hr] at wt3; exact wt3
            | ex d4 S4 => rw [hr] at wt3; exact wt3
            | bad => rw [hr] at wt3; exact wt3
        · intro σ' H' ⟨w', S', env', le, R', RE', wt⟩
          rw [List.drop_length] at wt
          simp only [loopF] at wt
          exact wt w' σ' H' Go.refl R' RE'
theorem sem_while {t : Expr} {et : E} {body : List Stmt} {sb : List SA} (hp : PassesOwn (model X.prog X.w) X.A X.env X.xe) (ht : PT X t (SemT c F et)) (hb : PSs X body (SemS c WX (exs F sb))) : PS X (.While t body [] pos) (SemS c WX (ex F (.while_ et sb))) :=
  PS.imp (ps_while hp ht hb) fun Dn σ H ⟨w, S, env, R, RE, k⟩ => by
    simp only [ex] at k
    refine ⟨fun m σ' H' => ∃ w' S' env', Rel c w' S' H' ∧ RelEnv c w' env' σ' ∧ Want c WX w' H' Dn (loopW (ev F et) (exs F sb) m env' S'), ⟨WN, w, S, env, R, RE, k⟩, ?_⟩
    rintro m σ0 H0 ⟨w0, S0, env0, R0, RE0, wt⟩
    cases m with
    | zero => simp only [loopW] at wt; exact wt.elim
    | succ m =>
      simp only [loopW] at wt
      cases q : ev F et env0 S0 with
      | exc d1 S1 => rw [q] at wt; exact wt.elim
      | bad => rw [q] at wt; exact wt.elim
      | ok d1 S1 =>
        rw [q] at wt
        cases d1 <;> try exact wt.elim
        rename_i bb
        refine ⟨w0, S0, env0, bb, S1, R0, RE0, q, fun w1 H1 g1 R1 => ?_⟩
        have wt1 := Want.go g1 wt
        clear wt
        cases bb with
        | false =>
          show if false = true then _ else _
          rw [if_neg (by decide)]; exact wt1 w1 σ0 H1 Go.refl R1 (RE0.mono g1.le)
        | true =>
          show if true = true then _ else _
          rw [if_pos rfl]
          refine ⟨fun σ' H' => ∃ w' S' env', Rel c w' S' H' ∧ RelEnv c w' env' σ' ∧ Want c WX w' H' Dn (loopW (ev F et) (exs F sb) m env' S'), fun σ' H' h => ⟨m, Nat.lt_succ_self m, h⟩, ?_⟩
          refine ⟨w1, S1, env0, R1, RE0.mono g1.le, ?_⟩
          simp only at wt1
          cases hr : exs F sb env0 S1 with
          | nx env4 S4 =>
            rw [hr] at wt1
            exact fun w4 σ4 H4 g4 R4 RE4 => ⟨w4, S4, env4, R4, RE4, Want.go g4 wt1⟩
          | ct env4 S4 =>
            rw [hr] at wt1
            exact fun w4 σ4 H4 g4 R4 RE4 => ⟨w4, S4, env4, R4, RE4, Want.go g4 wt1⟩
          | bk env4 S4 => rw [hr] at wt1; exact wt1
          | rt d4 S4 => rw [hr] at wt1; exact wt1
          | ex d4 S4 => rw [hr] at wt1; exact wt1
          | bad => rw [hr] at wt1; exact wt1
theorem sem_par {i j : Nat} {ea eb : E} (h : PS X st (tPar i j (SemA c F [ea, eb]))) : PS X st (SemS c WX (ex F (.par i j ea eb))) := PS.imp h fun Dn σ H ⟨w, S, env, R, RE, k⟩ => by
  simp only [ex] at k
  cases q : ev F ea env S with
  | exc d1 S1 => rw [q] at k; exact k.elim
  | bad => rw [q] at k; exact k.elim
  | ok d1 S1 =>
    rw [q] at k
    simp only [Out.of] at k
    cases q2 : ev F eb env S1 with
    | exc d2 S2 => rw [q2] at k; exact k.elim
    | bad => rw [q2] at k; exact k.elim
    | ok d2 S2 =>
      rw [q2] at k
      simp only at k
      split at k
      · rename_i hij
        refine ⟨w, S, env, [d1, d2], S2, R, RE, by simp only [evs, q, q2, Res.bind_ok], fun w1 H1 vs g1 R1 rs => ?_⟩
        obtain ⟨v, u, rfl, r1, r2⟩ := rs.two
        refine ⟨v, u, rfl, ?_⟩
        exact (Want.go g1 k) w1 _ H1 Go.refl R1 (((RE.mono g1.le).set r1 hij.1).set r2 (by rw [List.length_set]; exact hij.2))
      · exact k.elim
end
end MP

set_option maxHeartbeats 2000000
/-! MPX0: exceptions of the text's classes: made, raised, caught and kept, looked at. -/
namespace MP
open PySem PySem.Spec PySem.Calls PyProof.Rows L2

/-! ### a caught one is kept -/
theorem xo_ok {P : Program} {W : World} {H : Hp} {h : Heap} {a C : Addr} {dd : Option Addr} {oe : Obj} {vs : Array Value} (e : h.get? a = some oe) (z : Zc (.ref C) dd oe) (d : oe.data = .fields vs) : ObjOk P W H h a (XO C dd a) :=
  ⟨⟨oe, vs, e, z, d⟩, ⟨oe, e⟩, fun _ _ ⟨o, v, q, r⟩ k => ⟨o, v, k o q, r⟩⟩
theorem xo_at {P : Program} {W : World} {H : Hp} {h : Heap} {a C : Addr} {dd : Option Addr} (hok : HOk P W H h) (he : H a = some (XO C dd a)) : ∃ (oe : Obj) (vs : Array Value), h.get? a = some oe ∧ Zc (.ref C) dd oe ∧ oe.data = .fields vs := by
  have x : ObjOk P W H h a (.ext fun h => ∃ (oe : Obj) (vs : Array Value), h.get? a = some oe ∧ Zc (.ref C) dd oe ∧ oe.data = .fields vs) := hok a _ he
  exact x.1
section
variable {X : Cx} {pins : List (Addr × Obj)} {σ : L2.St} {H : Hp} {s : Shared}
theorem track {a : Addr} {oe : Obj} {o : HO} (I : Inv X ((a, oe) :: pins) σ H s) (h0 : X.s_0.heap.get? a = none) (hp : ∀ p ∈ X.pn ++ pins, p.1 ≠ a) (new : ObjOk X.prog X.w (upd H a o) s.heap a o) : Inv X pins σ (upd H a o) s := by
  obtain ⟨pa, pn, pl, pf, pc⟩ := I.pin (a, oe) (List.mem_append_right _ List.mem_cons_self)
  refine ⟨I.ok, I.os, I.bare, ⟨I.base.keep, I.base.slot, fun b ob q n hx => ?_, I.base.there, fun b xs q => ?_, fun b ob u q => ?_, fun b ps q => ?_⟩, I.loc, I.cell, ?_, fun x c e => ?_, fun p h => ?_, ?_, I.len⟩
  · rw [upd_ne (fun z => by rw [z, h0] at q; cases q)]
    exact I.base.free b ob q n hx
  · have z := I.base.tups b xs q
    rw [upd_ne (ne_of_none z pn)]; exact z
  · have z := I.base.frzs b ob u q
    rw [upd_ne (ne_of_none z pn)]; exact z
  · obtain ⟨more, z⟩ := I.base.tbls b ps q
    exact ⟨more, by rw [upd_ne (ne_of_none z pn)]; exact z⟩
  · rw [upd_ne (Ne.symm pl)]; exact I.free
  · have hne : c ≠ a := fun z => by
      subst z
      obtain ⟨v, ob, e1, e2⟩ := I.cell x c e
      have e1 : s.heap.get? c = some ob := e1
      rw [pa] at e1
      cases e1
      exact pc v e2
    rw [upd_ne hne]; exact I.freeC x c e
  · have hm : p ∈ X.pn ++ ((a, oe) :: pins) := by
      rcases List.mem_append.mp h with h | h
      · exact List.mem_append_left _ h
      · exact List.mem_append_right _ (List.mem_cons_of_mem _ h)
    obtain ⟨q1, q2, q3, q4, q5⟩ := I.pin p hm
    exact ⟨q1, by rw [upd_ne (hp p h)]; exact q2, q3, q4, q5⟩
  · exact I.hok.laidN (fun _ _ e => e) pn new
end
/-- what the clause 'except x as n: m = n' wishes of an exception of the body: slots i, m are n's, m's; the exception stands tracked behind it -/
def wKeep (K : PySem.W.Frag) (c : Value) (i m : Nat) (D : Ends) : WX := fun cls d σ H => ∃ C, cls = .ref C ∧ PySem.W.exmOne K cls c = some true ∧ ∀ a, H a = none → D.nx (((σ.set i (some (.ref a))).set m (some (.ref a))).set i none) (upd H a (XO C d a))
theorem ps_try_keep {X : Cx} {x n y : Str} {c : Value} {i m : Nat} {body : List Stmt} {np ep yp ap pos pos' : Pos} {tb : WX → TS} (hs : X.stack = X.env :: X.outer) (hf : X.env.frame = some X.env.locals) (hex : X.ex = []) (hN : X.N.Nodup) (hi : X.N[i]? = some n) (hm : X.N[m]? = some y) (him : i ≠ m)
    (hln : X.env.kindOf n = some .local) (hly : X.env.kindOf y = some .local) (hc : Names X x c)
    (hb : ∀ (W : WX) (pn : List (Addr × Obj)) (xe : Value → Shared → Prop), Takes (X.tr pn xe) W → PassesOwn (model X.prog X.w) X.A X.env xe → PSs (X.tr pn xe) body (tb W))
    (hdn : (n == ("__debug__" : Str)) = false) (hcn : (n == ("__classdict__" : Str)) = false) :
    PS X (.Try body [.ExceptHandler (some (.Name x np)) (some n) [.Assign [.Name y yp] (.Name n ep) ap] pos'] [] [] pos) (fun D σ H => tb (wKeep X.K c i m D) D σ H) := by
  refine ⟨fun pins s σ H D I h => ?_⟩
  have ok := I.ok
  have hfr : X.A.frames = some (X.env :: X.outer) := by rw [ok.frames, hs]
  have hloc : Loc X.env.scope n := .inl hln
  have hlocy : Loc X.env.scope y := .inl hly
  refine wpAny_Try_except ?_
  refine wpAny_mono ((hb (wKeep X.K c i m D) (X.pn ++ pins) (fun e s₁ => wpAny (model X.prog X.w) X.A (noteFrame e X.env) (fun _ s₂ => wpAny (model X.prog X.w) X.A (setFlight e none) (fun _ s₃ =>
    wpAny (model X.prog X.w) X.A (handleBy e X.env [.ExceptHandler (some (.Name x np)) (some n) [.Assign [.Name y yp] (.Name n ep) ap] pos']) (SP X pins D) X.xe s₃) X.xe s₂) X.xe s₁) (fun u s' xx => ?_) PassesOwn.looking).run [] s σ H D (I.toTry _) h) (fun f s1 hsp => ?_) (fun e s1 he => he)
  · obtain ⟨a, B, sI, pins', σ', H', cls, d, rfl, J', nb, up, sky, na, os, ag, C, rfl, hb1, hyes⟩ := xx
    have J : Inv X pins σ' H' sI := J'.ofTry ok
    have sky' : Sky B (X.env :: X.outer) a (Zc (.ref C) d) X.env.locals s'.heap := by rw [← hs]; exact sky
    show wpAny (model X.prog X.w) X.A (noteFrame (.ref a) X.env) _ _ _
    refine Sky.land Zc.steady hfr hf sky' fun h3 fl3 up3 => ?_
    have J3 : Inv X pins σ' H' { s' with heap := h3 } := J.landed nb fl3.1 (up.trans up3) os ag
    obtain ⟨oe3, vs3, he3, hz3, hd3⟩ := fl3.there
    have notFr : ∀ {h : Heap} {o : Obj} {vs : Array Value}, h.FunFrames B (X.env :: X.outer) → h.get? a = some o → o.data = .fields vs → a ∉ frs (X.env :: X.outer) := fun {h o vs} ff e dd hm => by
      obtain ⟨_, o', e', hnf⟩ := ff.mem hm
      rw [e] at e'; cases e'
      exact hnf _ dd
    have nfr := notFr fl3.2.2.1 he3 hd3
    have nL : a ≠ X.env.locals := fun z => nfr (List.mem_filterMap.mpr ⟨X.env, List.mem_cons_self, by rw [hf, z]⟩)
    have nF : a ∉ X.fs := fun hm => by
      obtain ⟨e, he, q⟩ := List.mem_filterMap.mp hm
      exact nfr (List.mem_filterMap.mpr ⟨e, List.mem_cons_of_mem _ he, q⟩)
    have bno : B.get? a = none := fl3.2.1
    have notIn : ∀ o, sI.heap.get? a ≠ some o := fun o e => by
      have z := nb a o e (by rw [hs]; exact nfr)
      rw [bno] at z; cases z
    have s0 : X.s_0.heap.get? a = none := by
      cases q : X.s_0.heap.get? a with
      | none => rfl
      | some o =>
        obtain ⟨o', z⟩ := J.base.there a o q (by rw [hex]; exact List.not_mem_nil)
        exact absurd z (notIn o')
    have pinNe : ∀ p ∈ X.pn ++ pins, p.1 ≠ a := fun p hp z => by
      have q := (J.pin p hp).1
      rw [z] at q
      exact notIn _ q
    have S3 := J3.suite he3 hd3 na nL nF
    refine wpAny_handleBy_cons (codeAny_handlers_test ?_) (by intro q; cases q)
    have LT : PySem.W.Looks (model X.prog X.w) h3 (typeOf (.ref a)) (.ref C) := fun A Q E s k q => wpAny_typeOf_ref (k _ _ he3) (by rw [hz3.1]; exact q)
    have LM := PySem.W.exm_one (M := model X.prog X.w) (J3.kIn) LT hb1
    have test : ∀ {Q : Value → Shared → Prop} {E : Value → Shared → Prop}, Q c { s' with heap := h3 } → wpAny (model X.prog X.w) (X.A.mark (some (.ref a))) (eval (.Name x np) X.env) Q E { s' with heap := h3 } := fun {Q E} q => by
      obtain ⟨hg, hdbg, hm | ⟨hm, hv, hnn⟩⟩ := hc
      · exact ld_glob (X := X.suite a ((a, oe3) :: (X.pn ++ pins))) S3 hg hm q hdbg
      · exact ld_blt (X := X.suite a ((a, oe3) :: (X.pn ++ pins))) S3 hg hm hv q hnn hdbg
    refine test (LM.here ?_)
    refine codeAny_handlers_suite_as ?_
    refine HandSPX.lands_againZ fl3 fun h4 fl4 up4 => ?_
    have J4 : Inv X pins σ' H' { s' with heap := h4 } := J.landed nb fl4.1 ((up.trans up3).trans up4) os ag
    obtain ⟨oe4, vs4, he4, hz4, hd4⟩ := fl4.there
    have S4 := J4.suite he4 hd4 na nL nF
    have σl : σ'.length = X.N.length := J.len
    refine store_ok (X := X.suite a ((a, oe4) :: (X.pn ++ pins))) (v := .ref a) S4 hN hi hloc rfl (fun s5 S5 => ?_) (.inr hln)
    have asg : PSs (X.suite a ((a, oe4) :: (X.pn ++ pins))) [.Assign [.Name y yp] (.Name n ep) ap] (fun D σ H => σ[i]? = some (some (.ref a)) ∧ D.nx (σ.set m (some (.ref a))) H) := by
      refine PSs.imp (pss_one (ps_set (i := m) hN hm hlocy (pe_var (i := i) (pos := ep) hi (.inl hln) hdn hcn) rfl (.inr hly))) fun D σ H ⟨h1, h2⟩ => ?_
      exact ⟨.ref a, h1, h2⟩
    have im : ((σ'.set i (some (V.ref a))))[i]? = some (some (V.ref a)) := List.getElem?_set_self (by
      rw [σl]
      exact (List.getElem?_eq_some_iff.mp hi).1)
    refine wpAny_mono (asg.run [] s5 _ H' { nx := fun σ6 H6 => σ6 = (σ'.set i (some (.ref a))).set m (some (.ref a)) ∧ H6 = H', rt := fun _ _ => False } S5 ⟨im, rfl, rfl⟩) (fun f s6 hsp => ?_) (fun _ _ z => False.elim z)
    cases f with
    | next =>
      obtain ⟨σ6, H6, S6, rfl, rfl⟩ := hsp
      have P6 : Inv X ((a, oe4) :: pins) ((σ'.set i (some (.ref a))).set m (some (.ref a))) H6 s6 := ⟨ok, S6.os, S6.bare, S6.base, S6.loc, S6.cell, S6.free, S6.freeC, fun p hp => S6.pin p (by
        rw [List.append_nil]
        rcases List.mem_append.mp hp with h | h
        · exact List.mem_cons_of_mem _ (List.mem_append_left _ h)
        · rcases List.mem_cons.mp h with h | h
          · rw [h]; exact List.mem_cons_self
          · exact List.mem_cons_of_mem _ (List.mem_append_right _ h)), S6.hok, S6.len⟩
      show wpAny (model X.prog X.w) X.A (do bindName X.env n .none; unbindBehindTheSuite X.env n pos') _ X.xe s6
      refine gone_ok P6 hN hi hln fun s7 J7 => ?_
      obtain ⟨g1, _⟩ := J7.pin (a, oe4) (List.mem_append_right _ List.mem_cons_self)
      exact ⟨_, _, track J7 s0 pinNe (xo_ok g1 hz4 hd4), hyes a na⟩
    | brk =>
      obtain ⟨σ6, H6, S6, z⟩ := hsp
      exact z.elim
    | cont =>
      obtain ⟨σ6, H6, S6, z⟩ := hsp
      exact z.elim
    | ret u =>
      obtain ⟨v6, σ6, H6, S6, r6, z⟩ := hsp
      exact z.elim
  · cases f with
    | next =>
      obtain ⟨σ', H', J', q⟩ := hsp
      exact wpAny_execs_nil ⟨σ', H', J'.ofTry ok, q⟩
    | brk =>
      obtain ⟨σ', H', J', q⟩ := hsp
      exact ⟨σ', H', J'.ofTry ok, q⟩
    | cont =>
      obtain ⟨σ', H', J', q⟩ := hsp
      exact ⟨σ', H', J'.ofTry ok, q⟩
    | ret u =>
      obtain ⟨v, σ', H', J', r, q⟩ := hsp
      exact ⟨v, σ', H', J'.ofTry ok, r, q⟩
/-! ### C.__init__(self, ..), C an own class whose __init__ is ValueError's -/
/-- what the base class must have -/
structure BaseC (K : PySem.W.Frag) (C : Addr) : Prop where
  rd : PySem.W.readsIn K C (.type "type") = true
  ga : PySem.W.specialIn K (.ref C) "__getattribute__" = some (some (.builtin "type.__getattribute__"))
  at_ : PySem.W.findCls K (.ref C) (.type "type") "__init__" = some (.val (.builtin "ValueError.__init__"))
theorem pe_kinit {X : Cx} {C : Addr} {b : Str} {e : Expr} {es : List Expr} {ta : TA} {p1 p2 pos : Pos} {pl : Sem Bool} (T : BaseC X.K C) (hg : Gl X b) (hm : X.mg b = some (.ref C)) (ha : PA X (e :: es) ta) (hdb : (b == ("__debug__" : Str)) = false)
    (hc : eval (.Call (.Attribute (.Name b p1) "__init__" p2) (e :: es) [] pos) X.env = (do
      let ov ← eval (.Name b p1) X.env
      standAt p2.atName
      let (f, first) ← holding [ov] (getMethod ov "__init__" pl)
      callWith pos f first (backTo pos (starEach (e :: es) X.env)) (backToKw pos (keywordEach [] X.env))) := by rfl)
    (he : starEach (e :: es) X.env = (false, eval e X.env) :: starEach es X.env := by rfl) (hpl : (backTo pos (starEach es X.env)).any (·.1) = false := by rfl) :
    PE X (.Call (.Attribute (.Name b p1) "__init__" p2) (e :: es) [] pos) (tVeI X.K ta) := by
  refine ⟨fun pins s σ H Q I h => ?_⟩
  refine PySem.W.methodCall_KW (ld_glob I hg hm ?_ hdb) hc
  refine PySem.W.method_cls I.kIn T.ga ?_
  refine PySem.W.cls_value I.kIn T.rd T.at_ rfl ?_
  refine PyProof.Rows.callWith_method1 (thn (ha.run pos pins _ σ H _ (I.tok _) h) fun us s1 ⟨vs, H1, I1, r1, a, C', ws, ev, hl, T', ea, q⟩ => ?_) he hpl
  subst ev
  cases r1 with
  | @cons _ u0 _ ur ra rw' =>
    obtain rfl : u0 = Value.ref a := ra
    have hlen : ur.length ≤ sizeLine := by
      rw [← Paired.length rw', sizeLine_eq]
      omega
    exact oinit_ok T' I1 ea hlen fun s' J => ⟨.non, H1, J, rfl, q⟩
/-- what the __init__ of such a class promises: one field is kept -/
def spI (K : PySem.W.Frag) (f : Str) : Sp := fun vs H Q _ => ∃ (a C : Addr) (x : V), vs = [.ref a, x] ∧ OexC K C ∧ PySem.W.findIn K (.ref C) f = some none ∧ H a = some (exo a C none) ∧ ∀ dx, H dx = none → dx ≠ a → Q .non (upd (upd H dx (exd dx [(f, x)])) a (exo a C (some dx)))
/-- def __init__(self, x): B.__init__(self, 'text'); self.f = x -/
structure IniT where
  C : Str
  qual : Str
  f : Str
  x : Str
  params : Arguments
  body : List Stmt
  scope : Scope
structure IniOk (d : IniT) : Prop where
  sc : FnScope [("self" : Str), d.x] [("self" : Str), d.x] d.scope
  body : ∃ (tx : Str) (j : Nat) (p1 p2 p3 p4 p5 p6 p7 p8 p9 p10 : Pos) (pl : PySem.Env → Sem Bool), d.body = [.Expr (.Call (.Attribute (.Name "KinError" p1) "__init__" p2) [.Name "self" p3, .Constant (.str tx) j p4] [] p5) p6, .Assign [.Attribute (.Name "self" p7) d.f p8] (.Name d.x p9) p10] ∧
    ∀ env : PySem.Env, eval (.Call (.Attribute (.Name "KinError" p1) "__init__" p2) [.Name "self" p3, .Constant (.str tx) j p4] [] p5) env = (do
      let ov ← eval (.Name "KinError" p1) env
      standAt p2.atName
      let (f, first) ← holding [ov] (getMethod ov "__init__" (pl env))
      callWith p5 f first (backTo p5 (starEach [.Name "self" p3, .Constant (.str tx) j p4] env)) (backToKw p5 (keywordEach [] env)))
  vs : Vis d.scope "self" ∧ Vis d.scope d.x ∧ (d.x == ("__debug__" : Str)) = false ∧ (d.x == ("__classdict__" : Str)) = false
  gl : d.scope.names.lookup ("KinError" : Str) = some .globalImplicit
  bind : ∀ (nm q : Str) (kV doc pm : Value) (an : Option Addr) (cdv ct : Value) (us : List Value), us.length = 2 → bindArgs (PySem.W.fnOf nm q d.params d.body d.scope .none kV doc pm an cdv ct) ⟨us, []⟩ = pure ([("self" : Str), d.x].zip us)
section
variable {P : Program} {W : World} {K : PySem.W.Frag} {mg : Str → Option Value} {base : Heap}
theorem ini_fn {d : IniT} {nm q : Str} {f : Addr} {fd : FuncData} {CB : Addr} (D : IniOk d) (F : FunD K nm q d.params d.body d.scope [] [] f fd) (T : BaseC K CB) (hm : mg "KinError" = some (.ref CB)) : FnOk P W K mg base CX0 1 f fd [("self" : Str), d.x] (spI K d.f) := by
  obtain ⟨tx, j, p1, p2, p3, p4, p5, p6, p7, p8, p9, p10, pl, hb, hc⟩ := D.body
  obtain ⟨v0, v1, n1, n2⟩ := D.vs
  have g1 := D.gl
  refine FunD.ok F D.sc (fun vs H Q E ⟨a, C, x, e, _⟩ => by rw [e]; rfl) fun cdv A outer s H vs Q E hr hsp => ?_
  obtain ⟨a, C, x, rfl, hC, hno, ha, k⟩ := hsp
  rw [hb]
  refine ⟨_, pss_cons (ps_expr (pe_kinit T g1 hm (pa_cons (pe_var (i := 0) rfl v0) (pa_cons pe_str pa_nil)) (by decide) (hc _)) rfl) (pss_one (ps_ost (pe_var (i := 0) rfl v0) (pe_var (i := 1) rfl v1 n1 n2))), ?_⟩
  refine ⟨.ref a, rfl, ?_⟩
  refine ⟨a, C, [.str tx], rfl, by show 1 ≤ 1000; decide, hC, ha, ?_⟩
  refine ⟨x, rfl, .ref a, rfl, a, C, rfl, hC, hno, .inl ⟨ha, fun dx n ne => ?_⟩⟩
  exact k dx n ne
end
/-! ### made to be raised -/
/-- C(), C without an own __init__ -/
theorem pmk_none {X : Cx} {C : Addr} {bmB : List Value} {B newId initId : String} {x : Str} {p pos : Pos} (F : ExcBaseFacts B newId initId bmB) (q : PySem.W.excIn X.K C bmB newId = true) (gC : X.mg x = some (.ref C))
    (kC : PySem.W.keepIn X.K (.ref C) = true) (r : Raises X (.ref C)) (hg : Gl X x) (hdb : (x == ("__debug__" : Str)) = false) : PMk X (.Call (.Name x p) [] [] pos) (fun _ H Q => Q (.ref C) none H) := by
  intro pins s σ H Q I h
  refine wpAny_Call_Name_kw (ld_glob I hg gC ?_ hdb)
  refine PySem.W.callWith_K0 I.kIn kC ?_
  obtain ⟨bm, N, nm, qn, bs, hdct, sn, sub, ab, col, dd, k0, k1, k2, k3, k5, mN, hC, hN, hni, T⟩ := exc_obj I.kIn q
  refine wpAny_call_exc_subT F T hC hN hni (fun h' e hm => ?_) (by show 0 ≤ sizeLine; omega)
  exact mk_of I hm r h (I.hok.gone hm.new)
/-- an exception that is made, as a value -/
theorem pe_made {X : Cx} {e : Expr} {t : L2.St → Hp → XK → Prop} (h : PMk X e t) : PE X e (fun σ H Q => t σ H fun cls d H1 => ∃ C, cls = .ref C ∧ ∀ a, H1 a = none → Q (.ref a) (upd H1 a (XO C d a))) := by
  refine ⟨fun pins s σ H Q I hq => ?_⟩
  refine wpAny_mono (h pins s σ H _ I hq) (fun u s1 hu => ?_) fun _ _ x => x
  obtain ⟨a, oe, vs, sI, H', cls, d, rfl, J, k, hne, ha, hz, hd, h1, na, os, ag, r, C, rfl, q⟩ := hu
  obtain ⟨b1, b2, b3, b4, b5⟩ := s1
  obtain rfl : b5 = sI.os := os
  exact ⟨.ref a, _, J.call (ch := []) (Un.laidN k hne na) (J.hok.laidN k na (xo_ok ha hz hd)) ag (fun _ z => nomatch z), rfl, q a na⟩
/-! ### looked at -/
section
variable {prog : Program} {w : World} {A : Around} {E : Value → Shared → Prop} {s : Shared} {K : PySem.W.Frag} {x D : Addr} {ox : Obj} {od : Option Obj}
theorem find_cls_any {a g : Value} {name : Str} (hc : (PySem.W.clsIn K D).isSome = true) (ha : PySem.W.findIn K (.ref D) name = some (some a)) (hg : PySem.W.specialIn K a "__get__" = some (some g)) (ht : PySem.W.takesIn K a = some true) : PySem.W.findObj K D od name = some (.bind g a) := by
  cases od with
  | none => exact PySem.W.findObj_dataN hc ha hg ht
  | some o => exact PySem.W.findObj_data hc ha hg ht
theorem cls_any {Q : Option Value → Shared → Prop} (C : ExcC K D) (X : K.In s.heap) (I : PySem.W.InstAt s.heap x ox D od) (h : Q (some (.ref D)) { s with toks := s.toks + 1 }) : wpAny (model prog w) A (getAttr? (.ref x) "__class__") Q E s := by
  obtain ⟨hga, hgt, hsub, hdct, ha, hn, htk, hm⟩ := C
  have hf : PySem.W.findObj K D od "__class__" = some (.bind (.builtin "getset_descriptor.__get__") (.builtin "object.__class__")) := find_cls_any (by obtain ⟨cd, hc, _⟩ := PySem.W.any_some hdct; rw [hc]; rfl) ha hn htk
  obtain ⟨hp, g, d, t, os⟩ := s
  have L0 := I.type (M := model prog w)
  have L1 := PySem.W.looks_findIn (M := model prog w) X hga
  have L2 := PySem.W.looks_findIn (M := model prog w) X hgt
  have L3 := PySem.W.looks_find (M := model prog w) X I hf
  have sub : PySem.W.Looks (model prog w) hp (isInstance (.ref x) (.type "BaseException")) true := L0.andThen (PySem.W.looks_subIn X hsub)
  have hx0 : (false && onTheHeap (Value.builtin "BaseException.__getattribute__")) = false := rfl
  have hx2 : (Value.builtin "BaseException.__getattribute__" == Value.builtin "object.__getattribute__") = false := by decide +kernel
  have hx1 : (onTheHeap (Value.ref D) && Value.builtin "BaseException.__getattribute__" == Value.builtin "object.__getattribute__") = false := by rw [hx2]; rfl
  unfold getAttr? getAttrBy? getAttrBy
  refine wpAny_bind (wpAny_mkText (wpAny_bind (wpAny_attempt (wpAny_holding (wpAny_bind (L0.at (wpAny_bind (L1.at ?_))))))))
  show wpAny _ _ (if (onTheHeap (Value.ref D) && Value.builtin "BaseException.__getattribute__" == Value.builtin "object.__getattribute__") = true then _ else _) _ _ _
  rw [hx1, if_neg Bool.false_ne_true]
  unfold getAttrByItsOwn hookBefore
  refine wpAny_bind ?_
  rw [if_pos (show onTheHeap (Value.ref D) = true from rfl)]
  refine L2.at ?_
  refine wpAny_bind (wpAny_attempt (wpAny_holding ?_))
  unfold callGetattribute
  rw [hx0, if_neg Bool.false_ne_true]
  unfold boundAndCalled
  rw [PySem.F.excAttr_ValueError.ga.bind (.ref x)]
  refine wpAny_bind (wpAny_pure ?_)
  show wpAny _ _ (call (.builtin "BaseException.__getattribute__") [.ref x, .str "__class__" t]) _ _ _
  refine wpAny_call (codeAny_call_builtin PySem.F.excAttr_ValueError.ga.plain PySem.F.entry_bexc_ga ?_)
  refine @PySem.W.check_slot (model prog w) _ _ ⟨hp, g, d, t + 1, os⟩ "BaseException.__getattribute__" "BaseException" "__getattribute__" (.ref x) [.str "__class__" t] [] _ (by decide +kernel) (by decide +kernel) sub (PySem.F.args_bexc_ga (.ref x) (.str "__class__" t)) ?_
  unfold Builtin.«object.__getattribute__»
  refine wpAny_bind (wpAny_of_eq (a := ((Value.ref x : Value), [Value.str "__class__" t])) (by first | rfl | (simp only [slotArgs]; rfl)) ?_)
  refine wpAny_bind (wpAny_pure (wpAny_bind (L0.at (wpAny_bind (L3.at ?_)))))
  show wpAny _ _ (holding [Value.builtin "object.__class__"] (call (.builtin "getset_descriptor.__get__") [.builtin "object.__class__", .ref x, .ref D]) >>= ret) _ _ _
  refine wpAny_bind (wpAny_holding (wpAny_call (PySem.W.class_get (s := ⟨hp, g, d, t + 1, os⟩) (ox := ox) (od := od) X I hm ?_)))
  refine wpAny_pure ?_
  show wpAny _ _ (handedOut (.ref D)) _ _ _
  rw [PySem.W.handedOut_of (v := .ref D) rfl]
  first
    | exact wpAny_pure (wpAny_pure h)
    | exact wpAny_pure h
    | exact wpAny_pure (wpAny_bind (wpAny_pure (wpAny_pure h)))
theorem kitx_any (C : ExcC K D) : PySem.W.KitX K (.ref x) (.ref D) (fun h => PySem.W.InstAt h x ox D od) where
  ty := fun _ _ _ I => I.type
  it := fun _ _ X _ => by
    obtain ⟨cdD, hcD, _⟩ := PySem.W.any_some C.hd
    unfold PySem.W.clsIn at hcD
    split at hcD
    · rename_i c' d' cd' sl' ho
      intro A' Q' E' s' k q
      unfold isType loadHead
      exact wpAny_bind (wpAny_loadPart (k _ _ (X _ _ ho)) (wpAny_pure q))
    · cases hcD
  ne := fun h tp dd its n sl X htp => by
    obtain ⟨cdD, hcD, _⟩ := PySem.W.any_some C.hd
    refine Bool.eq_false_iff.mpr fun q => ?_
    have e : D = tp := Value.ref.inj (beq_iff_eq.mp q)
    subst e
    unfold PySem.W.clsIn at hcD
    split at hcD
    · rename_i c' d' cd' sl' ho
      have z := (X _ _ ho).symm.trans htp
      cases z
    · cases hcD
  ca := fun X I k => cls_any C X I k
end
/-- an object that was caught, as it stands in the heap -/
theorem xo_inst {P : Program} {W : World} {H : Hp} {h : Heap} {a C : Addr} {dd : Option Addr} (hok : HOk P W H h) (he : H a = some (XO C dd a)) (hx : dd = none ∨ ∃ dx fs, dd = some dx ∧ H dx = some (.xd fs)) : ∃ (oe : Obj) (od : Option Obj), PySem.W.InstAt h a oe C od ∧ (∀ dx fs, dd = some dx → H dx = some (.xd fs) → ∃ od' mA, od = some od' ∧ h.get? dx = some od' ∧ h.Ns1 dx mA ∧ ∀ f, L2.RelO (fs.lookup f) (mA f)) := by
  obtain ⟨oe, vs, e1, ⟨z1, z2⟩, e3⟩ := xo_at hok he
  rcases hx with rfl | ⟨dx, fs, rfl, hd⟩
  · refine ⟨oe, none, ⟨e1, z1, by unfold PySem.W.notCls; rw [e3] <;> rfl, by rw [z2]; trivial⟩, fun dx fs q => by cases q⟩
  · obtain ⟨mA, hns, hr⟩ := (show ObjOk P W H h dx (.xd fs) from hok dx _ hd)
    have hns' := hns
    obtain ⟨od, es, ep, ho, _⟩ := hns'
    refine ⟨oe, some od, ⟨e1, z1, by unfold PySem.W.notCls; rw [e3] <;> rfl, by rw [z2]; exact ho⟩, fun dx' fs' q hd' => ?_⟩
    cases q
    rw [hd] at hd'
    cases hd'
    exact ⟨od, mA, rfl, ho, hns, hr⟩
/-- isinstance(e, c), e caught -/
def rIsX (K : PySem.W.Frag) : List V → Hp → VK → Prop := fun xs H Q => ∃ (a C : Addr) (dd : Option Addr) (c : V) (cv : Value) (b : Bool), xs = [.ref a, c] ∧ H a = some (XO C dd a) ∧ (dd = none ∨ ∃ dx fs, dd = some dx ∧ H dx = some (.xd fs)) ∧ ExcC K C ∧ (∀ u, RelV c u → u = cv) ∧ PySem.W.kitOne K (.ref C) cv = some b ∧ Q (.bl b) H
theorem call_isX {X : Cx} : CallR X (.builtin "isinstance") (rIsX X.K) := by
  intro pins s σ H xs us Q I r h
  obtain ⟨a, C, dd, c, cv, b, rfl, he, hx, hC, hcv, e, q⟩ := h
  cases r with
  | cons rx rr =>
    cases rr with
    | cons rt rr =>
      cases rr
      cases rx
      have ec := hcv _ rt
      subst ec
      obtain ⟨oe, od, J, _⟩ := xo_inst I.hok he hx
      exact PySem.W.kia_one (kitx_any (ox := oe) (od := od) hC) I.kIn J e (fun z => nomatch z) fun tk => ⟨.bl b, H, I.kept (t' := tk) fun _ _ z => z, rfl, q⟩
/-- isinstance(e, (c1, ..)) -/
def rIsXT (K : PySem.W.Frag) : List V → Hp → VK → Prop := fun xs H Q => ∃ (a C : Addr) (dd : Option Addr) (tp : Addr) (cs : List V) (us : List Value) (b : Bool), xs = [.ref a, .ref tp] ∧ H a = some (XO C dd a) ∧ (dd = none ∨ ∃ dx fs, dd = some dx ∧ H dx = some (.xd fs)) ∧ ExcC K C ∧ H tp = some (.tup cs) ∧ (∀ vs, Vals cs vs → vs = us) ∧ PySem.W.kitAny K (.ref C) us = some b ∧ Q (.bl b) H
theorem call_isXT {X : Cx} : CallR X (.builtin "isinstance") (rIsXT X.K) := by
  intro pins s σ H xs us Q I r h
  obtain ⟨a, C, dd, tp, cs, ws, b, rfl, he, hx, hC, hT, hcv, e, q⟩ := h
  cases r with
  | cons rx rr =>
    cases rr with
    | cons rt rr =>
      cases rr
      cases rx
      rename_i u2
      cases (show u2 = Value.ref tp from rt)
      obtain ⟨oe, od, J, _⟩ := xo_inst I.hok he hx
      obtain ⟨_, its, rv, o, h1, h2, n, h3⟩ := (show ObjOk X.prog X.w H s.heap tp (.tup cs) from I.hok tp _ hT)
      have e3 := hcv _ rv
      subst e3
      obtain ⟨oc, od', dt, sl⟩ := o
      simp only at h2 h3
      subst h2 h3
      exact PySem.W.kia_tup (kitx_any (ox := oe) (od := od) hC) I.kIn J h1 e (fun z => nomatch z) fun tk => ⟨.bl b, H, I.tok tk, rfl, q⟩
/-- e.f -/
def tXg (K : PySem.W.Frag) (f : Str) (te : TE) : TE := fun σ H Q => te σ H fun x H1 => ∃ (a C dx : Addr) (fs : List (Str × V)) (v : V), x = .ref a ∧ H1 a = some (XO C (some dx) a) ∧ H1 dx = some (.xd fs) ∧ XfC K C ∧ PySem.W.findIn K (.ref C) f = some none ∧ fs.lookup f = some v ∧ Q v H1
theorem pe_xg {X : Cx} {e : Expr} {te : TE} {pos : Pos} {f : Str} (he : PE X e te) (hb : attributeBase e f X.env (eval e X.env) = eval e X.env) : PE X (.Attribute e f pos) (tXg X.K f te) := by
  refine ⟨fun pins s σ H Q I h => ?_⟩
  refine attr_of hb (thn (he.run pins s σ H _ I h) fun u s1 hh => ?_)
  obtain ⟨x, H1, I1, rx, a, C, dx, fs, v, ex, ha, hd, T, hno, l, q⟩ := hh
  subst ex
  obtain rfl : u = Value.ref a := rx
  obtain ⟨oe, od, J, k⟩ := xo_inst I1.hok ha (.inr ⟨dx, fs, rfl, hd⟩)
  obtain ⟨od', mA, rfl, ho, hns, hr⟩ := k dx fs rfl hd
  obtain ⟨od2, ho2, hl⟩ := lookIn_ns hns
  rw [ho] at ho2
  cases ho2
  obtain ⟨u, hu, ru⟩ := L2.RelO.some_of (v := v) (o := mA f) (by rw [← l]; exact hr f)
  exact HandSPX.exc_get I1.kIn J T.ga T.gg T.exC (PySem.W.findObj_own T.hdC hno rfl (by rw [hl, hu])) (handed_of ru) ⟨v, H1, I1.tok _, ru, q⟩
end MP

/-! MPX1: exceptions: from the plain machine's run to the text's. -/
namespace MP
open PySem PySem.Spec PyProof.Rows L2
abbrev veT : List Value := PySem.HandSPX.veTail
/-- what the class k of the text must be: f its only field, or none at all -/
structure XCls (K : PySem.W.Frag) (mg : Str → Option Value) (k : Str) (C : Addr) (f : Option Str) : Prop where
  mgk : mg k = some (.ref C)
  kp : PySem.W.keepIn K (.ref C) = true
  exC : ExcC K C
  xf : XfC K C
  sub : PySem.W.subIn K (.ref C) (.type "BaseException") = some true
  ty : PySem.W.typeIn K (.ref C) = some (.type "type")
  sh : match f with
    | none => PySem.W.excIn K C veT "ValueError.__new__" = true
    | some f => OexC K C ∧ PySem.W.findIn K (.ref C) f = some none ∧ ∃ (fI : Addr) (fd : FuncData) (x : Str), PySem.W.findIn K (.ref C) "__init__" = some (some (.ref fI)) ∧ PySem.W.typeIn K (.ref fI) = some (.type "function") ∧ (∀ P W base, FnOk P W K mg base CX0 1 fI fd [("self" : Str), x] (spI K f)) ∧ Binds K fd [("self" : Str), x] []
section
variable {X : Cx} {c : Cfg} {WX : XK} {F : Fn} {e : Expr} {ee : E} {pos p : Pos}
/-- raise C(e) -/
theorem sem_rais1 {k f : Str} {rp : Pos} (hc : X.calm = true) (tk : Takes X (fun cls d _ H => WX cls d H)) (hr : Room 2 X.A) (T : XCls X.K X.mg k (c.cad k) (some f)) (hg : Gl X k) (hdb : (k == ("__debug__" : Str)) = false) (ha : PA X [e] (SemA c F [ee]))
    (he : starEach [e] X.env = (false, eval e X.env) :: starEach [] X.env) : PS X (.Raise (some (.Call (.Name k p) [e] [] pos)) none rp) (SemS c WX (ex F (.rais k f [ee]))) := by
  obtain ⟨oC, hno, fI, fd, x, iC, tI, F1, hb⟩ := T.sh
  refine PS.imp (ps_raise hc tk (pmk_oex oC iC tI (F1 X.prog X.w X.base) hr hb .nil pass0 hg T.mgk ha hdb he rfl)) fun Dn σ H ⟨w, S, env, R, RE, kk⟩ => ?_
  simp only [ex] at kk
  cases q : evs F [ee] env S with
  | bad => rw [q] at kk; exact kk.elim
  | exc _ _ => rw [q] at kk; exact kk.elim
  | ok ds S1 =>
    rw [q] at kk
    refine ⟨w, S, env, ds, S1, R, RE, q, fun w1 H1 vs g1 R1 rs => ?_⟩
    have hl := evs_length q
    match ds, hl, rs, kk with
    | [d], _, rs, kk =>
    obtain ⟨v, rfl, rv⟩ := rs.one
    refine ⟨by show 1 ≤ 1000; decide, fun a ha => ⟨a, c.cad k, v, rfl, oC, hno, upd_same, fun dx n ne => ⟨rfl, dx, [(f, v)], upd_same, ?_, ?_, ?_⟩⟩⟩
    · rw [upd_ne ne, upd_same]
    · rw [upd_ne ne] at n; exact n
    · have n1 : H1 dx = none := by rw [upd_ne ne] at n; exact n
      have e : upd (del (upd (upd (upd H1 a (exo a (c.cad k) none)) dx (exd dx [(f, v)])) a (exo a (c.cad k) (some dx))) a) dx (.xd [(f, v)]) = upd H1 dx (.xd [(f, v)]) := by
        funext b
        by_cases h1 : b = dx
        · rw [h1, upd_same, upd_same]
        · rw [upd_ne h1, upd_ne h1]
          by_cases h2 : b = a
          · rw [h2, del_same, ha]
          · rw [del_ne h2, upd_ne h2, upd_ne h1, upd_ne h2]
      rw [e]
      have hB := R1.freeB n1
      exact (Want.go g1 kk) (w1.add dx (.xd [(f, v)])) _ _ _ (Go.add hB n1 fun l hl => R1.freeR n1 hl rfl) (R1.add n1 _) ⟨k, f, [d], [v], rfl, rfl, .cons (rv.mono (Wd.le_add hB)) .nil, .inr ⟨dx, [(f, v)], v, rfl, rfl, upd_same, by simp [List.lookup]⟩⟩
/-- raise C() -/
theorem sem_rais0 {k : Str} {rp : Pos} (hc : X.calm = true) (tk : Takes X (fun cls d _ H => WX cls d H)) (T : XCls X.K X.mg k (c.cad k) none) (hg : Gl X k) (hdb : (k == ("__debug__" : Str)) = false) : PS X (.Raise (some (.Call (.Name k p) [] [] pos)) none rp) (SemS c WX (ex F (.rais k "" []))) := by
  refine PS.imp (ps_raise hc tk (pmk_none PySem.F.excBase_ValueError T.sh T.mgk T.kp (raises_own T.sub T.ty) hg hdb)) fun Dn σ H ⟨w, S, env, R, RE, kk⟩ => ?_
  simp only [ex, evs, Out.of] at kk
  exact kk w H _ _ Go.refl R ⟨k, "", [], [], rfl, rfl, .nil, .inl ⟨rfl, rfl⟩⟩
/-- C() -/
theorem sem_xnew0 {k : Str} (T : XCls X.K X.mg k (c.cad k) none) (hg : Gl X k) (hdb : (k == ("__debug__" : Str)) = false) : PE X (.Call (.Name k p) [] [] pos) (SemE c F (.xnew k "" [])) :=
  PE.imp (pe_made (pmk_none PySem.F.excBase_ValueError T.sh T.mgk T.kp (raises_own T.sub T.ty) hg hdb)) fun σ H Q ⟨w, S, env, d, S', R, RE, hv, kk⟩ => by
    simp only [ev, evs, Res.bind_ok] at hv
    rw [if_pos (by decide)] at hv
    cases hv
    refine ⟨c.cad k, rfl, fun a ha => ?_⟩
    refine kk (w.add a (XO (c.cad k) none a)) _ _ (Go.add (R.freeB ha) ha fun l hl => R.freeR ha hl rfl) (R.add ha _) ?_
    simp only [RelD]
    exact ⟨a, none, [], rfl, upd_same, .nil, .inl ⟨rfl, rfl⟩⟩
/-- C(e) -/
theorem sem_xnew1 {k f : Str} (hr : Room 2 X.A) (T : XCls X.K X.mg k (c.cad k) (some f)) (hg : Gl X k) (hdb : (k == ("__debug__" : Str)) = false) (ha : PA X [e] (SemA c F [ee]))
    (he : starEach [e] X.env = (false, eval e X.env) :: starEach [] X.env) : PE X (.Call (.Name k p) [e] [] pos) (SemE c F (.xnew k f [ee])) := by
  obtain ⟨oC, hno, fI, fd, x, iC, tI, F1, hb⟩ := T.sh
  refine PE.imp (pe_made (pmk_oex oC iC tI (F1 X.prog X.w X.base) hr hb .nil pass0 hg T.mgk ha hdb he rfl)) fun σ H Q ⟨w, S, env, d0, S', R, RE, hv, kk⟩ => ?_
  simp only [ev] at hv
  obtain ⟨ds, S1, q, hv⟩ := Res.bind_eq hv
  refine ⟨w, S, env, ds, S1, R, RE, q, fun w1 H1 vs g1 R1 rs => ?_⟩
  have hl := evs_length q
  match ds, hl, rs, hv with
  | [d], _, rs, hv =>
  rw [if_pos (show [d].length ≤ 1 from Nat.le_refl _)] at hv
  cases hv
  obtain ⟨v, rfl, rv⟩ := rs.one
  refine ⟨by show 1 ≤ 1000; decide, fun a ha => ⟨a, c.cad k, v, rfl, oC, hno, upd_same, fun dx n ne => ⟨rfl, dx, [(f, v)], upd_same, ?_, ?_, ?_⟩⟩⟩
  · rw [upd_ne ne, upd_same]
  · rw [upd_ne ne] at n; exact n
  · have n1 : H1 dx = none := by rw [upd_ne ne] at n; exact n
    have e : upd (del (upd (upd (upd H1 a (exo a (c.cad k) none)) dx (exd dx [(f, v)])) a (exo a (c.cad k) (some dx))) a) dx (.xd [(f, v)]) = upd H1 dx (.xd [(f, v)]) := by
      funext b
      by_cases h1 : b = dx
      · rw [h1, upd_same, upd_same]
      · rw [upd_ne h1, upd_ne h1]
        by_cases h2 : b = a
        · rw [h2, del_same, ha]
        · rw [del_ne h2, upd_ne h2, upd_ne h1, upd_ne h2]
    rw [e]
    have hB := R1.freeB n1
    have g2 := Go.add (o := .xd [(f, v)]) hB n1 fun l hl => R1.freeR n1 hl rfl
    have R2 := R1.add n1 (.xd [(f, v)])
    refine ⟨c.cad k, rfl, fun a' ha' => ?_⟩
    have hB2 := R2.freeB ha'
    refine kk ((w1.add dx (.xd [(f, v)])).add a' (XO (c.cad k) (some dx) a')) _ _ ((g1.trans g2).trans (Go.add hB2 ha' fun l hl => R2.freeR ha' hl rfl)) (R2.add ha' _) ?_
    simp only [RelD]
    have le := (Wd.le_add (o := .xd [(f, v)]) hB).le_trans (Wd.le_add (o := XO (c.cad k) (some dx) a') hB2)
    have hne : dx ≠ a' := fun z => by rw [z, upd_same] at ha'; cases ha'
    refine ⟨a', some dx, [v], rfl, upd_same, .cons (rv.mono le) .nil, .inr ⟨dx, [(f, v)], v, rfl, rfl, ?_, by simp [List.lookup]⟩⟩
    show upd (upd w1.B dx _) a' _ dx = _
    rw [upd_ne hne, upd_same]
/-! ### isinstance, a field -/
/-- a class by its name -/
def clsV (c : Cfg) (n : Str) : V := if n = ("ValueError" : Str) then .ty "ValueError" else .ref (c.cad n)
def clsU (c : Cfg) (n : Str) : Value := if n = ("ValueError" : Str) then .type "ValueError" else .ref (c.cad n)
theorem clsV_u {n : Str} {u : Value} (h : RelV (clsV c n) u) : u = clsU c n := by
  unfold clsV at h
  unfold clsU
  split at h
  · rename_i q; rw [if_pos q]; exact h
  · rename_i q; rw [if_neg q]; exact h
theorem clsVs_u : ∀ {ns : List Str} {us : List Value}, Vals (ns.map (clsV c)) us → us = ns.map (clsU c)
  | [], _, h => by cases h; rfl
  | n :: ns, _, h => by
    cases h with
    | cons r rr => rw [clsV_u r, clsVs_u rr]; rfl
/-- names of classes -/
inductive ClsE (X : Cx) (c : Cfg) : Expr → Str → Prop
  | ve {p : Pos} (hg : Gl X "ValueError") (hm : X.mg "ValueError" = none) : ClsE X c (.Name "ValueError" p) "ValueError"
  | own {n : Str} {p : Pos} (hg : Gl X n) (hm : X.mg n = some (.ref (c.cad n))) (hne : n ≠ ("ValueError" : Str)) (hdb : (n == ("__debug__" : Str)) = false) : ClsE X c (.Name n p) n
theorem pe_clsE {x : Expr} {n : Str} (h : ClsE X c x n) : PE X x (tC (clsV c n)) := by
  cases h with
  | ve hg hm => exact pe_bltn hg hm rfl rfl
  | own hg hm hne hdb =>
    have e : clsV c n = .ref (c.cad n) := if_neg hne
    rw [e]
    exact pe_glob hg hm rfl hdb
inductive ClsEs (X : Cx) (c : Cfg) : List Expr → List Str → Prop
  | nil : ClsEs X c [] []
  | cons {x : Expr} {n : Str} {xs : List Expr} {ns : List Str} (h : ClsE X c x n) (k : ClsEs X c xs ns) : ClsEs X c (x :: xs) (n :: ns)
theorem clsE_star {x : Expr} {n : Str} {xs : List Expr} (h : ClsE X c x n) : starEach (x :: xs) X.env = (false, eval x X.env) :: starEach xs X.env := by
  cases h <;> rfl
theorem clsEs_any {pos : Pos} : ∀ {xs : List Expr} {ns : List Str}, ClsEs X c xs ns → (backTo pos (starEach xs X.env)).any (·.1) = false
  | _, _, .nil => rfl
  | _, _, .cons h k => by
    rw [clsE_star h]
    show (false || _) = false
    rw [Bool.false_or]
    exact clsEs_any k
theorem pa_clsEs : ∀ {xs : List Expr} {ns : List Str}, ClsEs X c xs ns → PA X xs (fun _ H Q => Q (ns.map (clsV c)) H)
  | _, _, .nil => PA.imp pa_nil fun _ _ _ h => h
  | _, _, .cons h k => PA.imp (pa_cons (pe_clsE h) (pa_clsEs k) (clsE_star h)) fun _ _ _ q => q
theorem kit_alls {K : PySem.W.Frag} {t : Value} {g : Str → Bool} : ∀ {ns : List Str}, (∀ n ∈ ns, PySem.W.kitOne K t (clsU c n) = some (g n)) → PySem.W.kitAny K t (ns.map (clsU c)) = some (ns.any g)
  | [], _ => kitAny_nil
  | n :: ns, h => by
    rw [List.map_cons]
    refine kitAny_cons (h n List.mem_cons_self) (fun q => ?_) fun q => ?_
    · rw [List.any_cons, q, Bool.false_or]
      exact kit_alls fun m hm => h m (List.mem_cons_of_mem _ hm)
    · rw [List.any_cons, q, Bool.true_or]
theorem exn_parts {w : Wd} {S : Store} {H : Hp} {k f : Str} {ds : List D} {v : V} (R : Rel c w S H) (r : RelD c w (.exn k f ds) v) : ∃ a dd vs, v = .ref a ∧ H a = some (XO (c.cad k) dd a) ∧ RelDs c w ds vs ∧ XF H f dd vs ∧ (dd = none ∨ ∃ dx fs, dd = some dx ∧ H dx = some (.xd fs)) := by
  simp only [RelD] at r
  obtain ⟨a, dd, vs, rfl, h1, h2, h3⟩ := r
  have h4 := h3.mono R.ex
  refine ⟨a, dd, vs, rfl, R.ex _ _ h1, h2, h4, ?_⟩
  rcases h4 with ⟨_, e⟩ | ⟨dx, fs, _, e, _, q, _⟩
  · exact .inl e
  · exact .inr ⟨dx, fs, e, q⟩
/-- isinstance(e, C) -/
theorem sem_isx1 {cl : Expr} {n : Str} {ans : List (Str × Bool)} (hg : Gl X "isinstance") (hm : X.mg "isinstance" = none) (hK : X.K = c.K) (ha : PE X e (SemE c F ee)) (hs : starEach [e, cl] X.env = (false, eval e X.env) :: starEach [cl] X.env) (hc : ClsE X c cl n)
    (hans : ∀ k b, ans.lookup k = some b → ExcC X.K (c.cad k) ∧ PySem.W.kitOne X.K (.ref (c.cad k)) (clsU c n) = some b) : PE X (.Call (.Name "isinstance" p) [e, cl] [] pos) (SemE c F (.isx ee ans)) :=
  PE.imp (pe_callB call_isX hg hm (by decide +kernel) (pa_cons ha (pa_cons (pe_clsE hc) pa_nil (clsE_star hc)) hs) (by decide) (by decide) hs (clsEs_any (.cons hc .nil))) fun σ H Q ⟨w, S, env, d, S', R, RE, hv, k⟩ => by
    simp only [ev] at hv
    refine SemE.bind (es := ee) R RE hv fun d1 S1 w1 H1 v1 g1 R1 r1 _ hk => ?_
    split at hk
    · rename_i kk f ds
      obtain ⟨q, rfl⟩ := opt_eq hk
      rw [Option.map_eq_some_iff] at q
      obtain ⟨b, q, rfl⟩ := q
      obtain ⟨a, dd, vs, rfl, h1, h2, h3, h4⟩ := exn_parts R1 r1
      obtain ⟨x1, x2⟩ := hans kk b q
      refine ⟨a, c.cad kk, dd, clsV c n, clsU c n, b, rfl, h1, h4, x1, fun u hu => clsV_u hu, x2, ?_⟩
      exact k w1 H1 _ g1 R1 (by simp only [RelD])
    · cases hk
/-- isinstance(e, (C1, ..)) -/
theorem sem_isxT {cls : List Expr} {ns : List Str} {x1 : Nat} {tp : Pos} {ans : List (Str × Bool)} (hg : Gl X "isinstance") (hm : X.mg "isinstance" = none) (hK : X.K = c.K) (ha : PE X e (SemE c F ee)) (hs : starEach [e, .Tuple cls x1 tp] X.env = (false, eval e X.env) :: starEach [.Tuple cls x1 tp] X.env) (hc : ClsEs X c cls ns) (hl : ns.length ≤ 100)
    (hans : ∀ k b, ans.lookup k = some b → ExcC X.K (c.cad k) ∧ PySem.W.kitAny X.K (.ref (c.cad k)) (ns.map (clsU c)) = some b) : PE X (.Call (.Name "isinstance" p) [e, .Tuple cls x1 tp] [] pos) (SemE c F (.isx ee ans)) :=
  PE.imp (pe_callB call_isXT hg hm (by decide +kernel) (pa_cons ha (pa_cons (pe_tup (pa_clsEs hc)) pa_nil rfl) hs) (by decide) (by decide) hs rfl) fun σ H Q ⟨w, S, env, d, S', R, RE, hv, k⟩ => by
    simp only [ev] at hv
    refine SemE.bind (es := ee) R RE hv fun d1 S1 w1 H1 v1 g1 R1 r1 _ hk => ?_
    split at hk
    · rename_i kk f ds
      obtain ⟨q, rfl⟩ := opt_eq hk
      rw [Option.map_eq_some_iff] at q
      obtain ⟨b, q, rfl⟩ := q
      obtain ⟨a, dd, vs, rfl, h1, h2, h3, h4⟩ := exn_parts R1 r1
      obtain ⟨x1, x2⟩ := hans kk b q
      refine ⟨by rw [List.length_map, sizeLine_eq]; omega, fun tp np => ?_⟩
      have hne : a ≠ tp := ne_of_none h1 np
      have hB := R1.freeB np
      refine ⟨a, c.cad kk, dd, tp, ns.map (clsV c), ns.map (clsU c), b, rfl, by rw [upd_ne hne]; exact h1, ?_, x1, upd_same, fun us hu => clsVs_u hu, x2, ?_⟩
      · rcases h4 with e | ⟨dx, fs, e1, e2⟩
        · exact .inl e
        · exact .inr ⟨dx, fs, e1, by rw [upd_ne (ne_of_none e2 np)]; exact e2⟩
      · exact k (w1.add tp _) _ _ (g1.trans (Go.add hB np fun l hl => R1.freeR np hl rfl)) (R1.add np _) (by simp only [RelD])
    · cases hk
/-- e.f -/
theorem sem_xfld {f : Str} {ks : List Str} (ha : PE X e (SemE c F ee)) (hb : attributeBase e f X.env (eval e X.env) = eval e X.env) (hk : ∀ k ∈ ks, XfC X.K (c.cad k) ∧ PySem.W.findIn X.K (.ref (c.cad k)) f = some none) : PE X (.Attribute e f pos) (SemE c F (.xfld ee f ks)) :=
  PE.imp (pe_xg ha hb) fun σ H Q ⟨w, S, env, d, S', R, RE, hv, k⟩ => by
    simp only [ev] at hv
    refine SemE.bind (es := ee) R RE hv fun d1 S1 w1 H1 v1 g1 R1 r1 _ hk' => ?_
    split at hk'
    · rename_i kk g d0
      split at hk'
      · rename_i hh
        obtain ⟨rfl, hm⟩ := hh
        cases hk'
        obtain ⟨a, dd, vs, rfl, h1, h2, h3, _⟩ := exn_parts R1 r1
        obtain ⟨v, rfl, rv⟩ := h2.one
        rcases h3 with ⟨e, _⟩ | ⟨dx, fs, v', e1, e2, e3, e4⟩
        · cases e
        · cases e2
          obtain ⟨x1, x2⟩ := hk kk hm
          exact ⟨a, c.cad kk, dx, fs, v, rfl, by rw [h1, e1], e3, x1, x2, e4, k w1 H1 _ g1 R1 rv⟩
      · cases hk'
    · cases hk'
/-! ### a call whose exception is wished for -/
theorem pg_callS {k : Nat} {f : Addr} {fd : FuncData} {ps : List Str} {sp : Sp} {E : L2.St → XK} {x : Str} {es : List Expr} {t : TA} (F' : FnG X.prog X.w X.K X.mg X.base k f fd ps sp) (hr : Room k X.A ∧ X.A.guards = some []) (hg : Gl X x)
    (hm : X.mg x = some (.ref f)) (hk : PySem.W.keepIn X.K (.ref f) = true) (hb : Binds X.K fd ps []) (hx : ∀ σ, PassesAt (L2.CX X.prog X.w) X σ (E σ)) (ha : PA X (e :: es) t)
    (hdb : (x == ("__debug__" : Str)) = false) (he : starEach (e :: es) X.env = (false, eval e X.env) :: starEach es X.env)
    (hpl : (backTo pos (starEach es X.env)).any (·.1) = false) : PE X (.Call (.Name x p) (e :: es) [] pos) (tCallS sp E t) := by
  constructor
  intro pins s σ H Q I h
  apply wpAny_Call_Name_kw
  apply ld_glob I hg hm _ hdb
  apply PySem.W.callWith_K (h₀ := X.base) I.ok.mod.kin hk _ he hpl
  apply thn (ha.run pos pins s σ H _ I h)
  rintro us s1 ⟨vs, H1, I1, r, q⟩
  have hl : (us ++ []).length = ps.length := by rw [List.append_nil, ← r.length]; exact F'.many _ _ _ _ q
  have b := hb s1 us I1.kIn hl
  rw [List.append_nil] at b
  refine ⟨I1.kIn, ?_⟩
  have z := F'.go X.A X.stack s1 H1 ⟨us, []⟩ us vs Q (E σ) hr I1.env0 b r q
  refine wpAny_call (codeAny_mono z fun r s' hq => ?_)
  match r, hq with
  | .ok (.ret u), hq => exact I1.after hq
  | .error e, hq => exact hx σ pins H1 s1 e s' I1 hq
theorem relEnv_keep {w : Wd} {env : Env} {σ : L2.St} {i m : Nat} {d : D} {v : V} (r : RelEnv c w env σ) (k : RelD c w d v) (hi : i < env.length) (hm : m < env.length) (him : i ≠ m) : RelEnv c w ((env.set m (some d)).set i none) (((σ.set i (some v)).set m (some v)).set i none) := by
  refine ⟨by simp only [List.length_set]; exact r.1, fun j e q => ?_⟩
  have hl := r.1
  by_cases hj : j = i
  · subst hj
    rw [List.getElem?_set_self (by rw [List.length_set]; exact hi)] at q
    cases q
  · rw [List.getElem?_set_ne (Ne.symm hj)] at q
    by_cases hj2 : j = m
    · subst hj2
      rw [List.getElem?_set_self hm] at q
      cases q
      exact ⟨v, by rw [List.getElem?_set_ne (Ne.symm hj), List.getElem?_set_self (by rw [List.length_set, ← hl]; exact hm)], k⟩
    · rw [List.getElem?_set_ne (Ne.symm hj2)] at q
      obtain ⟨v', q1, q2⟩ := r.2 j e q
      exact ⟨v', by rw [List.getElem?_set_ne (Ne.symm hj), List.getElem?_set_ne (Ne.symm hj2), List.getElem?_set_ne (Ne.symm hj)]; exact q1, q2⟩
/-- try: y = f(..) / except x as n: z = n -/
theorem sem_tryc {fx x n y z : Str} {fi i j m : Nat} {ks : List Str} {es : List Expr} {ees : List E} {a : Expr} {np ep yp ap zp bp pos' tpos : Pos} (hs : X.stack = X.env :: X.outer) (hf : X.env.frame = some X.env.locals) (hex : X.ex = []) (hN : X.N.Nodup)
    (hi : X.N[i]? = some y) (hj : X.N[j]? = some n) (hm : X.N[m]? = some z) (hjm : j ≠ m) (hly : X.env.kindOf y = some .local) (hln : X.env.kindOf n = some .local) (hlz : X.env.kindOf z = some .local)
    (hc : Names X x (.ref (c.cad x))) (hdn : (n == ("__debug__" : Str)) = false) (hcn : (n == ("__classdict__" : Str)) = false) (hks : ∀ k ∈ ks, PySem.W.exmOne X.K (.ref (c.cad k)) (.ref (c.cad x)) = some true)
    (C : Callee c F X fi) (hg : Gl X fx) (hmf : X.mg fx = some (.ref (c.fad fi))) (ha : ∀ pn xe, PA (X.tr pn xe) (a :: es) (SemA c F ees)) (hdb : (fx == ("__debug__" : Str)) = false)
    (he : starEach (a :: es) X.env = (false, eval a X.env) :: starEach es X.env) (hpl : (backTo pos (starEach es X.env)).any (·.1) = false) :
    PS X (.Try [.Assign [.Name y yp] (.Call (.Name fx p) (a :: es) [] pos) ap] [.ExceptHandler (some (.Name x np)) (some n) [.Assign [.Name z zp] (.Name n ep) bp] pos'] [] [] tpos) (SemS c WX (ex F (.tryc i fi ees ks j m))) := by
  obtain ⟨k0, fd, ps, hr, hF, hb⟩ := C.ex
  refine PS.imp (ps_try_keep (tb := fun W D σ H => tAsg (tCallS (spOf c (F fi)) (WE W) (SemA c F ees)) (gName i) D σ H) hs hf hex hN hj hm hjm hln hlz hc (fun W pn xe tk hp => pss_one (ps_set (i := i) hN hi (.inl hly) (pg_callS (X := X.tr pn xe) (E := WE W) hF hr hg hmf C.kp hb (fun σ => passAt tk σ) (ha pn xe) hdb he hpl) rfl (.inr hly))) hdn hcn) fun Dn σ H ⟨w, S, env, R, RE, kk⟩ => ?_
  simp only [ex] at kk
  cases q : evs F ees env S with
  | bad => rw [q] at kk; exact kk.elim
  | exc _ _ => rw [q] at kk; exact kk.elim
  | ok ds S1 =>
    rw [q] at kk
    refine ⟨w, S, env, ds, S1, R, RE, q, fun w1 H1 vs g1 R1 rs => ⟨w1, S1, ds, R1, rs, ?_⟩⟩
    have kk := Want.go g1 kk
    have RE1 := RE.mono g1.le
    simp only [Out.of] at kk
    cases q2 : F fi ds S1 with
    | bad => rw [q2] at kk; exact kk.elim
    | ok d2 S2 =>
      rw [q2] at kk
      simp only at kk
      split at kk
      · rename_i hil
        exact fun w' H' v g' R' r' => kk w' _ H' g' R' ((RE1.mono g'.le).set r' hil)
      · exact kk.elim
    | exc d2 S2 =>
      rw [q2] at kk
      cases d2 <;> try exact kk.elim
      rename_i k g xs
      simp only at kk
      split at kk
      · rename_i hh
        obtain ⟨h1, h2, h3⟩ := hh
        intro w' H' cls dd g' R' ER
        obtain ⟨k', f', ds', vs', e1, rfl, e3, e4⟩ := ER
        cases e1
        refine ⟨c.cad k, rfl, hks k h1, fun a' na => ?_⟩
        have hB := R'.freeB na
        refine kk (w'.add a' (XO (c.cad k) dd a')) _ _ (g'.trans (Go.add hB na fun l hl => R'.freeR na hl rfl)) (R'.add na _) ?_
        refine relEnv_keep ((RE1.mono g'.le).mono (Wd.le_add hB)) ?_ h2 h3 hjm
        simp only [RelD]
        exact ⟨a', dd, vs', rfl, upd_same, e3.mono (Wd.le_add hB), e4.mono (Wd.le_add hB).b⟩
      · exact kk.elim
end
end MP

/-! MP8: from the text to the plain machine's syntax; each expression so read keeps its reading. -/
namespace MP
open PySem L2

structure Info where
  N : List Str
  sc : Scope
  top : Bool
  mt : List Pos
  fn : List (Str × Nat)
  fk : List (Str × Nat × Nat × List Str)
  fv : List Nat
  gc : List (Str × D)
  gd : List (Str × List (Str × D))
  bf : List Str
  /-- exceptions' classes of the text, each with its field; whether one's is a subclass -/
  xs : List (Str × Option Str)
  xk : List ((Str × Str) × Bool)
def Info.gl (I : Info) (y : Str) : Bool := decide (I.sc.names.lookup y = some .globalImplicit) && !(y == ("__debug__" : Str))
def Info.slot (I : Info) (y : Str) : Option Nat := if (decide (I.sc.names.lookup y = some .local) || decide (I.sc.names.lookup y = some .cell) || decide (I.sc.names.lookup y = some .free)) && !(y == ("__debug__" : Str)) && !(y == ("__classdict__" : Str))
  then I.N.findIdx? (fun z => decide (z = y)) else none
def tyNames : List String := ["int", "str", "bool", "tuple", "list", "dict"]
def tyNameOf (y : Str) : Option String := tyNames.find? fun t => decide (y = (t : Str))
def cName (I : Info) (y : Str) : Option E := match I.slot y with
  | some i => some (.var i)
  | none => if I.gl y then (match I.gc.lookup y with
    | some d => some (.con d)
    | none => if I.bf.contains y then (tyNameOf y).map fun t => .con (.ty t) else none) else none
def cConst : Const → Option E
  | .int i => some (.con (.int i)) | .bool b => some (.con (.bl b)) | .none => some (.con .non) | .str x => some (.con (.str x))
  | _ => none
def bopOf : Operator → Option BOp
  | .Add => some .add | .Sub => some .sub | .Mult => some .mul | .FloorDiv => some .fdiv | .Mod => some .mod | .Pow => some .pow
  | _ => none
theorem bopOf_ok {op : Operator} {o : BOp} (h : bopOf op = some o) : opOf o = op := by cases op <;> simp only [bopOf] at h <;> cases h <;> rfl
def ccOf : CmpOp → Option COp
  | .Eq => some .eq | .NotEq => some .ne | .Lt => some .lt | .LtE => some .le | .Gt => some .gt | .GtE => some .ge | .In => some .inn | .NotIn => some .notin | .Is => some .is | .IsNot => some .isnot
theorem ccOf_ok {op : CmpOp} {o : COp} (h : ccOf op = some o) : copOf o = op := by cases op <;> simp only [ccOf] at h <;> cases h <;> rfl
def blts : List Blt := [.len, .isinst, .all, .any, .tuple, .list, .abs, .min, .max, .sorted, .str, .int, .repr]
def bltOf (y : Str) : Option Blt := blts.find? fun b => decide (y = ((bltName b).1 : Str))
def mths (z : Bool) : List Mth := if z then [.pop0, .upper] else [.append, .pop1, .extend, .index, .join, .update, .split]
def mthOf (m : Str) : Option Mth := (mths false).find? fun b => match mthName b with
  | some t => decide (m = (t : Str))
  | none => false
def mthOf0 (m : Str) : Option Mth := (mths true).find? fun b => match mthName0 b with
  | some t => decide (m = (t : Str))
  | none => false
def recvOk : Expr → Bool
  | .Call (.Name _ _) [] [] _ => false
  | _ => true
def isSlice : Expr → Bool
  | .Slice _ _ _ _ => true
  | _ => false
def isComp : Expr → Bool
  | .ListComp _ _ _ _ => true | .SetComp _ _ _ _ => true | .DictComp _ _ _ _ _ => true
  | _ => false
def isSet : Expr → Bool
  | .Set _ _ _ => true
  | _ => false
def kwNames : List Keyword → Option (List Str)
  | [] => some []
  | ⟨some y, _, _⟩ :: r => (kwNames r).map fun l => y :: l
  | ⟨none, _, _⟩ :: _ => none
def starAt : List Expr → Option Nat
  | [] => none
  | .Starred _ _ :: _ => some 0
  | _ :: es => (starAt es).map (· + 1)
def unstar : Expr → Expr
  | .Starred e _ => e
  | e => e
mutual
def cP (I : Info) : Nat → Expr → Option P
  | 0, _ => none
  | n + 1, .Name y _ => (I.slot y).bind fun i => if decide (I.sc.names.lookup y = some .local) || (I.top && decide (I.sc.names.lookup y = some .cell)) then some (.name i) else none
  | n + 1, .Tuple es _ _ => match starAt es with
    | none => (cPs I n es).map .tup
    | some i => if i < es.length then (cPs I n es).map (.star i) else none
  | n + 1, _ => none
def cPs (I : Info) : Nat → List Expr → Option (List P)
  | 0, _ => none
  | n + 1, [] => some []
  | n + 1, e :: es => (cP I n (unstar e)).bind fun p => (cPs I n es).map fun ps => p :: ps
end
/-- what is known within a comprehension -/
def Info.blk (I : Info) (scope : Scope) : Info := { I with sc := relS scope I.sc, top := false }
def dictOf (I : Info) : Expr → Option (List (Str × D))
  | .Name y _ => if I.gl y then I.gd.lookup y else none
  | _ => none
/-- a class of exceptions, by its name -/
def clsName (I : Info) : Expr → Option Str
  | .Name n _ => if (I.slot n).isNone && I.gl n && ((decide (n = ("ValueError" : Str)) && I.bf.contains n) || (!decide (n = ("ValueError" : Str)) && (I.xs.lookup n).isSome)) then some n else none
  | _ => none
def clsNames (I : Info) : List Expr → Option (List Str)
  | [] => some []
  | e :: es => (clsName I e).bind fun n => (clsNames I es).map fun ns => n :: ns
/-- isinstance's answers for each class -/
def ansOf (I : Info) (ns : List Str) : List (Str × Bool) := I.xs.filterMap fun p => (ns.mapM fun n => I.xk.lookup (p.1, n)).map fun bs => (p.1, bs.any id)
def isxArg (I : Info) (y : Str) (args : List Expr) : Option (Expr × List (Str × Bool)) := if y = ("isinstance" : Str) then (match args with
    | [a, .Tuple es _ _] => (clsNames I es).bind fun ns => if ns.length ≤ 100 ∧ ns.isEmpty = false then some (a, ansOf I ns) else none
    | [a, b] => (clsName I b).map fun n => (a, ansOf I [n])
    | _ => none) else none
def fldClasses (I : Info) (f : Str) : List Str := I.xs.filterMap fun p => if p.2 = some f then some p.1 else none
def iterName (I : Info) (y : Str) : Option IK := if I.gl y && I.bf.contains y && (I.slot y).isNone then
    (if y = ("range" : Str) then some .range else if y = ("zip" : Str) then some .zip else if y = ("enumerate" : Str) then some .enum else none) else none
/-- a name whose list is walked as it stands -/
def liveIter (I : Info) : Expr → Bool
  | .Name _ p => I.mt.contains p
  | _ => false
/-- sorted(set(a)) -/
def setArg (I : Info) (y : Str) : List Expr → Option Expr
  | [.Call (.Name z _) [a] [] _] => if y = ("sorted" : Str) ∧ z = ("set" : Str) ∧ I.gl z = true ∧ I.slot z = none ∧ I.bf.contains z = true then some a else none
  | _ => none
mutual
def cE (I : Info) : Nat → Expr → Option E
  | 0, _ => none
  | n + 1, .Name y _ => cName I y
  | n + 1, .Constant k _ _ => cConst k
  | n + 1, .Tuple es _ _ => (cEs I n es).map .tup
  | n + 1, .List es p => (cEs I n es).map fun l => if I.mt.contains p then .nlst l else .lst l
  | n + 1, .BinOp a op b p => if I.mt.contains p then (match op with
    | .Add => (cE I n a).bind fun x => (cE I n b).map fun y => .nadd x y
    | _ => none) else (bopOf op).bind fun o => (cE I n a).bind fun x => (cE I n b).map fun y => .bin o x y
  | n + 1, .Dict keys values p => if keys.isEmpty && values.isEmpty then (if I.mt.contains p then none else some .edict) else if keys.all (·.isSome) && decide (keys.length = values.length) && !keys.isEmpty && decide (keys.length ≤ 15) then (cPairs I n keys values).map fun l => if I.mt.contains p then .ndict l else .fdict l else none
  | n + 1, .UnaryOp op a _ => match op with
    | .USub => (cE I n a).map .neg
    | .Not => (cE I n a).map .not
    | _ => none
  | n + 1, .Compare a ops bs _ => cCmp I n a ops bs
  | n + 1, .BoolOp op es _ => cBool I n op es
  | n + 1, .IfExp t a b _ => (cE I n t).bind fun x => (cE I n a).bind fun y => (cE I n b).map fun z => .ite x y z
  | n + 1, .Subscript a b _ => cSub I n a b
  | n + 1, .Call f args kws pos => cCall I n f args kws pos
  | n + 1, .ListComp elt gens scope pos => cComp I n elt gens scope pos
  | n + 1, .JoinedStr vs _ => if 2 ≤ vs.length then (cFs I n vs).map .fstr else none
  | n + 1, .Attribute v f _ => if recvOk v then (cE I n v).map fun x => .xfld x f (fldClasses I f) else none
  | _, _ => none
/-- a text's parts -/
def cFs (I : Info) : Nat → List Expr → Option (List E)
  | 0, _ => none
  | n + 1, [] => some []
  | n + 1, v :: vs => ((match v with
    | .Constant (.str x) _ _ => some (E.con (.str x))
    | .FormattedValue e (-1) none _ => cE I n e
    | _ => none) : Option E).bind fun x => (cFs I n vs).map fun xs => x :: xs
def cEs (I : Info) : Nat → List Expr → Option (List E)
  | 0, _ => none
  | n + 1, [] => some []
  | n + 1, e :: es => (cE I n e).bind fun x => (cEs I n es).map fun xs => x :: xs
def cPairs (I : Info) : Nat → List (Option Expr) → List Expr → Option (List E)
  | 0, _, _ => none
  | n + 1, k :: ks, v :: vs => (match k with
    | some k => (cE I n k).bind fun x => (cE I n v).bind fun y => (cPairs I n ks vs).map fun r => x :: y :: r
    | none => none)
  | n + 1, [], [] => some []
  | n + 1, _, _ => none
def cKs (I : Info) : Nat → List Keyword → Option (List E)
  | 0, _ => none
  | n + 1, [] => some []
  | n + 1, ⟨_, e, _⟩ :: es => (cE I n e).bind fun x => (cKs I n es).map fun xs => x :: xs
def cBool (I : Info) : Nat → PySem.BoolOp → List Expr → Option E
  | 0, _, _ => none
  | n + 1, op, [a] => cE I n a
  | n + 1, op, a :: b :: es => (cE I n a).bind fun x => (cBool I n op (b :: es)).map fun y => match op with
    | .And => .and x y
    | .Or => .or x y
  | n + 1, _, [] => none
def cCmp (I : Info) : Nat → Expr → List CmpOp → List Expr → Option E
  | 0, _, _, _ => none
  | n + 1, a, [op], [b] => match dictOf I b with
    | some kvs => (match op with
      | .In => (cE I n a).map (.cin false kvs)
      | .NotIn => (cE I n a).map (.cin true kvs)
      | _ => none)
    | none => if behindInMarks op b then none else (ccOf op).bind fun o => (cE I n a).bind fun x => (cE I n b).map fun y => .cmp o x y
  | n + 1, a, [op, op'], [b, cc] => if lastMarks [op, op'] [b, cc] then none else (ccOf op).bind fun o => (ccOf op').bind fun o' => (cE I n a).bind fun x => (cE I n b).bind fun y => (cE I n cc).map fun z => .chain o o' x y z
  | n + 1, _, _, _ => none
def cSub (I : Info) : Nat → Expr → Expr → Option E
  | 0, _, _ => none
  | n + 1, a, .Slice lo hi st _ => match lo, hi, st with
    | none, none, some (.UnaryOp .USub (.Constant (.int 1) _ _) _) => (cE I n a).map .rev
    | lo, hi, none => (cE I n a).bind fun x => (cPart I n lo).bind fun l => (cPart I n hi).map fun h => .sl x l h
    | _, _, _ => none
  | n + 1, a, b => match dictOf I a with
    | some kvs => (cE I n b).map (.cget kvs)
    | none => (cE I n a).bind fun x => (cE I n b).map fun y => .ix x y
def cPart (I : Info) : Nat → Option Expr → Option (List E)
  | 0, _ => none
  | n + 1, none => some []
  | n + 1, some e => (cE I n e).map fun x => [x]
def cCall (I : Info) : Nat → Expr → List Expr → List Keyword → Pos → Option E
  | 0, _, _, _, _ => none
  | n + 1, .Name y _, args, kws, pos => match kws with
    | [] => (match I.slot y with
      | some i => (match args with
        | [] => none
        | _ :: _ => (cEs I n args).map fun xs => .callv i I.fv xs)
      | none => if I.gl y then (match I.fn.lookup y with
        | some f => (cEs I n args).map (.call f)
        | none => if I.bf.contains y then (match isxArg I y args with
          | some (a, ans) => (cE I n a).map fun x => .isx x ans
          | none => (match setArg I y args with
          | some a => (cEs I n [a]).map (.blt .sset)
          | none => (bltOf y).bind fun b => (match args with
            | [] => none
            | _ :: _ => (cEs I n args).map (.blt b)))) else (match I.xs.lookup y, args with
            | some none, [] => some (.xnew y "" [])
            | some (some f), [a] => (cEs I n [a]).map fun xs => .xnew y f xs
            | _, _ => none)) else none)
    | _ :: _ => (match I.slot y with
      | some _ => none
      | none => if I.gl y then (I.fk.lookup y).bind fun f => (match args with
        | [] => none
        | _ :: _ => if args.length = f.2.1 ∧ kws.length = f.2.2.length ∧ kwNames kws = some f.2.2 then (cEs I n args).bind fun xs => (cKs I n kws).map fun ks => .callk f.1 xs ks else none) else none)
  | n + 1, .Attribute o m apos, args, kws, pos => if recvOk o && decide (args.length < 29) && decide (apos.endLine = pos.line) then (match kws with
    | [] => (match args with
      | [] => (mthOf0 m).bind fun mm => (cE I n o).map fun x => .mth mm x []
      | _ :: _ => (mthOf m).bind fun mm => (cE I n o).bind fun x => (cEs I n args).map fun xs => .mth mm x xs)
    | _ :: _ => none) else none
  | n + 1, _, _, _, _ => none
def cIter (I : Info) : Nat → Expr → Expr → Option (IK × List E)
  | 0, _, _ => none
  | n + 1, tg, .Call (.Name y p) args kws pos => match iterName I y, kws, args, tg with
    | some .range, [], [a], _ => (cEs I n [a]).map fun xs => (.range, xs)
    | some .range, [], [a, b], _ => (cEs I n [a, b]).map fun xs => (.range, xs)
    | some .zip, [], [a, b], .Tuple _ _ _ => (cEs I n [a, b]).map fun xs => (.zip, xs)
    | some .enum, [], [a], .Tuple _ _ _ => (cEs I n [a]).map fun xs => (.enum, xs)
    | some _, _, _, _ => none
    | none, _, _, _ => (cE I n (.Call (.Name y p) args kws pos)).map fun x => (.seq, [x])
  | n + 1, _, e => if isSet e then none else (cE I n e).map fun x => (.seq, [x])
def cComp (I : Info) : Nat → Expr → List Comprehension → Scope → Pos → Option E
  | 0, _, _, _, _ => none
  | n + 1, elt, gs, scope, pos => match gs with
    | [⟨tg, iter, ifs, asy⟩] => if asy = 0 then if liveIter I iter then (cP (I.blk scope) n tg).bind fun p => (cE I n iter).bind fun it => (cEs (I.blk scope) n ifs).bind fun cs => (cE (I.blk scope) n elt).bind fun x =>
      if blkC I.N I.sc scope ((slotsP p).map fun i => (I.N.getD i Str.empty, i)) && decide (ifs.length ≤ 1) then some (.compL (I.mt.contains pos) p it cs x) else none else (cP (I.blk scope) n tg).bind fun p => (cIter I n tg iter).bind fun it => (cEs (I.blk scope) n ifs).bind fun cs => (cE (I.blk scope) n elt).bind fun x =>
      if blkC I.N I.sc scope ((slotsP p).map fun i => (I.N.getD i Str.empty, i)) && decide (ifs.length ≤ 1) then some (.comp (I.mt.contains pos) p it.1 it.2 cs x) else none else none
    | _ => none
end
end MP

/-! MP9: each expression that is read keeps its reading. -/
namespace MP
open PySem L2

structure Good (c : Cfg) (F : Fn) (I : Info) (X : Cx) : Prop where
  K : X.K = c.K
  calm : X.calm = true
  nd : X.N.Nodup
  N : X.N = I.N
  hu : X.A.units + 65 < cLine
  sc : X.env.scope = I.sc
  topf : I.top = true → ∀ x, X.fn x = true
  bf : ∀ x, I.bf.contains x = true → X.mg x = none
  gc : ∀ x d, I.gc.lookup x = some d → ∃ v u, X.mg x = some u ∧ RelV v u ∧ ∀ w, RelD c w d v
  gd : ∀ x kvs, I.gd.lookup x = some kvs → ∃ ad, X.mg x = some (.ref ad) ∧ KD c X ad kvs
  fn : ∀ x i, I.fn.lookup x = some i → X.mg x = some (.ref (c.fad i)) ∧ Callee c F X i
  fk : ∀ x i n ks, I.fk.lookup x = some (i, n, ks) → X.mg x = some (.ref (c.fad i)) ∧ CalleeK c F X i n ks
  fv : ∀ f ∈ I.fv, Callee c F X f
  hu2 : X.A.units + 70 < cLine
  gds : X.A.guards = some []
  sm : ∃ o, X.base.get? sysModules = some o
  xs : ∀ k o, I.xs.lookup k = some o → XCls X.K X.mg k (c.cad k) o
  xk : ∀ k n b, I.xk.lookup (k, n) = some b → ExcC X.K (c.cad k) ∧ PySem.W.kitOne X.K (.ref (c.cad k)) (clsU c n) = some b
  room : Room 2 X.A
  xn : (I.xs.map (·.1)).Nodup
  xm : ∀ k n, I.xk.lookup (k, n) = some true → n ≠ ("ValueError" : Str) → PySem.W.exmOne X.K (.ref (c.cad k)) (.ref (c.cad n)) = some true
section
variable {c : Cfg} {F : Fn} {I : Info} {X : Cx}
theorem Good.blk (G : Good c F I X) (s : Shared) (H : Hp) (scope : Scope) (C : Addr) (cl : List (Str × Addr)) (fp : List Addr) : Good c F (I.blk scope) (X.blk s H scope (compEnvC scope cl C X.env) fp) where
  K := G.K
  calm := G.calm
  nd := G.nd
  N := G.N
  hu := G.hu
  sc := by
    show relabel scope X.env = relS scope I.sc
    rw [← G.sc]; rfl
  topf := fun h => by cases h
  bf := G.bf
  gc := G.gc
  gd := fun x kvs h => let ⟨ad, h1, h2⟩ := G.gd x kvs h; ⟨ad, h1, ⟨h2.dict, h2.get⟩⟩
  fn := fun x i h => let ⟨h1, h2⟩ := G.fn x i h; ⟨h1, ⟨h2.kp, h2.ex⟩⟩
  fk := fun x i n ks h => let ⟨h1, h2⟩ := G.fk x i n ks h; ⟨h1, ⟨h2.kp, h2.ex⟩⟩
  fv := fun f h => ⟨(G.fv f h).kp, (G.fv f h).ex⟩
  hu2 := G.hu2
  gds := G.gds
  sm := G.sm
  xs := G.xs
  xk := G.xk
  room := G.room
  xn := G.xn
  xm := G.xm
theorem slot_ok (G : Good c F I X) {y : Str} {i : Nat} (h : I.slot y = some i) : X.N[i]? = some y ∧ Vis X.env.scope y ∧ (y == ("__debug__" : Str)) = false ∧ (y == ("__classdict__" : Str)) = false := by
  unfold Info.slot at h
  split at h
  · rename_i hc
    simp only [Bool.and_eq_true, Bool.or_eq_true, decide_eq_true_iff, Bool.not_eq_true'] at hc
    obtain ⟨⟨hv, hd⟩, hcd⟩ := hc
    refine ⟨?_, ?_, hd, hcd⟩
    · rw [G.N]
      obtain ⟨h1, h2, _⟩ := List.findIdx?_eq_some_iff_getElem.mp h
      rw [List.getElem?_eq_getElem h1]
      exact congrArg some (of_decide_eq_true h2)
    · rw [G.sc]
      rcases hv with (h | h) | h
      · exact .inl h
      · exact .inr (.inl h)
      · exact .inr (.inr h)
  · cases h
theorem gl_ok (G : Good c F I X) {y : Str} (h : I.gl y = true) : Gl X y ∧ (y == ("__debug__" : Str)) = false := by
  unfold Info.gl at h
  simp only [Bool.and_eq_true, decide_eq_true_iff, Bool.not_eq_true'] at h
  refine ⟨?_, h.2⟩
  show X.env.scope.names.lookup y = _
  rw [G.sc]; exact h.1
theorem clsName_ok (G : Good c F I X) {e : Expr} {n : Str} (h : clsName I e = some n) : ClsE X c e n := by
  cases e <;> try (simp only [clsName] at h; cases h; done)
  rename_i y p
  simp only [clsName] at h
  split at h
  · rename_i hh
    cases h
    simp only [Bool.and_eq_true, Bool.or_eq_true, decide_eq_true_iff, Bool.not_eq_true', decide_eq_false_iff_not] at hh
    obtain ⟨⟨_, hg⟩, h2⟩ := hh
    obtain ⟨g1, g2⟩ := gl_ok G hg
    rcases h2 with ⟨rfl, hb⟩ | ⟨hne, hx⟩
    · exact .ve g1 (G.bf _ hb)
    · obtain ⟨o, ho⟩ := Option.isSome_iff_exists.mp hx
      exact .own g1 (G.xs _ _ ho).mgk hne g2
  · cases h
theorem clsNames_ok (G : Good c F I X) : ∀ {es : List Expr} {ns : List Str}, clsNames I es = some ns → ClsEs X c es ns
  | [], ns, h => by simp only [clsNames] at h; cases h; exact .nil
  | e :: es, ns, h => by
    simp only [clsNames] at h
    rw [Option.bind_eq_some_iff] at h
    obtain ⟨n, h1, h⟩ := h
    rw [Option.map_eq_some_iff] at h
    obtain ⟨ms, h2, rfl⟩ := h
    exact .cons (clsName_ok G h1) (clsNames_ok G h2)
theorem mapM_xk (G : Good c F I X) {k : Str} : ∀ {ns : List Str} {bs : List Bool}, (ns.mapM fun n => I.xk.lookup (k, n)) = some bs → PySem.W.kitAny X.K (.ref (c.cad k)) (ns.map (clsU c)) = some (bs.any id)
  | [], bs, h => by cases h; exact kitAny_nil
  | n :: ns, bs, h => by
    rw [List.mapM_cons] at h
    cases q : I.xk.lookup (k, n) with
    | none => rw [q] at h; cases h
    | some b =>
      rw [q] at h
      cases q2 : (ns.mapM fun n => I.xk.lookup (k, n)) with
      | none => rw [q2] at h; cases h
      | some bs' =>
        rw [q2] at h
        cases h
        rw [List.map_cons]
        refine kitAny_cons (G.xk k n b q).2 (fun e => ?_) fun e => ?_
        · subst e
          have z := mapM_xk G q2
          show _ = some (false || bs'.any id)
          rw [Bool.false_or]; exact z
        · subst e; rfl
theorem ansOf_mem {ns : List Str} {k : Str} {b : Bool} (h : (ansOf I ns).lookup k = some b) : ∃ bs, (ns.mapM fun n => I.xk.lookup (k, n)) = some bs ∧ b = bs.any id := by
  have mem : ∀ {l : List (Str × Bool)}, l.lookup k = some b → (k, b) ∈ l := by
    intro l
    induction l with
    | nil => intro h; cases h
    | cons p l ih =>
      intro h
      obtain ⟨k', b'⟩ := p
      rw [List.lookup_cons] at h
      split at h
      · rename_i e
        cases h
        rw [eq_of_beq e]
        exact List.mem_cons_self
      · exact List.mem_cons_of_mem _ (ih h)
  have hm := mem h
  unfold ansOf at hm
  obtain ⟨p, _, q⟩ := List.mem_filterMap.mp hm
  rw [Option.map_eq_some_iff] at q
  obtain ⟨bs, q1, q2⟩ := q
  cases q2
  exact ⟨bs, q1, rfl⟩
theorem ansOf_ok (G : Good c F I X) {ns : List Str} {k : Str} {b : Bool} (hne : ns.isEmpty = false) (h : (ansOf I ns).lookup k = some b) : ExcC X.K (c.cad k) ∧ PySem.W.kitAny X.K (.ref (c.cad k)) (ns.map (clsU c)) = some b := by
  obtain ⟨bs, q1, rfl⟩ := ansOf_mem h
  refine ⟨?_, mapM_xk G q1⟩
  match ns, hne, q1 with
  | n :: ns, _, q1 =>
    rw [List.mapM_cons] at q1
    cases q : I.xk.lookup (k, n) with
    | none => rw [q] at q1; cases q1
    | some b => exact (G.xk _ _ _ q).1
theorem ans1_ok (G : Good c F I X) {n : Str} {k : Str} {b : Bool} (h : (ansOf I [n]).lookup k = some b) : ExcC X.K (c.cad k) ∧ PySem.W.kitOne X.K (.ref (c.cad k)) (clsU c n) = some b := by
  obtain ⟨bs, q1, rfl⟩ := ansOf_mem h
  rw [List.mapM_cons] at q1
  cases q : I.xk.lookup (k, n) with
  | none => rw [q] at q1; cases q1
  | some b =>
    rw [q] at q1
    cases q1
    obtain ⟨z1, z2⟩ := G.xk _ _ _ q
    refine ⟨z1, z2.trans ?_⟩
    cases b <;> rfl
theorem fld_ok (G : Good c F I X) {f k : Str} (h : k ∈ fldClasses I f) (hn : (I.xs.map (·.1)).Nodup) : XfC X.K (c.cad k) ∧ PySem.W.findIn X.K (.ref (c.cad k)) f = some none := by
  unfold fldClasses at h
  obtain ⟨⟨k', o⟩, hm, q⟩ := List.mem_filterMap.mp h
  simp only at q
  split at q
  · rename_i e
    cases q
    have look : ∀ {l : List (Str × Option Str)}, (l.map (·.1)).Nodup → (k, o) ∈ l → l.lookup k = some o := by
      intro l
      induction l with
      | nil => intro _ h; cases h
      | cons p l ih =>
        intro hn hm
        rw [List.map_cons] at hn
        obtain ⟨n1, n2⟩ := List.nodup_cons.mp hn
        rw [List.lookup_cons]
        rcases List.mem_cons.mp hm with rfl | hm
        · rw [beq_self_eq_true]
        · have : (k == p.1) = false := beq_eq_false_iff_ne.mpr fun e => n1 (by rw [← e]; exact List.mem_map.mpr ⟨_, hm, rfl⟩)
          rw [this]
          exact ih n2 hm
    have T := G.xs _ _ (look hn hm)
    rw [e] at T
    exact ⟨T.xf, T.sh.2.1⟩
  · cases q
theorem tyName_ok {y : Str} {t : String} (h : tyNameOf y = some t) : y = (t : Str) ∧ bootBuiltins y = some (.type t) := by
  unfold tyNameOf at h
  have h1 : y = (t : Str) := of_decide_eq_true (List.find?_some (p := fun (t : String) => decide (y = (t : Str))) h)
  have h2 := List.mem_of_find?_eq_some h
  refine ⟨h1, ?_⟩
  rw [h1]
  simp only [tyNames, List.mem_cons, List.not_mem_nil, or_false] at h2
  rcases h2 with rfl | rfl | rfl | rfl | rfl | rfl <;> decide +kernel
theorem bltOf_ok {y : Str} {b : Blt} (h : bltOf y = some b) : y = ((bltName b).1 : Str) ∧ bltOk b = true := by
  unfold bltOf at h
  have h1 : y = ((bltName b).1 : Str) := of_decide_eq_true (List.find?_some (p := fun b => decide (y = ((bltName b).1 : Str))) h)
  have h2 := List.mem_of_find?_eq_some h
  refine ⟨h1, ?_⟩
  cases b <;> first | rfl | (simp [blts] at h2)
theorem mthOf_ok {y : Str} {m : Mth} (h : mthOf y = some m) : ∃ t, mthName m = some t ∧ y = (t : Str) := by
  unfold mthOf at h
  have h1 := List.find?_some h
  cases e : mthName m with
  | none => rw [e] at h1; cases h1
  | some t => rw [e] at h1; exact ⟨t, rfl, of_decide_eq_true h1⟩
theorem mthOf0_ok {y : Str} {m : Mth} (h : mthOf0 y = some m) : ∃ t, mthName0 m = some t ∧ y = (t : Str) := by
  unfold mthOf0 at h
  have h1 := List.find?_some h
  cases e : mthName0 m with
  | none => rw [e] at h1; cases h1
  | some t => rw [e] at h1; exact ⟨t, rfl, of_decide_eq_true h1⟩
def isStar : Expr → Bool
  | .Starred _ _ => true
  | _ => false
theorem star_cons {e : Expr} {es : List Expr} {env : PySem.Env} (h : isStar e = false) : starEach (e :: es) env = (false, eval e env) :: starEach es env := by
  cases e <;> first | rfl | cases h
theorem star_any {pos : Pos} {env : PySem.Env} : ∀ {es : List Expr}, (∀ e ∈ es, isStar e = false) → (backTo pos (starEach es env)).any (·.1) = false
  | [], _ => rfl
  | e :: es, h => by
    rw [star_cons (h e List.mem_cons_self)]
    show (false || (backTo pos (starEach es env)).any (·.1)) = false
    rw [star_any fun e' he => h e' (List.mem_cons_of_mem _ he)]; rfl
theorem star_all {pos : Pos} {env : PySem.Env} : ∀ {es : List Expr}, (∀ e ∈ es, isStar e = false) → (backTo pos (starEach es env)).all (fun x => !x.1) = true
  | [], _ => rfl
  | e :: es, h => by
    rw [star_cons (h e List.mem_cons_self)]
    show (true && (backTo pos (starEach es env)).all (fun x => !x.1)) = true
    rw [star_all fun e' he => h e' (List.mem_cons_of_mem _ he)]; rfl
theorem recv_ok {o : Expr} {a : Str} {env : PySem.Env} {w : Sem Value} (h : recvOk o = true) : attributeBase o a env w = w := by
  unfold attributeBase
  split
  · cases h
  · rfl
theorem ix_plain {b : Expr} (h : isSlice b = false) : PlainIx b := by
  intro o i
  cases b <;> first | rfl | cases h
theorem noStar_E {n : Nat} {x : Expr} {e : E} (h : cE I n x = some e) : isStar x = false := by
  cases x <;> try rfl
  cases n <;> simp only [cE] at h <;> cases h
theorem noStar_Es : ∀ {n : Nat} {xs : List Expr} {es : List E}, cEs I n xs = some es → ∀ x ∈ xs, isStar x = false
  | 0, _, _, h => by simp only [cEs] at h; cases h
  | n + 1, [], _, _ => fun x hx => by cases hx
  | n + 1, a :: xs, es, h => by
    simp only [cEs] at h
    rw [Option.bind_eq_some_iff] at h
    obtain ⟨e, h1, h2⟩ := h
    rw [Option.map_eq_some_iff] at h2
    obtain ⟨r, h3, _⟩ := h2
    intro x hx
    rcases List.mem_cons.mp hx with rfl | hx
    · exact noStar_E h1
    · exact noStar_Es h3 x hx
theorem cEs_len : ∀ {n : Nat} {xs : List Expr} {es : List E}, cEs I n xs = some es → es.length = xs.length
  | 0, _, _, h => by simp only [cEs] at h; cases h
  | n + 1, [], _, h => by simp only [cEs] at h; cases h; rfl
  | n + 1, a :: xs, es, h => by
    simp only [cEs] at h
    rw [Option.bind_eq_some_iff] at h
    obtain ⟨e, h1, h2⟩ := h
    rw [Option.map_eq_some_iff] at h2
    obtain ⟨r, h3, rfl⟩ := h2
    rw [List.length_cons, List.length_cons, cEs_len h3]
theorem cKs_len : ∀ {n : Nat} {xs : List Keyword} {es : List E}, cKs I n xs = some es → es.length = xs.length
  | 0, _, _, h => by simp only [cKs] at h; cases h
  | n + 1, [], _, h => by simp only [cKs] at h; cases h; rfl
  | n + 1, ⟨_, a, _⟩ :: xs, es, h => by
    simp only [cKs] at h
    rw [Option.bind_eq_some_iff] at h
    obtain ⟨e, h1, h2⟩ := h
    rw [Option.map_eq_some_iff] at h2
    obtain ⟨r, h3, rfl⟩ := h2
    rw [List.length_cons, List.length_cons, cKs_len h3]
theorem kw_facts {pos : Pos} {env : PySem.Env} : ∀ {kws : List Keyword} {ks : List Str}, kwNames kws = some ks →
    (backToKw pos (keywordEach kws env)).all (·.1.isSome) = true ∧ (backToKw pos (keywordEach kws env)).filterMap (·.1) = ks ∧ (backToKw pos (keywordEach kws env)).any (·.1.isNone) = false
  | [], ks, h => by simp only [kwNames] at h; cases h; exact ⟨rfl, rfl, rfl⟩
  | ⟨none, _, _⟩ :: r, ks, h => by simp only [kwNames] at h; cases h
  | ⟨some y, e, p⟩ :: r, ks, h => by
    simp only [kwNames, Option.map_eq_some_iff] at h
    obtain ⟨l, h1, rfl⟩ := h
    obtain ⟨a, b, d⟩ := kw_facts (pos := pos) (env := env) h1
    refine ⟨?_, ?_, ?_⟩
    · show (true && _) = true
      rw [Bool.true_and]; exact a
    · show y :: (backToKw pos (keywordEach r env)).filterMap (·.1) = y :: l
      rw [b]
    · show (false || _) = false
      rw [Bool.false_or]; exact d
/-- both readings -/
def Both (c : Cfg) (F : Fn) (X : Cx) (x : Expr) (e : E) : Prop := PE X x (SemE c F e) ∧ PT X x (SemT c F e)
/-- the plain test -/
theorem Both.plain {x : Expr} {e : E} (h : PE X x (SemE c F e)) (he : ∀ whole, isTrue x X.env whole = (do let v ← whole; standAt x.pos; holding [v] (truthy v))) : Both c F X x e := ⟨h, tst_val h he⟩
theorem tst_ite {t a b : Expr} {et ea eb : E} {pos : Pos} (ht : PT X t (SemT c F et)) (ha : PT X a (SemT c F ea)) (hb : PT X b (SemT c F eb)) : PT X (.IfExp t a b pos) (SemT c F (.ite et ea eb)) := by
  refine ⟨fun pins s σ H Q I ⟨w, S, env, bb, S', R, RE, hv, k⟩ => ?_⟩
  simp only [ev] at hv
  refine PyProof.Rows.isTrue_IfExp (thn (ht.run pins s σ H (fun kk H1 => if kk = true then SemT c F ea σ H1 Q else SemT c F eb σ H1 Q) I ?_) fun d s1 ⟨H1, I1, q1⟩ => ?_)
  · refine SemT.bind (k := fun kk S1 => match kk with | true => ev F ea env S1 | false => ev F eb env S1) R RE hv fun kk S1 w1 H1 le1 R1 RE1 h1 => ?_
    cases kk with
    | true => rw [if_pos rfl]; exact ⟨w1, S1, env, bb, S', R1, RE1, h1, fun w2 H2 le2 R2 => k w2 H2 (le1.trans le2) R2⟩
    | false => rw [if_neg (by decide)]; exact ⟨w1, S1, env, bb, S', R1, RE1, h1, fun w2 H2 le2 R2 => k w2 H2 (le1.trans le2) R2⟩
  · cases d with
    | true => exact ha.run pins s1 σ H1 Q I1 q1
    | false => exact hb.run pins s1 σ H1 Q I1 q1
end
section
variable (c : Cfg) (F : Fn)
/-- all that is read with fuel n keeps its reading -/
structure AllOk (n : Nat) : Prop where
  e : ∀ (I : Info) (x : Expr) (e : E), cE I n x = some e → ∀ X : Cx, Good c F I X → Both c F X x e
  es : ∀ (I : Info) (xs : List Expr) (es : List E), cEs I n xs = some es → ∀ X : Cx, Good c F I X → PA X xs (SemA c F es)
  ts : ∀ (I : Info) (xs : List Expr) (es : List E), cEs I n xs = some es → xs.length ≤ 1 → ∀ X : Cx, Good c F I X → PTs X xs (SemTs c F es)
  pr : ∀ (I : Info) (ks : List (Option Expr)) (vs : List Expr) (es : List E), cPairs I n ks vs = some es → ∀ (X : Cx) (pos : Pos), Good c F I X → PPs X pos ks vs (trsOf c F es)
  ks : ∀ (I : Info) (xs : List Keyword) (es : List E), cKs I n xs = some es → ∀ X : Cx, Good c F I X → PK X xs (SemA c F es)
  b : ∀ (I : Info) (op : PySem.BoolOp) (xs : List Expr) (e : E), cBool I n op xs = some e → ∀ (X : Cx) (pos : Pos), Good c F I X → PE X (.BoolOp op xs pos) (SemE c F e) ∧ PW X (.BoolOp op xs pos) (SemT c F e)
  cmp : ∀ (I : Info) (a : Expr) (ops : List CmpOp) (bs : List Expr) (e : E), cCmp I n a ops bs = some e → ∀ (X : Cx) (pos : Pos), Good c F I X → Both c F X (.Compare a ops bs pos) e
  sub : ∀ (I : Info) (a b : Expr) (e : E), cSub I n a b = some e → ∀ (X : Cx) (pos : Pos), Good c F I X → PE X (.Subscript a b pos) (SemE c F e)
  part : ∀ (I : Info) (o : Option Expr) (es : List E), cPart I n o = some es → ∀ X : Cx, Good c F I X → PO X o (SemP c F es)
  call : ∀ (I : Info) (f : Expr) (args : List Expr) (kws : List Keyword) (pos : Pos) (e : E), cCall I n f args kws pos = some e → ∀ X : Cx, Good c F I X → PE X (.Call f args kws pos) (SemE c F e)
  iter : ∀ (I : Info) (tg it : Expr) (k : IK) (es : List E), cIter I n tg it = some (k, es) → ∀ X : Cx, Good c F I X → PI X tg it (SemI c F k es) ∧ ∀ x, foldedSetIterable it X.env x = pure x
  comp : ∀ (I : Info) (elt : Expr) (gs : List Comprehension) (scope : Scope) (pos : Pos) (e : E), cComp I n elt gs scope pos = some e → ∀ X : Cx, Good c F I X → PE X (.ListComp elt gs scope pos) (SemE c F e) ∧ ∀ (i : Nat) (y : Str) (py spos : Pos), X.N[i]? = some y → X.env.scope.names.lookup y = some .local → swapsWith (.ListComp elt gs scope pos) (some (.Name y py)) spos.line X.env = pure true → PS X (.Assign [.Name y py] (.ListComp elt gs scope pos) spos) (tAsg (SemE c F e) (gName i))
  fs : ∀ (I : Info) (vs : List Expr) (es : List E), cFs I n vs = some es → ∀ X : Cx, Good c F I X → PJ X vs (es.map fun e => tFmt (SemE c F e))
  p : ∀ (I : Info) (tg : Expr) (p : P), cP I n tg = some p → ∀ X : Cx, Good c F I X → PG X tg (SemG c p)
  ps : ∀ (I : Info) (tgs : List Expr) (ps : List P), cPs I n tgs = some ps → ∀ X : Cx, Good c F I X → PGs X tgs (SemGs c ps) ∧ ps.length = tgs.length
theorem allOk_zero : AllOk c F 0 where
  e := fun I x e h => by cases x <;> simp only [cE] at h <;> cases h
  es := fun I x e h => by simp only [cEs] at h; cases h
  ts := fun I x e h => by simp only [cEs] at h; cases h
  pr := fun I x y e h => by simp only [cPairs] at h; cases h
  ks := fun I x e h => by simp only [cKs] at h; cases h
  b := fun I x y e h => by simp only [cBool] at h; cases h
  cmp := fun I x y z e h => by simp only [cCmp] at h; cases h
  sub := fun I x y e h => by simp only [cSub] at h; cases h
  part := fun I x e h => by simp only [cPart] at h; cases h
  call := fun I x y z w e h => by simp only [cCall] at h; cases h
  iter := fun I x y z e h => by simp only [cIter] at h; cases h
  comp := fun I x y z w e h => by simp only [cComp] at h; cases h
  fs := fun I x e h => by simp only [cFs] at h; cases h
  p := fun I x e h => by simp only [cP] at h; cases h
  ps := fun I x e h => by simp only [cPs] at h; cases h
end
section
variable {c : Cfg} {F : Fn} {n : Nat}
theorem ob {α β : Type} {o : Option α} {f : α → Option β} {b : β} (h : o.bind f = some b) : ∃ a, o = some a ∧ f a = some b := Option.bind_eq_some_iff.mp h
theorem om {α β : Type} {o : Option α} {f : α → β} {b : β} (h : o.map f = some b) : ∃ a, o = some a ∧ f a = b := Option.map_eq_some_iff.mp h
theorem ok_name {I : Info} {y : Str} {p : Pos} {e : E} (h : cName I y = some e) {X : Cx} (G : Good c F I X) : Both c F X (.Name y p) e := by
  refine .plain ?_ (fun _ => rfl)
  unfold cName at h
  split at h
  · rename_i i hi
    cases h
    obtain ⟨h1, h2, h3, h4⟩ := slot_ok G hi
    exact sem_var (pe_var h1 h2 h3 h4)
  · split at h
    · rename_i hg
      obtain ⟨g1, g2⟩ := gl_ok G hg
      split at h
      · rename_i d hd
        cases h
        obtain ⟨v, u, m1, m2, m3⟩ := G.gc _ _ hd
        exact sem_con (pe_glob g1 m1 m2 g2) m3
      · split at h
        · rename_i hb
          obtain ⟨t, h1, rfl⟩ := om h
          obtain ⟨h2, h3⟩ := tyName_ok h1
          refine sem_con (v := .ty t) (pe_bltn g1 (G.bf _ hb) h3 rfl ?_ g2) fun w => by simp only [RelD]
          rw [h2]
          have := List.mem_of_find?_eq_some (show tyNames.find? _ = some t from h1)
          simp only [tyNames, List.mem_cons, List.not_mem_nil, or_false] at this
          rcases this with rfl | rfl | rfl | rfl | rfl | rfl <;> decide +kernel
        · cases h
    · cases h
theorem ok_const {k : Const} {j : Nat} {p : Pos} {e : E} (h : cConst k = some e) {X : Cx} : Both c F X (.Constant k j p) e := by
  refine .plain ?_ (fun _ => rfl)
  cases k <;> simp only [cConst] at h <;> cases h
  · exact sem_con pe_non fun w => by simp only [RelD]
  · exact sem_con pe_bl fun w => by simp only [RelD]
  · exact sem_con pe_int fun w => by simp only [RelD]
  · exact sem_con pe_str fun w => by simp only [RelD]
theorem ok_e (A : AllOk c F n) (I : Info) (x : Expr) (e : E) (h : cE I (n + 1) x = some e) (X : Cx) (G : Good c F I X) : Both c F X x e := by
  cases x <;> (try simp only [cE] at h) <;> try (cases h; done)
  case Name y p => exact ok_name h G
  case Attribute v f p =>
    split at h
    · rename_i hr
      obtain ⟨x, h1, rfl⟩ := om h
      exact .plain (sem_xfld (A.e I _ x h1 X G).1 (recv_ok hr) fun k hk => fld_ok G hk G.xn) (fun _ => rfl)
    · cases h
  case Constant k j p => exact ok_const h
  case JoinedStr vs p =>
    split at h
    · rename_i hl
      obtain ⟨l, h1, rfl⟩ := om h
      match vs, hl, h1 with
      | v1 :: v2 :: rest, _, h1 => exact .plain (sem_fstr (A.fs I _ l h1 X G)) (fun _ => rfl)
    · cases h
  case Tuple es k p =>
    obtain ⟨l, h1, rfl⟩ := om h
    exact .plain (sem_tup (A.es I es l h1 X G)) (fun _ => rfl)
  case List es p =>
    obtain ⟨l, h1, rfl⟩ := om h
    refine .plain ?_ (fun _ => rfl)
    split
    · exact sem_nlst (A.es I es l h1 X G)
    · exact sem_lst (A.es I es l h1 X G)
  case BinOp a op b p =>
    refine .plain ?_ (fun _ => rfl)
    split at h
    · cases op <;> simp only at h <;> try (cases h; done)
      obtain ⟨x, h2, h⟩ := ob h
      obtain ⟨y, h3, rfl⟩ := om h
      exact sem_nadd (A.e I a x h2 X G).1 (A.e I b y h3 X G).1
    · obtain ⟨o, h1, h⟩ := ob h
      obtain ⟨x, h2, h⟩ := ob h
      obtain ⟨y, h3, rfl⟩ := om h
      rw [← bopOf_ok h1]
      exact sem_bin G.K (A.e I a x h2 X G).1 (A.e I b y h3 X G).1
  case Dict keys values p =>
    split at h
    · rename_i hc
      rw [Bool.and_eq_true] at hc
      have k1 := List.isEmpty_iff.mp hc.1
      have k2 := List.isEmpty_iff.mp hc.2
      subst k1 k2
      split at h
      · cases h
      · cases h
        exact .plain sem_edict (fun _ => rfl)
    split at h
    · rename_i hc
      simp only [Bool.and_eq_true, decide_eq_true_iff, Bool.not_eq_true'] at hc
      obtain ⟨⟨⟨c1, c2⟩, c3⟩, c4⟩ := hc
      obtain ⟨l, h1, rfl⟩ := om h
      split
      · exact .plain (sem_ndict (A.pr I keys values l h1 X p G) c1 c2 (fun z => by rw [z] at c3; cases c3) c4) (fun _ => rfl)
      · exact .plain (sem_fdict (A.pr I keys values l h1 X p G) c1 c2 (fun z => by rw [z] at c3; cases c3) c4) (fun _ => rfl)
    · cases h
  case UnaryOp op a p =>
    cases op <;> simp only at h <;> try (cases h; done)
    · obtain ⟨x, h1, rfl⟩ := om h
      exact ⟨sem_not (A.e I a x h1 X G).1, tst_not (A.e I a x h1 X G).2⟩
    · obtain ⟨x, h1, rfl⟩ := om h
      exact .plain (sem_neg (A.e I a x h1 X G).1) (fun _ => rfl)
  case Compare a ops bs p => exact A.cmp I a ops bs e h X p G
  case BoolOp op es p =>
    obtain ⟨h1, h2⟩ := A.b I op es e h X p G
    exact ⟨h1, h2.pt⟩
  case IfExp t a b p =>
    obtain ⟨x, h1, h⟩ := ob h
    obtain ⟨y, h2, h⟩ := ob h
    obtain ⟨z, h3, rfl⟩ := om h
    exact ⟨sem_ite (A.e I t x h1 X G).2 (A.e I a y h2 X G).1 (A.e I b z h3 X G).1, tst_ite (A.e I t x h1 X G).2 (A.e I a y h2 X G).2 (A.e I b z h3 X G).2⟩
  case Subscript a b p => exact .plain (A.sub I a b e h X p G) (fun _ => rfl)
  case Call f args kws p => exact .plain (A.call I f args kws p e h X G) (fun _ => rfl)
  case ListComp elt gs scope p => exact .plain (A.comp I elt gs scope p e h X G).1 (fun _ => rfl)
theorem ok_es (A : AllOk c F n) (I : Info) (xs : List Expr) (es : List E) (h : cEs I (n + 1) xs = some es) (X : Cx) (G : Good c F I X) : PA X xs (SemA c F es) := by
  cases xs with
  | nil => simp only [cEs] at h; cases h; exact sem_nil
  | cons a xs =>
    have hs := noStar_Es h
    simp only [cEs] at h
    obtain ⟨x, h1, h⟩ := ob h
    obtain ⟨l, h2, rfl⟩ := om h
    exact sem_cons (A.e I a x h1 X G).1 (A.es I xs l h2 X G) (star_cons (hs a List.mem_cons_self))
theorem ok_pr (A : AllOk c F n) (I : Info) (ks : List (Option Expr)) (vs : List Expr) (es : List E) (h : cPairs I (n + 1) ks vs = some es) (X : Cx) (pos : Pos) (G : Good c F I X) : PPs X pos ks vs (trsOf c F es) := by
  match ks, vs, h with
  | [], [], h => simp only [cPairs] at h; cases h; exact pps_nil
  | some k :: ks, v :: vs, h =>
    simp only [cPairs] at h
    obtain ⟨x, h1, h⟩ := ob h
    obtain ⟨y, h2, h⟩ := ob h
    obtain ⟨l, h3, rfl⟩ := om h
    exact pps_cons (A.e I k x h1 X G).1 (A.e I v y h2 X G).1 (A.pr I ks vs l h3 X pos G)
  | none :: ks, v :: vs, h => simp only [cPairs] at h; cases h
  | [], _ :: _, h => simp only [cPairs] at h; cases h
  | _ :: _, [], h => simp only [cPairs] at h; cases h
theorem ok_ks (A : AllOk c F n) (I : Info) (xs : List Keyword) (es : List E) (h : cKs I (n + 1) xs = some es) (X : Cx) (G : Good c F I X) : PK X xs (SemA c F es) := by
  cases xs with
  | nil => simp only [cKs] at h; cases h; exact sem_knil
  | cons a xs =>
    obtain ⟨nm, ex, p⟩ := a
    simp only [cKs] at h
    obtain ⟨x, h1, h⟩ := ob h
    obtain ⟨l, h2, rfl⟩ := om h
    exact sem_kcons (A.e I ex x h1 X G).1 (A.ks I xs l h2 X G)
theorem ok_b (A : AllOk c F n) (I : Info) (op : PySem.BoolOp) (xs : List Expr) (e : E) (h : cBool I (n + 1) op xs = some e) (X : Cx) (pos : Pos) (G : Good c F I X) : PE X (.BoolOp op xs pos) (SemE c F e) ∧ PW X (.BoolOp op xs pos) (SemT c F e) := by
  match xs, h with
  | [a], h =>
    simp only [cBool] at h
    obtain ⟨h1, h2⟩ := A.e I a e h X G
    refine ⟨pe_one h1, ?_⟩
    cases op
    · exact pw_and1 h2
    · exact pw_or1 h2
  | a :: b :: es, h =>
    simp only [cBool] at h
    obtain ⟨x, h1, h⟩ := ob h
    obtain ⟨y, h2, h⟩ := om h
    obtain ⟨a1, a2⟩ := A.e I a x h1 X G
    obtain ⟨b1, b2⟩ := A.b I op (b :: es) y h2 X pos G
    cases op
    · simp only at h
      subst h
      exact ⟨sem_and a1 b1, tst_and (tb := fun _ _ _ => True) a2 b2⟩
    · simp only at h
      subst h
      exact ⟨sem_or a1 b1, tst_or a2 b2⟩
  | [], h => simp only [cBool] at h; cases h
theorem dict_ok {I : Info} {b : Expr} {kvs : List (Str × D)} (h : dictOf I b = some kvs) {X : Cx} (G : Good c F I X) : ∃ ad, KD c X ad kvs ∧ PE X b (tC (.ref ad)) ∧ ∀ op, behindInMarks op b = false := by
  cases b <;> simp only [dictOf] at h <;> try (cases h; done)
  rename_i y p
  split at h
  · rename_i hg
    obtain ⟨g1, g2⟩ := gl_ok G hg
    obtain ⟨ad, m1, m2⟩ := G.gd _ _ h
    exact ⟨ad, m2, pe_glob g1 m1 rfl g2, fun _ => rfl⟩
  · cases h
end
end MP

/-! MP9b: the steps of AllOk. -/
namespace MP
open PySem L2
section
variable {c : Cfg} {F : Fn} {X : Cx} {ea : E} {a e : Expr} {pos : Pos}
theorem cin_imp {kvs : List (Str × D)} {ad : Addr} (D : KD c X ad kvs) {σ : St} {H : Hp} {Q : VK} (h : SemE c F (.cin false kvs ea) σ H Q) :
    tOp (fun x y H Q => ∃ (z : Str) (r : Option Value), x = .str z ∧ y = .ref ad ∧ PySem.W.nsIn X.K ad z = some r ∧ Q (.bl r.isSome) H) (SemE c F ea) (tC (.ref ad)) σ H Q := by
  obtain ⟨w, S, env, d, S', R, RE, hv, k⟩ := h
  simp only [ev] at hv
  refine SemE.bind (es := ea) R RE hv fun d1 S1 w1 H1 v1 le1 R1 r1 RE1 h1 => ?_
  cases d1 <;> (try simp only at h1) <;> try (cases h1; done)
  rename_i z
  simp only [RelD] at r1
  obtain ⟨r, h2, h3⟩ := D.get z
  have k' := k w1 H1 (.bl r.isSome) le1
  cases q : lookS z kvs with
  | none =>
    rw [q] at h3 h1
    cases h1
    rw [show r = none from h3] at h2 k'
    exact ⟨z, none, r1, rfl, h2, k' R1 (by simp only [RelD]; rfl)⟩
  | some dd =>
    rw [q] at h3 h1
    obtain ⟨u, v, h3, _⟩ := h3
    cases h1
    rw [h3] at h2 k'
    exact ⟨z, some u, r1, rfl, h2, k' R1 (by simp only [RelD]; rfl)⟩
theorem cnin_imp {kvs : List (Str × D)} {ad : Addr} (D : KD c X ad kvs) {σ : St} {H : Hp} {Q : VK} (h : SemE c F (.cin true kvs ea) σ H Q) :
    tOp (fun x y H Q => ∃ (z : Str) (r : Option Value), x = .str z ∧ y = .ref ad ∧ PySem.W.nsIn X.K ad z = some r ∧ Q (.bl (!r.isSome)) H) (SemE c F ea) (tC (.ref ad)) σ H Q := by
  obtain ⟨w, S, env, d, S', R, RE, hv, k⟩ := h
  simp only [ev] at hv
  refine SemE.bind (es := ea) R RE hv fun d1 S1 w1 H1 v1 le1 R1 r1 RE1 h1 => ?_
  cases d1 <;> (try simp only at h1) <;> try (cases h1; done)
  rename_i z
  simp only [RelD] at r1
  obtain ⟨r, h2, h3⟩ := D.get z
  have k' := k w1 H1 (.bl (!r.isSome)) le1
  cases q : lookS z kvs with
  | none =>
    rw [q] at h3 h1
    cases h1
    rw [show r = none from h3] at h2 k'
    exact ⟨z, none, r1, rfl, h2, k' R1 (by simp only [RelD]; rfl)⟩
  | some dd =>
    rw [q] at h3 h1
    obtain ⟨u, v, h3, _⟩ := h3
    cases h1
    rw [h3] at h2 k'
    exact ⟨z, some u, r1, rfl, h2, k' R1 (by simp only [RelD]; rfl)⟩
theorem both_cin {kvs : List (Str × D)} {ad : Addr} (D : KD c X ad kvs) (ha : PE X a (SemE c F ea)) (hd : PE X e (tC (.ref ad))) (hm : behindInMarks .In e = false) : Both c F X (.Compare a [.In] [e] pos) (.cin false kvs ea) := by
  obtain ⟨es, n, K⟩ := D.dict
  exact ⟨PE.imp (pe_cmpR (op_in_kd K) ha hd hm) fun σ H Q h => cin_imp D h, PT.imp (pt_cmpR (op_in_kd K) ha hd hm) fun σ H Q h => cin_imp D (SemE.test h)⟩
theorem both_cnin {kvs : List (Str × D)} {ad : Addr} (D : KD c X ad kvs) (ha : PE X a (SemE c F ea)) (hd : PE X e (tC (.ref ad))) (hm : behindInMarks .NotIn e = false) : Both c F X (.Compare a [.NotIn] [e] pos) (.cin true kvs ea) := by
  obtain ⟨es, n, K⟩ := D.dict
  exact ⟨PE.imp (pe_cmpR (op_notIn_kd K) ha hd hm) fun σ H Q h => cnin_imp D h, PT.imp (pt_cmpR (op_notIn_kd K) ha hd hm) fun σ H Q h => cnin_imp D (SemE.test h)⟩
theorem tgt_consG {x : Expr} {xs : List Expr} {p : P} {ps : List P} (h : PGs X (x :: xs) (gCons (SemG c p) (SemGs c ps))) : PGs X (x :: xs) (SemGs c (p :: ps)) :=
  PGs.imp h fun vs σ H Q ⟨w, S, env, ds, env', R, RE, rd, hb, k⟩ => by
    cases ds with
    | nil => simp only [bindPs] at hb; cases hb
    | cons d ds =>
      obtain ⟨v, r, rfl, r1, r2⟩ := rd.cons_inv
      simp only [bindPs] at hb
      cases q : bindP p d env with
      | none => rw [q] at hb; cases hb
      | some env1 =>
        rw [q] at hb
        simp only [Option.bind_some] at hb
        refine ⟨v, r, rfl, w, S, env, d, env1, R, RE, r1, q, fun w1 σ1 H1 g1 R1 RE1 n1 => ⟨w1, S, env1, ds, env', R1, RE1, r2.mono g1.le, hb, fun w2 σ2 H2 g2 R2 RE2 n2 => k w2 σ2 H2 (g1.trans g2) R2 RE2 fun j hj => ?_⟩⟩
        simp only [slotsPs, List.mem_append, not_or] at hj
        rw [n2 j hj.2, n1 j hj.1]
theorem ae_len : ∀ {es : List Expr} {env : PySem.Env}, (assignEach es env).length = es.length
  | [], _ => rfl
  | e :: es, env => by
    cases e <;> exact congrArg (· + 1) ae_len
theorem ae_star : ∀ {es : List Expr} {env : PySem.Env}, (assignEach es env).findIdx? (·.1) = starAt es
  | [], _ => rfl
  | e :: es, env => by
    have ih := ae_star (es := es) (env := env)
    cases e <;> first
      | (show ((true, _) :: assignEach es env).findIdx? (·.1) = some 0
         rw [List.findIdx?_cons]; rfl)
      | (show ((false, _) :: assignEach es env).findIdx? (·.1) = (starAt es).map (· + 1)
         rw [List.findIdx?_cons, ← ih]; rfl)
end
section
variable {c : Cfg} {F : Fn} {n : Nat}
theorem ok_cmp (A : AllOk c F n) (I : Info) (a : Expr) (ops : List CmpOp) (bs : List Expr) (e : E) (h : cCmp I (n + 1) a ops bs = some e) (X : Cx) (pos : Pos) (G : Good c F I X) : Both c F X (.Compare a ops bs pos) e := by
  match ops, bs, h with
  | [op], [b], h =>
    simp only [cCmp] at h
    split at h
    · rename_i kvs hd
      obtain ⟨ad, K, hb, hm⟩ := dict_ok hd G
      split at h
      · obtain ⟨x, h1, rfl⟩ := om h
        exact both_cin K (A.e I a x h1 X G).1 hb (hm _)
      · obtain ⟨x, h1, rfl⟩ := om h
        exact both_cnin K (A.e I a x h1 X G).1 hb (hm _)
      · cases h
    · split at h
      · cases h
      · rename_i hm
        obtain ⟨o, h1, h⟩ := ob h
        obtain ⟨x, h2, h⟩ := ob h
        obtain ⟨y, h3, rfl⟩ := om h
        have ho := ccOf_ok h1
        subst ho
        have hm' := Bool.eq_false_iff.mpr hm
        exact ⟨sem_cmp G.K G.hu (A.e I a x h2 X G).1 (A.e I b y h3 X G).1 hm', tst_cmp G.K G.hu (A.e I a x h2 X G).1 (A.e I b y h3 X G).1 hm'⟩
  | [op, op'], [b, cc], h =>
    simp only [cCmp] at h
    split at h
    · cases h
    · rename_i hm
      obtain ⟨o, h1, h⟩ := ob h
      obtain ⟨o', h1', h⟩ := ob h
      obtain ⟨x, h2, h⟩ := ob h
      obtain ⟨y, h3, h⟩ := ob h
      obtain ⟨z, h4, rfl⟩ := om h
      have ho := ccOf_ok h1
      subst ho
      have ho' := ccOf_ok h1'
      subst ho'
      have hm' := Bool.eq_false_iff.mpr hm
      exact ⟨sem_chain G.K G.hu (A.e I a x h2 X G).1 (A.e I b y h3 X G).1 (A.e I cc z h4 X G).1 hm', tst_chain G.K G.hu (A.e I a x h2 X G).1 (A.e I b y h3 X G).1 (A.e I cc z h4 X G).1 hm'⟩
  | [], [], h => simp only [cCmp] at h; cases h
  | [], _ :: _, h => simp only [cCmp] at h; cases h
  | [_], [], h => simp only [cCmp] at h; cases h
  | [_], _ :: _ :: _, h => simp only [cCmp] at h; cases h
  | [_, _], [], h => simp only [cCmp] at h; cases h
  | [_, _], [_], h => simp only [cCmp] at h; cases h
  | [_, _], _ :: _ :: _ :: _, h => simp only [cCmp] at h; cases h
  | _ :: _ :: _ :: _, _, h => simp only [cCmp] at h; cases h
theorem ok_sub (A : AllOk c F n) (I : Info) (a b : Expr) (e : E) (h : cSub I (n + 1) a b = some e) (X : Cx) (pos : Pos) (G : Good c F I X) : PE X (.Subscript a b pos) (SemE c F e) := by
  by_cases hsl : isSlice b = false
  · have hb := ix_plain hsl
    have h' : (match dictOf I a with
      | some kvs => (cE I n b).map (.cget kvs)
      | none => (cE I n a).bind fun x => (cE I n b).map fun y => .ix x y) = some e := by
      cases b <;> first | (simp only [cSub] at h; exact h) | cases hsl
    clear h
    split at h'
    · rename_i kvs hd
      obtain ⟨ad, K, ha, hm⟩ := dict_ok hd G
      obtain ⟨x, h1, rfl⟩ := om h'
      exact sem_cget K (A.e I b x h1 X G).1 ha hb
    · obtain ⟨x, h1, h⟩ := ob h'
      obtain ⟨y, h2, rfl⟩ := om h
      exact sem_ix G.K G.hu (A.e I a x h1 X G).1 (A.e I b y h2 X G).1 hb
  · cases b <;> try exact absurd rfl hsl
    rename_i lo hi st p2
    simp only [cSub] at h
    split at h
    · obtain ⟨x, h1, rfl⟩ := om h
      exact sem_rev G.K (A.e I a x h1 X G).1
    · obtain ⟨x, h1, h⟩ := ob h
      obtain ⟨l, h2, h⟩ := ob h
      obtain ⟨u, h3, rfl⟩ := om h
      exact sem_sl G.K (A.e I a x h1 X G).1 (A.part I _ l h2 X G) (A.part I _ u h3 X G)
    · cases h
theorem ok_part (A : AllOk c F n) (I : Info) (o : Option Expr) (es : List E) (h : cPart I (n + 1) o = some es) (X : Cx) (G : Good c F I X) : PO X o (SemP c F es) := by
  cases o with
  | none => simp only [cPart] at h; cases h; exact part_none
  | some x =>
    simp only [cPart] at h
    obtain ⟨y, h1, rfl⟩ := om h
    exact part_some (A.e I x y h1 X G).1
theorem ok_p (A : AllOk c F n) (I : Info) (tg : Expr) (p : P) (h : cP I (n + 1) tg = some p) (X : Cx) (G : Good c F I X) : PG X tg (SemG c p) := by
  cases tg <;> try (simp only [cP] at h; cases h; done)
  case Name y pp =>
    simp only [cP] at h
    obtain ⟨i, h1, h⟩ := ob h
    split at h
    · rename_i hl
      cases h
      obtain ⟨g1, g2, _, _⟩ := slot_ok G h1
      simp only [Bool.or_eq_true, Bool.and_eq_true, decide_eq_true_iff] at hl
      have hs := G.sc
      rcases hl with hl | ⟨ht, hl⟩
      · have hl' : X.env.scope.names.lookup y = some .local := by rw [hs]; exact hl
        exact tgt_name (pg_name G.nd g1 (.inl hl') (.inr hl'))
      · have hl' : X.env.scope.names.lookup y = some .cell := by rw [hs]; exact hl
        exact tgt_name (pg_name G.nd g1 (.inr hl') (.inl (G.topf ht y)))
    · cases h
  case Tuple es k pp =>
    simp only [cP] at h
    split at h
    · rename_i hs
      obtain ⟨ps, h1, rfl⟩ := om h
      obtain ⟨g1, g2⟩ := A.ps I es ps h1 X G
      exact tgt_tup G.K G.calm g1 ae_len g2 (by rw [ae_star, hs])
    · rename_i i hs
      split at h
      · rename_i hi
        obtain ⟨ps, h1, rfl⟩ := om h
        obtain ⟨g1, g2⟩ := A.ps I es ps h1 X G
        exact tgt_star G.K G.calm g1 ae_len g2 (by rw [ae_star, hs]) hi
      · cases h
theorem ok_ps (A : AllOk c F n) (I : Info) (tgs : List Expr) (ps : List P) (h : cPs I (n + 1) tgs = some ps) (X : Cx) (G : Good c F I X) : PGs X tgs (SemGs c ps) ∧ ps.length = tgs.length := by
  cases tgs with
  | nil => simp only [cPs] at h; cases h; exact ⟨tgt_nil, rfl⟩
  | cons t ts =>
    simp only [cPs] at h
    obtain ⟨p, h1, h⟩ := ob h
    obtain ⟨qs, h2, rfl⟩ := om h
    obtain ⟨g1, g2⟩ := A.ps I ts qs h2 X G
    have g0 := A.p I _ p h1 X G
    refine ⟨?_, congrArg (· + 1) g2⟩
    cases t
    case Starred e sp => exact tgt_consG (MPS.pgs_starred g0 g1)
    all_goals exact tgt_cons g0 g1 rfl
theorem ok_ts (A : AllOk c F n) (I : Info) (xs : List Expr) (es : List E) (h : cEs I (n + 1) xs = some es) (hl : xs.length ≤ 1) (X : Cx) (G : Good c F I X) : PTs X xs (SemTs c F es) := by
  match xs, h, hl with
  | [], h, _ => simp only [cEs] at h; cases h; exact tsts_none
  | [t], h, _ =>
    simp only [cEs] at h
    obtain ⟨x, h1, h⟩ := ob h
    obtain ⟨l, h2, rfl⟩ := om h
    cases n with
    | zero => simp only [cEs] at h2; cases h2
    | succ m =>
      simp only [cEs] at h2; cases h2
      exact tsts_one (A.e I t x h1 X G).2
  | _ :: _ :: _, _, hl => simp only [List.length_cons] at hl; omega
theorem gl_iter {I : Info} {y : Str} {k : IK} (h : iterName I y = some k) {X : Cx} (G : Good c F I X) : Gl X y ∧ X.mg y = none ∧ (k = .range ∧ y = ("range" : Str) ∨ k = .zip ∧ y = ("zip" : Str) ∨ k = .enum ∧ y = ("enumerate" : Str)) := by
  unfold iterName at h
  split at h
  · rename_i hg
    simp only [Bool.and_eq_true] at hg
    obtain ⟨⟨hg, hb⟩, _⟩ := hg
    refine ⟨(gl_ok G hg).1, G.bf _ hb, ?_⟩
    split at h
    · rename_i e; cases h; exact .inl ⟨rfl, e⟩
    · split at h
      · rename_i e; cases h; exact .inr (.inl ⟨rfl, e⟩)
      · split at h
        · rename_i e; cases h; exact .inr (.inr ⟨rfl, e⟩)
        · cases h
  · cases h
theorem two_of {α : Type} {l : List α} (h : l.length = 2) : ∃ a b, l = [a, b] := by
  match l, h with
  | [a, b], _ => exact ⟨a, b, rfl⟩
theorem one_of {α : Type} {l : List α} (h : l.length = 1) : ∃ a, l = [a] := by
  match l, h with
  | [a], _ => exact ⟨a, rfl⟩
theorem pure_set {e : Expr} (h : isSet e = false) {env : PySem.Env} (x : Value) : foldedSetIterable e env x = pure x := by
  cases e <;> first | rfl | cases h
theorem ok_iter (A : AllOk c F n) (I : Info) (tg it : Expr) (k : IK) (es : List E) (h : cIter I (n + 1) tg it = some (k, es)) (X : Cx) (G : Good c F I X) : PI X tg it (SemI c F k es) ∧ ∀ x, foldedSetIterable it X.env x = pure x := by
  by_cases hc : ∃ y p args kws pos, it = .Call (.Name y p) args kws pos
  · obtain ⟨y, p, args, kws, pos, rfl⟩ := hc
    refine ⟨?_, fun _ => rfl⟩
    simp only [cIter] at h
    split at h
    · obtain ⟨xs, h1, h⟩ := om h
      cases h
      obtain ⟨g1, g2, g3⟩ := gl_iter ‹iterName I y = some IK.range› G
      rcases g3 with ⟨_, rfl⟩ | ⟨e, _⟩ | ⟨e, _⟩
      · obtain ⟨x, rfl⟩ := one_of (cEs_len h1)
        exact sem_range1 g1 g2 (A.es I _ _ h1 X G) (star_cons (noStar_Es h1 _ List.mem_cons_self))
      · cases e
      · cases e
    · obtain ⟨xs, h1, h⟩ := om h
      cases h
      obtain ⟨g1, g2, g3⟩ := gl_iter ‹iterName I y = some IK.range› G
      rcases g3 with ⟨_, rfl⟩ | ⟨e, _⟩ | ⟨e, _⟩
      · obtain ⟨x, y, rfl⟩ := two_of (cEs_len h1)
        have s2 := star_cons (es := []) (env := X.env) (noStar_Es h1 _ (List.mem_cons_of_mem _ List.mem_cons_self))
        refine sem_range2 g1 g2 (A.es I _ _ h1 X G) ?_ s2
        rw [star_cons (noStar_Es h1 _ List.mem_cons_self), s2]; rfl
      · cases e
      · cases e
    · obtain ⟨xs, h1, h⟩ := om h
      cases h
      obtain ⟨g1, g2, g3⟩ := gl_iter ‹iterName I y = some IK.zip› G
      rcases g3 with ⟨e, _⟩ | ⟨_, rfl⟩ | ⟨e, _⟩
      · cases e
      · obtain ⟨x, y, rfl⟩ := two_of (cEs_len h1)
        exact sem_zip G.K g1 g2 (A.es I _ _ h1 X G) (star_cons (noStar_Es h1 _ List.mem_cons_self)) (star_any fun e' he' => noStar_Es h1 e' (List.mem_cons_of_mem _ he'))
      · cases e
    · obtain ⟨xs, h1, h⟩ := om h
      cases h
      obtain ⟨g1, g2, g3⟩ := gl_iter ‹iterName I y = some IK.enum› G
      rcases g3 with ⟨e, _⟩ | ⟨e, _⟩ | ⟨_, rfl⟩
      · cases e
      · cases e
      · obtain ⟨x, rfl⟩ := one_of (cEs_len h1)
        exact sem_enum G.K g1 g2 (A.es I _ _ h1 X G) (star_cons (noStar_Es h1 _ List.mem_cons_self))
    · cases h
    · obtain ⟨x, h1, h⟩ := om h
      cases h
      exact sem_seq G.K (A.e I _ x h1 X G).1
  · have h' : (if isSet it then none else (cE I n it).map fun x => (IK.seq, [x])) = some (k, es) := by
      cases it <;> try (simp only [cIter] at h; exact h)
      rename_i f args kws pos
      cases f <;> try (simp only [cIter] at h; exact h)
      exact absurd ⟨_, _, _, _, _, rfl⟩ hc
    split at h'
    · cases h'
    · rename_i hs
      obtain ⟨x, h1, h⟩ := om h'
      cases h
      exact ⟨sem_seq G.K (A.e I _ x h1 X G).1, pure_set (Bool.eq_false_iff.mpr hs)⟩
theorem ok_fs (A : AllOk c F n) (I : Info) (vs : List Expr) (es : List E) (h : cFs I (n + 1) vs = some es) (X : Cx) (G : Good c F I X) : PJ X vs (es.map fun e => tFmt (SemE c F e)) := by
  cases vs with
  | nil => simp only [cFs] at h; cases h; exact .nil
  | cons v vs =>
    simp only [cFs] at h
    obtain ⟨x, h1, h⟩ := ob h
    obtain ⟨xs, h2, rfl⟩ := om h
    refine .cons ?_ (A.fs I vs xs h2 X G)
    split at h1
    · cases h1
      refine PE.imp pe_str fun σ H Q ⟨w, S, env, d, S', R, RE, hv, k⟩ => ?_
      simp only [ev] at hv
      cases hv
      rcases k w H (.str _) Go.refl R (by simp only [RelD]; rfl) with ⟨y, e, _, q⟩ | ⟨i, e, _⟩
      · cases e; exact q
      · cases e
    · exact pe_fmt (A.e I _ x h1 X G).1
    · cases h1
theorem ok_comp (A : AllOk c F n) (I : Info) (elt : Expr) (gs : List Comprehension) (scope : Scope) (pos : Pos) (e : E) (h : cComp I (n + 1) elt gs scope pos = some e) (X : Cx) (G : Good c F I X) : PE X (.ListComp elt gs scope pos) (SemE c F e) ∧ ∀ (i : Nat) (y : Str) (py spos : Pos), X.N[i]? = some y → X.env.scope.names.lookup y = some .local → swapsWith (.ListComp elt gs scope pos) (some (.Name y py)) spos.line X.env = pure true → PS X (.Assign [.Name y py] (.ListComp elt gs scope pos) spos) (tAsg (SemE c F e) (gName i)) := by
  simp only [cComp] at h
  split at h
  · rename_i tg iter ifs asy
    split at h
    case isFalse => cases h
    rename_i h0
    subst h0
    split at h
    · rename_i hlive
      obtain ⟨p, h1, h⟩ := ob h
      obtain ⟨it, h2, h⟩ := ob h
      obtain ⟨cs, h3, h⟩ := ob h
      obtain ⟨x, h4, h⟩ := ob h
      split at h
      · rename_i hb
        cases h
        simp only [Bool.and_eq_true, decide_eq_true_iff] at hb
        obtain ⟨hb, hl⟩ := hb
        have i1 : PI X tg iter (SemIL c F it) := sem_seqL G.K (A.e I iter it h2 X G).1
        have i2 : ∀ x, foldedSetIterable iter X.env x = pure x := by
          intro x
          cases iter <;> first | rfl | cases hlive
        have B := blkOk_by hb
        rw [← G.N, ← G.sc] at B
        have hg := fun (s : Shared) (H : Hp) (C : Addr) (cl : List (Str × Addr)) (fp : List Addr) => A.p _ tg p h1 _ (G.blk s H scope C cl fp)
        have ht := fun (s : Shared) (H : Hp) (C : Addr) (cl : List (Str × Addr)) (fp : List Addr) => A.ts _ ifs cs h3 hl _ (G.blk s H scope C cl fp)
        have he := fun (s : Shared) (H : Hp) (C : Addr) (cl : List (Str × Addr)) (fp : List Addr) => (A.e _ elt x h4 _ (G.blk s H scope C cl fp)).1
        have how : ((slotsP p).map fun i => (X.N.getD i Str.empty, i)).map (·.2) = slotsP p := by
          rw [List.map_map]
          exact List.map_id' _
        refine ⟨sem_compL G.calm G.nd i1 B hg ht he i2 how, fun i y py spos hy hyl hsw => ?_⟩
        have q := ps_setLc (i := i) (spos := spos) G.calm G.nd hy hyl hsw i1 B hg ht he i2
        rw [how] at q
        exact PS.imp q fun D σ H h => comp_impL h
      · cases h
    obtain ⟨p, h1, h⟩ := ob h
    obtain ⟨⟨k, its⟩, h2, h⟩ := ob h
    obtain ⟨cs, h3, h⟩ := ob h
    obtain ⟨x, h4, h⟩ := ob h
    split at h
    · rename_i hb
      cases h
      simp only [Bool.and_eq_true, decide_eq_true_iff] at hb
      obtain ⟨hb, hl⟩ := hb
      obtain ⟨i1, i2⟩ := A.iter I tg iter k its h2 X G
      have B := blkOk_by hb
      rw [← G.N, ← G.sc] at B
      have hg := fun (s : Shared) (H : Hp) (C : Addr) (cl : List (Str × Addr)) (fp : List Addr) => A.p _ tg p h1 _ (G.blk s H scope C cl fp)
      have ht := fun (s : Shared) (H : Hp) (C : Addr) (cl : List (Str × Addr)) (fp : List Addr) => A.ts _ ifs cs h3 hl _ (G.blk s H scope C cl fp)
      have he := fun (s : Shared) (H : Hp) (C : Addr) (cl : List (Str × Addr)) (fp : List Addr) => (A.e _ elt x h4 _ (G.blk s H scope C cl fp)).1
      have how : ((slotsP p).map fun i => (X.N.getD i Str.empty, i)).map (·.2) = slotsP p := by
        rw [List.map_map]
        exact List.map_id' _
      refine ⟨sem_comp G.calm G.nd i1 B hg ht he i2 how, fun i y py spos hy hyl hsw => ?_⟩
      have q := ps_setLc (i := i) (spos := spos) G.calm G.nd hy hyl hsw i1 B hg ht he i2
      rw [how] at q
      exact PS.imp q fun D σ H h => comp_imp h
    · cases h
  · cases h
end
end MP

/-! MP9c: calls; AllOk for all. -/
namespace MP
open PySem L2
section
variable {c : Cfg} {F : Fn} {n : Nat}
theorem few_ok {cpos : Pos} {env : PySem.Env} {xs : List Expr} (h : ∀ e ∈ xs, isStar e = false) (hl : xs.length < 29) : ((backTo cpos (starEach xs env)).all (fun x => !x.1) && (backToKw cpos (keywordEach [] env)).all (fun x => x.1.isSome)
      && decide (xs.length + ([] : List Keyword).length + (if ([] : List Keyword).isEmpty then 0 else 1) < 30)) = true := by
  rw [star_all h]
  show (true && true && decide (xs.length + 0 + 0 < 30)) = true
  have : decide (xs.length + 0 + 0 < 30) = true := by rw [decide_eq_true_iff]; omega
  rw [this]; rfl
theorem isxArg_ok {I : Info} {y : Str} {args : List Expr} {a : Expr} {ans : List (Str × Bool)} (h : isxArg I y args = some (a, ans)) : y = ("isinstance" : Str) ∧ ((∃ es x1 tp ns, args = [a, .Tuple es x1 tp] ∧ clsNames I es = some ns ∧ (ns.length ≤ 100 ∧ ns.isEmpty = false) ∧ ans = ansOf I ns) ∨ ∃ b n, args = [a, b] ∧ clsName I b = some n ∧ ans = ansOf I [n]) := by
  unfold isxArg at h
  split at h
  · rename_i hy
    refine ⟨hy, ?_⟩
    split at h
    · rename_i a' es x1 tp
      rw [Option.bind_eq_some_iff] at h
      obtain ⟨ns, h1, h⟩ := h
      split at h
      · rename_i hl
        cases h
        exact .inl ⟨es, x1, tp, ns, rfl, h1, hl, rfl⟩
      · cases h
    · rename_i a' b _
      rw [Option.map_eq_some_iff] at h
      obtain ⟨n, h1, h⟩ := h
      cases h
      exact .inr ⟨b, n, rfl, h1, rfl⟩
    · cases h
  · cases h
theorem setArg_ok {I : Info} {y : Str} {args : List Expr} {a : Expr} (h : setArg I y args = some a) : ∃ (z : Str) (p q : Pos), args = [.Call (.Name z p) [a] [] q] ∧ y = ("sorted" : Str) ∧ z = ("set" : Str) ∧ I.gl z = true ∧ I.slot z = none ∧ I.bf.contains z = true := by
  unfold setArg at h
  split at h
  · split at h
    · rename_i hh
      cases h
      exact ⟨_, _, _, rfl, hh⟩
    · cases h
  · cases h
theorem ok_call (A : AllOk c F n) (I : Info) (f : Expr) (args : List Expr) (kws : List Keyword) (pos : Pos) (e : E) (h : cCall I (n + 1) f args kws pos = some e) (X : Cx) (G : Good c F I X) : PE X (.Call f args kws pos) (SemE c F e) := by
  cases f <;> try (simp only [cCall] at h; cases h; done)
  case Name y p =>
    simp only [cCall] at h
    split at h
    · -- no keywords
      split at h
      · rename_i i hi
        obtain ⟨g1, g2, g3, g4⟩ := slot_ok G hi
        split at h
        · cases h
        · obtain ⟨xs, h1, rfl⟩ := om h
          exact sem_callv G.fv g1 g2 (A.es I _ xs h1 X G) g3 g4 (star_cons (noStar_Es h1 _ List.mem_cons_self)) (star_any fun e' he' => noStar_Es h1 e' (List.mem_cons_of_mem _ he'))
      · split at h
        · rename_i hg
          obtain ⟨g1, g2⟩ := gl_ok G hg
          split at h
          · rename_i i hi
            obtain ⟨m1, m2⟩ := G.fn _ _ hi
            obtain ⟨xs, h1, rfl⟩ := om h
            cases args with
            | nil =>
              have := cEs_len h1
              cases xs with
              | nil => exact sem_call0 m2 g1 m1 g2
              | cons _ _ => cases this
            | cons a es => exact sem_call m2 g1 m1 (A.es I _ xs h1 X G) g2 (star_cons (noStar_Es h1 _ List.mem_cons_self)) (star_any fun e' he' => noStar_Es h1 e' (List.mem_cons_of_mem _ he'))
          · split at h
            · rename_i hb
              split at h
              · rename_i a ans ha
                obtain ⟨x, h2, rfl⟩ := om h
                obtain ⟨rfl, hh⟩ := isxArg_ok ha
                have hm := G.bf _ hb
                have sr := noStar_E h2
                rcases hh with ⟨es, x1, tp, ns, rfl, c1, c2, rfl⟩ | ⟨b, n, rfl, c1, rfl⟩
                · exact sem_isxT g1 hm G.K (A.e I _ x h2 X G).1 (star_cons sr) (clsNames_ok G c1) c2.1 fun k b hk => ansOf_ok G c2.2 hk
                · exact sem_isx1 g1 hm G.K (A.e I _ x h2 X G).1 (star_cons sr) (clsName_ok G c1) fun k bb hk => ans1_ok G hk
              split at h
              · rename_i a ha
                obtain ⟨xs, h2, rfl⟩ := om h
                obtain ⟨z, pz, qz, rfl, rfl, rfl, z1, z2, z3⟩ := setArg_ok ha
                exact sem_sset G.K G.calm g1 (G.bf _ hb) (gl_ok G z1).1 (G.bf _ z3) (A.es I _ xs h2 X G) (star_cons (noStar_Es h2 _ List.mem_cons_self))
              · obtain ⟨b, h1, h⟩ := ob h
                obtain ⟨e1, e2⟩ := bltOf_ok h1
                split at h
                · cases h
                · obtain ⟨xs, h2, rfl⟩ := om h
                  have hm := G.bf _ hb
                  subst e1
                  exact sem_blt G.K G.calm G.gds G.hu2 G.sm e2 g1 hm (A.es I _ xs h2 X G) (star_cons (noStar_Es h2 _ List.mem_cons_self)) (star_any fun e' he' => noStar_Es h2 e' (List.mem_cons_of_mem _ he'))
            · split at h
              · rename_i hx
                cases h
                exact sem_xnew0 (G.xs _ _ hx) g1 g2
              · rename_i f a hx
                obtain ⟨xs, h1, rfl⟩ := om h
                have hs := star_cons (es := []) (env := X.env) (noStar_Es h1 _ List.mem_cons_self)
                have hl := cEs_len h1
                match xs, hl, h1 with
                | [x], _, h1 => exact sem_xnew1 G.room (G.xs _ _ hx) g1 g2 (A.es I _ [x] h1 X G) hs
              · cases h
        · cases h
    · split at h
      · cases h
      · split at h
        · rename_i hg
          obtain ⟨g1, g2⟩ := gl_ok G hg
          obtain ⟨⟨i, m, ks⟩, h1, h⟩ := ob h
          obtain ⟨m1, m2⟩ := G.fk _ _ _ _ h1
          split at h
          · cases h
          · split at h
            · rename_i hh
              obtain ⟨h3, h4, h5⟩ := hh
              obtain ⟨xs, h6, h⟩ := ob h
              obtain ⟨zs, h7, rfl⟩ := om h
              obtain ⟨k1, k2, k3⟩ := kw_facts (pos := pos) (env := X.env) h5
              refine sem_callk m2 g1 m1 (A.es I _ xs h6 X G) (A.ks I _ zs h7 X G) (by rw [cEs_len h6]; exact h3) (by rw [cKs_len h7]; exact h4) k1 k2 g2 (star_cons (noStar_Es h6 _ List.mem_cons_self)) ?_
              rw [star_any (noStar_Es h6), k3]; rfl
            · cases h
        · cases h
  case Attribute o m apos =>
    simp only [cCall] at h
    split at h
    · rename_i hh
      simp only [Bool.and_eq_true, decide_eq_true_iff] at hh
      obtain ⟨⟨h1, h2⟩, h3⟩ := hh
      have hline : (apos.endLine == pos.line) = true := beq_iff_eq.mpr h3
      split at h
      · split at h
        · obtain ⟨mm, h4, h⟩ := ob h
          obtain ⟨x, h5, rfl⟩ := om h
          obtain ⟨t, t1, rfl⟩ := mthOf0_ok h4
          exact sem_mth0 G.K t1 (A.e I o x h5 X G).1 (recv_ok h1) hline
        · obtain ⟨mm, h4, h⟩ := ob h
          obtain ⟨x, h5, h⟩ := ob h
          obtain ⟨xs, h6, rfl⟩ := om h
          obtain ⟨t, t1, rfl⟩ := mthOf_ok h4
          exact sem_mth G.K t1 (A.e I o x h5 X G).1 (A.es I _ xs h6 X G) (recv_ok h1) (few_ok (noStar_Es h6) h2) hline (star_cons (noStar_Es h6 _ List.mem_cons_self)) (star_any fun e' he' => noStar_Es h6 e' (List.mem_cons_of_mem _ he'))
      · cases h
    · cases h
theorem allOk : ∀ n : Nat, AllOk c F n
  | 0 => allOk_zero c F
  | n + 1 =>
    have A := allOk n
    { e := ok_e A, es := ok_es A, ts := ok_ts A, pr := ok_pr A, ks := ok_ks A, b := ok_b A, cmp := ok_cmp A, sub := ok_sub A, part := ok_part A, call := ok_call A, iter := ok_iter A, comp := ok_comp A, fs := ok_fs A, p := ok_p A, ps := ok_ps A }
end
end MP

/-! MP10: statements and defs from the text. -/
namespace MP
open PySem L2
def isTup : Expr → Bool
  | .Tuple _ _ _ => true
  | _ => false
def isStarE : Expr → Bool
  | .Starred _ _ => true
  | _ => false
/-- the store within a comprehension's own turn (name = [..]) -/
def swB (I : Info) (y : Str) (py pos : Pos) (scope : Scope) : Bool := decide (I.sc.names.lookup y = some .local) && (py.line == pos.line) && !(scope.names.any fun (n, k) => n == y && (k == .local || k == .cell))
def parOk (I : Info) (x y : Str) (px py : Pos) (a b : Expr) : Bool := decide (I.sc.names.lookup x = some .local) && decide (I.sc.names.lookup y = some .local) && decide (py.line = px.line) && !decide (x = y) && !isStarE a && !isStarE b && !([a, b].all (foldedForSure 8)) && !([a, b].all (constantsAlone 8))
def cAsg (I : Info) (n : Nat) (tg v : Expr) : Option SA := match tg with
  | .Name y py => (match v with
    | .ListComp elt gs scope pos => if swB I y py pos scope then (cComp I n elt gs scope pos).bind fun e => (I.slot y).map fun i => .asg (.name i) e else none
    | v => if isComp v then none else (cE I n v).bind fun e => (cP I n (.Name y py)).map fun p => .asg p e)
  | .Subscript o i _ => if isComp v || isSlice i then none else (cE I n v).bind fun e => (cE I n o).bind fun x => (cE I n i).map fun y => .setIx e x y
  | .Tuple ts k pt => (match ts, v with
    | [.Name x px, .Name y py], .Tuple [a, b] k2 p2 => if parOk I x y px py a b then (I.slot x).bind fun i => (I.slot y).bind fun j => (cE I n a).bind fun ea => (cE I n b).map fun eb => .par i j ea eb else
      if [a, b].all (foldedForSure 8) then (cE I n (.Tuple [a, b] k2 p2)).bind fun e => (cP I n (.Tuple [.Name x px, .Name y py] k pt)).map fun p => .asg p e else none
    | ts, v => if isTup v || isComp v then none else (cE I n v).bind fun e => (cP I n (.Tuple ts k pt)).map fun p => .asg p e)
  | _ => none
/-- the classes that an except clause takes -/
def takenBy (I : Info) (x : Str) : List Str := I.xs.filterMap fun p => if I.xk.lookup (p.1, x) = some true then some p.1 else none
def cTry (I : Info) (n : Nat) (y fx x nn z n2 : Str) (args : List Expr) : Option SA :=
  if (decide (n2 = nn) && I.gl fx && I.gl x && decide (I.sc.names.lookup y = some .local) && decide (I.sc.names.lookup nn = some .local) && decide (I.sc.names.lookup z = some .local) && !decide (x = ("ValueError" : Str)) && (I.xs.lookup x).isSome && !args.isEmpty) = true then
    (I.fn.lookup fx).bind fun fi => (I.slot y).bind fun i => (I.slot nn).bind fun j => (I.slot z).bind fun m => if j = m then none else (cEs I n args).map fun xs => .tryc i fi xs (takenBy I x) j m
  else none
def cRaise (I : Info) (n : Nat) (k : Str) (args : List Expr) : Option SA :=
  if I.gl k = true then (match I.xs.lookup k, args with
    | some none, [] => some (.rais k "" [])
    | some (some f), [a] => (cE I n a).map fun x => .rais k f [x]
    | _, _ => some .die) else some .die
def cRaiseS (I : Info) (n : Nat) (e c : Option Expr) : Option SA := match e, c with
  | some (.Call (.Name k _) args [] _), none => cRaise I n k args
  | _, _ => some .die
def cTryS (I : Info) (n : Nat) (body : List Stmt) (hs : List ExceptHandler) (orelse fin : List Stmt) : Option SA := match body, hs, orelse, fin with
  | [.Assign [.Name y _] (.Call (.Name fx _) args [] _) _], [.ExceptHandler (some (.Name x _)) (some nn) [.Assign [.Name z _] (.Name n2 _) _] _], [], [] => cTry I n y fx x nn z n2 args
  | _, _, _, _ => none
mutual
def cS (I : Info) : Nat → Stmt → Option SA
  | 0, _ => none
  | n + 1, .Assign tgs v _ => (match tgs with
    | [tg] => cAsg I n tg v
    | _ => none)
  | n + 1, .Expr e _ => if isComp e then none else (cE I n e).map .expr
  | n + 1, .Return o _ => (match o with
    | some e => (cE I n e).map .ret
    | none => some .retN)
  | n + 1, .If t a b _ => (cE I n t).bind fun x => (cSs I n a).bind fun y => (cSs I n b).map fun z => .ifs x y z
  | n + 1, .For tg it body orelse _ => (match orelse with
    | [] => (cP I n tg).bind fun p => (cIter I n tg it).bind fun k => (cSs I n body).map fun b => .for_ p k.1 k.2 b
    | _ => none)
  | n + 1, .While t body orelse _ => (match orelse with
    | [] => (cE I n t).bind fun x => (cSs I n body).map fun b => .while_ x b
    | _ => none)
  | n + 1, .Pass _ => some .pass
  | n + 1, .Raise e c _ => cRaiseS I n e c
  | n + 1, .Try body hs orelse fin _ => cTryS I n body hs orelse fin
  | n + 1, .Break _ => some .brk
  | n + 1, .Continue _ => some .cont
  | n + 1, _ => none
def cSs (I : Info) : Nat → List Stmt → Option (List SA)
  | 0, _ => none
  | n + 1, [] => some []
  | n + 1, s :: r => (cS I n s).bind fun x => (cSs I n r).map fun y => x :: y
end
section
variable {c : Cfg} {F : Fn} {I : Info} {X : Cx} {WX : XK}
theorem sw_plain {v : Expr} (h : isComp v = false) {t : Option Expr} {l : Nat} {env : PySem.Env} : swapsWith v t l env = pure false := by
  cases v <;> first | rfl | cases h
theorem sws_plain {tg v : Expr} (h : isComp v = false) {l : Nat} {env : PySem.Env} : swapsWithSole [tg] v l env = pure false := sw_plain h
theorem swst_tup {ts : List Expr} {k : Nat} {pt : Pos} {v : Expr} (h : isTup v = false) {env : PySem.Env} : swappedStores [.Tuple ts k pt] v env = pure none := by
  cases v <;> first | rfl | cases h
theorem swst_con {x y : Str} {px py pt p2 : Pos} {k k2 : Nat} {a b : Expr} (h : [a, b].all (foldedForSure 8) = true) {env : PySem.Env} : swappedStores [.Tuple [.Name x px, .Name y py] k pt] (.Tuple [a, b] k2 p2) env = pure none := by
  unfold swappedStores
  dsimp only
  split
  · rfl
  · split
    · rfl
    · split
      · rfl
      · rfl
theorem swst_other {tg v : Expr} (h : isTup tg = false) (h2 : ∀ es p, tg ≠ .List es p) {env : PySem.Env} : swappedStores [tg] v env = pure none := by
  cases tg <;> first | rfl | exact (Bool.noConfusion (show true = false from h)) | exact absurd rfl (h2 _ _)
theorem par_ok {x y : Str} {px py pt pt2 : Pos} {k k2 : Nat} {a b : Expr} {env : PySem.Env} (hk : env.scope.kind = .function) (h : parOk I x y px py a b = true) (hs : env.scope = I.sc) :
    swappedStores [.Tuple [.Name x px, .Name y py] k pt] (.Tuple [a, b] k2 pt2) env = pure (some [x, y]) ∧ x ≠ y ∧ env.scope.names.lookup x = some .local ∧ env.scope.names.lookup y = some .local := by
  unfold parOk at h
  simp only [Bool.and_eq_true, decide_eq_true_iff, Bool.not_eq_true', decide_eq_false_iff_not] at h
  obtain ⟨⟨⟨⟨⟨⟨⟨h1, h2⟩, h3⟩, h4⟩, h5⟩, h6⟩, h7⟩, h8⟩ := h
  refine ⟨?_, h4, by rw [hs]; exact h1, by rw [hs]; exact h2⟩
  have kx : env.kindOf x = some .local := by show env.scope.names.lookup x = _; rw [hs]; exact h1
  have ky : env.kindOf y = some .local := by show env.scope.names.lookup y = _; rw [hs]; exact h2
  have hb : env.blockKind = .function := by unfold Env.blockKind; rw [hk]; rfl
  have hst : ([a, b].any fun | .Starred .. => true | _ => false) = false := by
    cases a <;> cases b <;> first | rfl | exact (Bool.noConfusion (show true = false from h5)) | exact (Bool.noConfusion (show true = false from h6))
  have hxy : (x == y) = false := beq_eq_false_iff_ne.mpr h4
  have hyx : (y == x) = false := beq_eq_false_iff_ne.mpr (Ne.symm h4)
  unfold swappedStores
  simp only [hb, hst, kx, ky, h7, h8, List.length_cons, List.length_nil]
  simp [List.filterMap, kx, ky, Expr.pos, h3, hst, List.eraseDups, List.eraseDupsBy, List.eraseDupsBy.loop, hxy, hyx]
  intro hh
  exfalso
  simp only [List.any_cons, List.any_nil, Bool.or_false, Bool.or_eq_false_iff] at hst
  rcases hh with hh | hh
  · exact Bool.noConfusion (hh.symm.trans hst.1)
  · exact Bool.noConfusion (hh.symm.trans hst.2)
structure TopX (X : Cx) (WX : XK) : Prop where
  kind : X.env.scope.kind = .function
  pass : PassesOwn (model X.prog X.w) X.A X.env X.xe
  stk : X.stack = X.env :: X.outer
  frm : X.env.frame = some X.env.locals
  nex : X.ex = []
  tk : Takes X (fun cls d _ H => WX cls d H)
  room : Room 2 X.A
theorem par_ne {x y : Str} {i j : Nat} {N : List Str} (hx : N[i]? = some x) (hy : N[j]? = some y) (h : x ≠ y) : i ≠ j := by
  rintro rfl
  rw [hx] at hy
  exact h (Option.some.inj hy)
theorem sub_plain {o i : Expr} {p : Pos} {env : PySem.Env} (h : isSlice i = false) : ∀ v, assign (.Subscript o i p) env v = (do
      let ov ← holding [v] (eval o env)
      let iv ← holding [v, ov] (eval i env)
      standAt p
      holding [v, ov, iv] (setItem ov iv v)
      release [v, ov, iv] []) := by
  intro v
  cases i <;> first | rfl | exact (Bool.noConfusion (show true = false from h))
theorem asg_ok {n : Nat} {tg v : Expr} {sa : SA} (h : cAsg I n tg v = some sa) {pos : Pos} (G : Good c F I X) (T : TopX X WX) : PS X (.Assign [tg] v pos) (SemS c WX (ex F sa)) := by
  have A := allOk (c := c) (F := F) n
  cases tg <;> try (simp only [cAsg] at h; cases h; done)
  case Name y py =>
    by_cases hc : ∃ elt gs scope p, v = .ListComp elt gs scope p
    · obtain ⟨elt, gs, scope, p, rfl⟩ := hc
      simp only [cAsg] at h
      split at h
      · rename_i hb
        unfold swB at hb
        simp only [Bool.and_eq_true, decide_eq_true_iff, Bool.not_eq_true'] at hb
        obtain ⟨⟨hb1, hb2⟩, hb3⟩ := hb
        obtain ⟨e, h1, h⟩ := ob h
        obtain ⟨i, h2, rfl⟩ := om h
        obtain ⟨g1, g2, _, _⟩ := slot_ok G h2
        have hl : X.env.scope.names.lookup y = some .local := by rw [G.sc]; exact hb1
        exact asg_name ((A.comp I elt gs scope p e h1 X G).2 i y py pos g1 hl (sw_true T.kind hl hb2 hb3))
      · cases h
    · have h' : (if isComp v then none else (cE I n v).bind fun e => (cP I n (.Name y py)).map fun p => SA.asg p e) = some sa := by
        cases v <;> first | (simp only [cAsg] at h; exact h) | exact absurd ⟨_, _, _, _, rfl⟩ hc
      split at h'
      · cases h'
      · rename_i hv
        obtain ⟨e, h1, h⟩ := ob h'
        obtain ⟨p, h2, rfl⟩ := om h
        exact sem_asg (tg := .Name y py) (ps_asg (A.e I v e h1 X G).1 (A.p I _ p h2 X G) (sws_plain (Bool.eq_false_iff.mpr hv)) rfl)
  case Subscript o i p =>
    simp only [cAsg] at h
    split at h
    · cases h
    · rename_i hv
      simp only [Bool.or_eq_true, not_or, Bool.not_eq_true] at hv
      obtain ⟨e, h1, h⟩ := ob h
      obtain ⟨x, h2, h⟩ := ob h
      obtain ⟨y, h3, rfl⟩ := om h
      exact sem_setIx (A.e I v e h1 X G).1 (A.e I o x h2 X G).1 (A.e I i y h3 X G).1 (sws_plain hv.1) rfl (sub_plain hv.2)
  case Tuple ts k pt =>
    simp only [cAsg] at h
    split at h
    · split at h
      · rename_i hp
        obtain ⟨p1, p2, p3, p4⟩ := par_ok T.kind hp G.sc
        obtain ⟨i, h1, h⟩ := ob h
        obtain ⟨j, h2, h⟩ := ob h
        obtain ⟨ea, h3, h⟩ := ob h
        obtain ⟨eb, h4, rfl⟩ := om h
        obtain ⟨g1, _, _, _⟩ := slot_ok G h1
        obtain ⟨g2, _, _, _⟩ := slot_ok G h2
        refine sem_par (ps_par G.calm G.nd g1 g2 (par_ne g1 g2 p2) p3 p4 ?_ p1 rfl)
        exact sem_cons (A.e I _ ea h3 X G).1 (sem_cons (A.e I _ eb h4 X G).1 sem_nil (star_cons (noStar_E h4))) (star_cons (noStar_E h3))
      · split at h
        · rename_i hf
          obtain ⟨e, h1, h⟩ := ob h
          obtain ⟨p, h2, rfl⟩ := om h
          rename_i _ x px y py a b k2 p2 _ _
          exact sem_asg (tg := .Tuple [.Name x px, .Name y py] k pt) (ps_asg (A.e I _ e h1 X G).1 (A.p I _ p h2 X G) (sws_plain rfl) (swst_con hf))
        · cases h
    · split at h
      · cases h
      · rename_i hv
        simp only [Bool.or_eq_true, not_or, Bool.not_eq_true] at hv
        obtain ⟨e, h1, h⟩ := ob h
        obtain ⟨p, h2, rfl⟩ := om h
        exact sem_asg (tg := .Tuple ts k pt) (ps_asg (A.e I v e h1 X G).1 (A.p I _ p h2 X G) (sws_plain hv.2) (swst_tup hv.1))
end
section
variable {c : Cfg} {F : Fn} {I : Info} {X : Cx} {WX : XK}
theorem Good.tr (G : Good c F I X) (pn : List (Addr × Obj)) (xe : Value → Shared → Prop) : Good c F I (X.tr pn xe) :=
  ⟨G.K, G.calm, G.nd, G.N, G.hu, G.sc, G.topf, G.bf, G.gc, fun x kvs h => let ⟨ad, h1, h2⟩ := G.gd x kvs h; ⟨ad, h1, ⟨h2.dict, h2.get⟩⟩, fun x i h => let ⟨h1, h2⟩ := G.fn x i h; ⟨h1, ⟨h2.kp, h2.ex⟩⟩, fun x i n ks h => let ⟨h1, h2⟩ := G.fk x i n ks h; ⟨h1, ⟨h2.kp, h2.ex⟩⟩, fun f h => ⟨(G.fv f h).kp, (G.fv f h).ex⟩, G.hu2, G.gds, G.sm, G.xs, G.xk, G.room, G.xn, G.xm⟩
theorem raise_ok {n : Nat} {k : Str} {args : List Expr} {sa : SA} (h : cRaise I n k args = some sa) {p pos rp : Pos} (G : Good c F I X) (T : TopX X WX) : PS X (.Raise (some (.Call (.Name k p) args [] pos)) none rp) (SemS c WX (ex F sa)) := by
  have A := allOk (c := c) (F := F) n
  unfold cRaise at h
  split at h
  · rename_i hg
    obtain ⟨g1, g2⟩ := gl_ok G hg
    split at h
    · rename_i hl
      cases h
      exact sem_rais0 G.calm T.tk (G.xs _ _ hl) g1 g2
    · rename_i f a hl
      obtain ⟨x, h1, rfl⟩ := om h
      have hs : starEach [a] X.env = (false, eval a X.env) :: starEach [] X.env := star_cons (noStar_E h1)
      exact sem_rais1 G.calm T.tk T.room (G.xs _ _ hl) g1 g2 (sem_cons (A.e I a x h1 X G).1 sem_nil hs) hs
    · cases h; exact sem_die
  · cases h; exact sem_die
theorem try_ok {n : Nat} {y fx x nn z n2 : Str} {args : List Expr} {sa : SA} (h : cTry I n y fx x nn z n2 args = some sa) {yp fp cp ap np zp ep bp hp tp : Pos} (G : Good c F I X) (T : TopX X WX) :
    PS X (.Try [.Assign [.Name y yp] (.Call (.Name fx fp) args [] cp) ap] [.ExceptHandler (some (.Name x np)) (some nn) [.Assign [.Name z zp] (.Name n2 ep) bp] hp] [] [] tp) (SemS c WX (ex F sa)) := by
  have A := allOk (c := c) (F := F) n
  unfold cTry at h
  split at h
  · rename_i hh
    simp only [Bool.and_eq_true, decide_eq_true_iff, Bool.not_eq_true', decide_eq_false_iff_not] at hh
    obtain ⟨⟨⟨⟨⟨⟨⟨⟨rfl, h1⟩, h2⟩, h3⟩, h4⟩, h5⟩, h6⟩, h7⟩, h8⟩ := hh
    obtain ⟨fi, q1, h⟩ := ob h
    obtain ⟨i, q2, h⟩ := ob h
    obtain ⟨j, q3, h⟩ := ob h
    obtain ⟨m, q4, h⟩ := ob h
    split at h
    · cases h
    · rename_i hjm
      obtain ⟨xs, q5, rfl⟩ := om h
      obtain ⟨a1, _, _, _⟩ := slot_ok G q2
      obtain ⟨b1, _, b3, b4⟩ := slot_ok G q3
      obtain ⟨c1, _, _, _⟩ := slot_ok G q4
      obtain ⟨g1, g2⟩ := gl_ok G h1
      obtain ⟨g3, g4⟩ := gl_ok G h2
      obtain ⟨m1, m2⟩ := G.fn _ _ q1
      obtain ⟨o, ho⟩ := Option.isSome_iff_exists.mp h7
      have T' := G.xs _ _ ho
      have loc : ∀ {s : Str}, I.sc.names.lookup s = some .local → X.env.kindOf s = some .local := fun {s} hs => by
        show X.env.scope.names.lookup s = _
        rw [G.sc]; exact hs
      cases args with
      | nil => cases h8
      | cons a es =>
        refine sem_tryc T.stk T.frm T.nex G.nd a1 b1 c1 hjm (loc h3) (loc h4) (loc h5) ⟨g3, g4, .inl T'.mgk⟩ b3 b4 (fun k hk => ?_) m2 g1 m1 (fun pn xe => A.es I _ xs q5 (X.tr pn xe) (G.tr pn xe)) g2 (star_cons (noStar_Es q5 _ List.mem_cons_self)) (star_any fun e' he' => noStar_Es q5 e' (List.mem_cons_of_mem _ he'))
        unfold takenBy at hk
        obtain ⟨p, _, q⟩ := List.mem_filterMap.mp hk
        split at q
        · rename_i hx
          cases q
          exact G.xm _ _ hx h6
        · cases q
  · cases h
theorem raiseS_ok {n : Nat} {e c' : Option Expr} {sa : SA} (h : cRaiseS I n e c' = some sa) {rp : Pos} (G : Good c F I X) (T : TopX X WX) : PS X (.Raise e c' rp) (SemS c WX (ex F sa)) := by
  unfold cRaiseS at h
  split at h
  · exact raise_ok h G T
  · cases h; exact sem_die
theorem tryS_ok {n : Nat} {body : List Stmt} {hs : List ExceptHandler} {orelse fin : List Stmt} {sa : SA} (h : cTryS I n body hs orelse fin = some sa) {rp : Pos} (G : Good c F I X) (T : TopX X WX) : PS X (.Try body hs orelse fin rp) (SemS c WX (ex F sa)) := by
  unfold cTryS at h
  split at h
  · exact try_ok h G T
  · cases h
end
section
variable (c : Cfg) (WX : XK) (F : Fn)
structure AllS (n : Nat) : Prop where
  s : ∀ (I : Info) (st : Stmt) (sa : SA), cS I n st = some sa → ∀ X : Cx, Good c F I X → TopX X WX → PS X st (SemS c WX (ex F sa))
  ss : ∀ (I : Info) (st : List Stmt) (sa : List SA), cSs I n st = some sa → ∀ X : Cx, Good c F I X → TopX X WX → PSs X st (SemS c WX (exs F sa))
end
theorem allS {c : Cfg} {WX : XK} {F : Fn} : ∀ n : Nat, AllS c WX F n
  | 0 => ⟨fun I st sa h => (by simp only [cS] at h; cases h), fun I st sa h => (by simp only [cSs] at h; cases h)⟩
  | n + 1 => by
    have B := allS (c := c) (WX := WX) (F := F) n
    have A := allOk (c := c) (F := F) n
    refine ⟨fun I st sa h X G T => ?_, fun I st sa h X G T => ?_⟩
    · cases st <;> try (simp only [cS] at h; cases h; done)
      case Try body hs orelse fin pos => simp only [cS] at h; exact tryS_ok h G T
      case Assign tgs v pos =>
        simp only [cS] at h
        split at h
        · exact asg_ok h G T
        · cases h
      case Expr e pos =>
        simp only [cS] at h
        split at h
        · cases h
        · rename_i hv
          obtain ⟨x, h1, rfl⟩ := om h
          exact sem_expr (A.e I e x h1 X G).1 (sw_plain (Bool.eq_false_iff.mpr hv))
      case Return o pos =>
        simp only [cS] at h
        split at h
        · obtain ⟨x, h1, rfl⟩ := om h
          exact sem_ret (A.e I _ x h1 X G).1
        · cases h; exact sem_retN
      case If t a b pos =>
        simp only [cS] at h
        obtain ⟨x, h1, h⟩ := ob h
        obtain ⟨y, h2, h⟩ := ob h
        obtain ⟨z, h3, rfl⟩ := om h
        exact sem_ifs (A.e I t x h1 X G).2 (B.ss I a y h2 X G T) (B.ss I b z h3 X G T)
      case For tg it body orelse pos =>
        simp only [cS] at h
        split at h
        · obtain ⟨p, h1, h⟩ := ob h
          obtain ⟨⟨k, its⟩, h2, h⟩ := ob h
          obtain ⟨b, h3, rfl⟩ := om h
          obtain ⟨i1, i2⟩ := A.iter I tg it k its h2 X G
          exact sem_for T.pass G.calm i1 (A.p I tg p h1 X G) (B.ss I body b h3 X G T) i2
        · cases h
      case While t body orelse pos =>
        simp only [cS] at h
        split at h
        · obtain ⟨x, h1, h⟩ := ob h
          obtain ⟨b, h3, rfl⟩ := om h
          exact sem_while T.pass (A.e I t x h1 X G).2 (B.ss I body b h3 X G T)
        · cases h
      case Pass => simp only [cS] at h; cases h; exact sem_pass
      case Raise e? c? pos => simp only [cS] at h; exact raiseS_ok h G T
      case Break => simp only [cS] at h; cases h; exact sem_brk
      case Continue => simp only [cS] at h; cases h; exact sem_cont
    · cases st with
      | nil => simp only [cSs] at h; cases h; exact sem_snil
      | cons s r =>
        simp only [cSs] at h
        obtain ⟨x, h1, h⟩ := ob h
        obtain ⟨y, h2, rfl⟩ := om h
        exact sem_scons (B.s I s x h1 X G T) (B.ss I r y h2 X G T)
end MP

/-! MP11: a table of defs; each keeps the plain machine's promise. -/
namespace MP
open PySem L2

/-! ### constants of the module -/
mutual
def relDB (K : PySem.W.Frag) (fad : Nat → Addr) : D → Value → Bool
  | .non, .none => true
  | .bl b, .bool e => b == e
  | .int i, .int j _ => decide (i = j)
  | .str x, .str y _ => decide (x = y)
  | .ty n, .type m => decide (n = m)
  | .fn i, .ref a => decide (fad i = a)
  | .tup xs, .ref a => (match K.lookup a with
    | some ⟨.type t, _, .seq its _, _⟩ => decide (t = "tuple") && decide (its.size ≤ sizeLine) && relDBs K fad xs its.toList
    | _ => false)
  | _, _ => false
def relDBs (K : PySem.W.Frag) (fad : Nat → Addr) : List D → List Value → Bool
  | [], [] => true
  | d :: ds, u :: us => relDB K fad d u && relDBs K fad ds us
  | _, _ => false
end
mutual
theorem relDB_ok {c : Cfg} : ∀ (d : D) (u : Value), relDB c.K c.fad d u = true → ∃ v, RelV v u ∧ ∀ w, RelD c w d v
  | .non, u, h => by
    cases u <;> simp only [relDB] at h <;> try (cases h; done)
    exact ⟨.non, rfl, fun w => by simp only [RelD]⟩
  | .bl b, u, h => by
    cases u <;> simp only [relDB] at h <;> try (cases h; done)
    rw [← eq_of_beq h]
    exact ⟨.bl b, rfl, fun w => by simp only [RelD]⟩
  | .int i, u, h => by
    cases u <;> simp only [relDB] at h <;> try (cases h; done)
    rw [← of_decide_eq_true h]
    exact ⟨.int i, ⟨_, rfl⟩, fun w => by simp only [RelD]⟩
  | .str x, u, h => by
    cases u <;> simp only [relDB] at h <;> try (cases h; done)
    rw [← of_decide_eq_true h]
    exact ⟨.str x, ⟨_, rfl⟩, fun w => by simp only [RelD]⟩
  | .ty n, u, h => by
    cases u <;> simp only [relDB] at h <;> try (cases h; done)
    rw [← of_decide_eq_true h]
    exact ⟨.ty n, rfl, fun w => by simp only [RelD]⟩
  | .fn i, u, h => by
    cases u <;> simp only [relDB] at h <;> try (cases h; done)
    rw [← of_decide_eq_true h]
    exact ⟨.ref (c.fad i), rfl, fun w => by simp only [RelD]⟩
  | .tup xs, u, h => by
    cases u <;> simp only [relDB] at h <;> try (cases h; done)
    rename_i a
    split at h
    · rename_i t od its n sl q
      simp only [Bool.and_eq_true, decide_eq_true_iff] at h
      obtain ⟨⟨rfl, h2⟩, h3⟩ := h
      obtain ⟨vs, r, k⟩ := relDBs_ok xs its.toList h3
      exact ⟨.ref a, rfl, fun w => by simp only [RelD]; exact ⟨a, vs, rfl, .inr ⟨_, its, n, q, rfl, rfl, h2, r⟩, k w⟩⟩
    · cases h
  | .lst _, u, h => by cases u <;> simp only [relDB] at h <;> cases h
  | .scr _, u, h => by cases u <;> simp only [relDB] at h <;> cases h
  | .ref _, u, h => by cases u <;> simp only [relDB] at h <;> cases h
  | .dct _ _, u, h => by cases u <;> simp only [relDB] at h <;> cases h
theorem relDBs_ok {c : Cfg} : ∀ (ds : List D) (us : List Value), relDBs c.K c.fad ds us = true → ∃ vs, Vals vs us ∧ ∀ w, RelDs c w ds vs
  | [], us, h => by
    cases us <;> simp only [relDBs] at h <;> try (cases h; done)
    exact ⟨[], .nil, fun w => .nil⟩
  | d :: ds, us, h => by
    cases us <;> simp only [relDBs] at h <;> try (cases h; done)
    rename_i u us
    simp only [Bool.and_eq_true] at h
    obtain ⟨v, r1, k1⟩ := relDB_ok d u h.1
    obtain ⟨vs, r2, k2⟩ := relDBs_ok ds us h.2
    exact ⟨v :: vs, .cons r1 r2, fun w => .cons (k1 w) (k2 w)⟩
end

/-! ### the table -/
structure DefT where
  nm : Str
  qual : Str
  params : Arguments
  body : List Stmt
  scope : Scope
  N : List Str
  ps : List Str
  mt : List Pos
  kn : Option (Nat × List Str)
  fd : FD
structure Glob where
  fn : List (Str × Nat)
  fk : List (Str × Nat × Nat × List Str)
  fv : List Nat
  gc : List (Str × D)
  gd : List (Str × List (Str × D))
  bf : List Str
  xs : List (Str × Option Str) := []
  xk : List ((Str × Str) × Bool) := []
  ini : List IniT := []
def infoOf (g : Glob) (d : DefT) : Info := ⟨d.N, d.scope, true, d.mt, g.fn, g.fk, g.fv, g.gc, g.gd, g.bf, g.xs, g.xk⟩
def fadOf (K : PySem.W.Frag) (ds : List DefT) (i : Nat) : Addr := match ds[i]? with
  | some d => He.ga K d.nm
  | none => 0
def cfgOf (K : PySem.W.Frag) (ds : List DefT) : Cfg := ⟨K, fadOf K ds, fun k => He.ga K k⟩
/-- what is checked of the table itself -/
def tabOk (g : Glob) (ds : List DefT) : Bool :=
  (g.fn.all fun p => match ds[p.2]? with
    | some d => decide (d.nm = p.1) && d.kn.isNone
    | none => false) &&
  (g.fk.all fun p => match ds[p.2.1]? with
    | some d => decide (d.nm = p.1) && decide (d.kn = some p.2.2)
    | none => false) &&
  (g.fv.all fun i => match ds[i]? with
    | some d => d.kn.isNone
    | none => false) &&
  (ds.all fun d => decide (d.fd.ps = d.ps.length) && decide (d.fd.ns = d.N.length)) && decide ((g.xs.map (·.1)).Nodup)
structure KDm (K : PySem.W.Frag) (W : World) (c : Cfg) (a : Addr) (kvs : List (Str × D)) : Prop where
  dict : ∃ es n, KDict K W a es n
  get : ∀ z : Str, ∃ r, PySem.W.nsIn K a z = some r ∧ match lookS z kvs with
    | none => r = none
    | some d => ∃ u v, r = some u ∧ RelV v u ∧ ∀ w, RelD c w d v
structure Fc (W : World) (K : PySem.W.Frag) (mg : Str → Option Value) (g : Glob) (ds : List DefT) : Prop where
  fun_ : ∀ (i : Nat) (d : DefT), ds[i]? = some d → ∃ fd, FunD K d.nm d.qual d.params d.body d.scope [] [] (He.ga K d.nm) fd
  mgf : ∀ (i : Nat) (d : DefT), ds[i]? = some d → mg d.nm = some (.ref (He.ga K d.nm))
  gc : ∀ x d, g.gc.lookup x = some d → ∃ u, mg x = some u ∧ relDB K (fadOf K ds) d u = true
  gd : ∀ x kvs, g.gd.lookup x = some kvs → ∃ ad, mg x = some (.ref ad) ∧ KDm K W (cfgOf K ds) ad kvs
  bf : ∀ x, g.bf.contains x = true → mg x = none
  sm : ∃ o, K.lookup sysModules = some o
  xs : ∀ k o, g.xs.lookup k = some o → XCls K mg k (He.ga K k) o
  xk : ∀ k n b, g.xk.lookup (k, n) = some b → ExcC K (He.ga K k) ∧ PySem.W.kitOne K (.ref (He.ga K k)) (clsU (cfgOf K ds) n) = some b
  xm : ∀ k n, g.xk.lookup (k, n) = some true → n ≠ ("ValueError" : Str) → PySem.W.exmOne K (.ref (He.ga K k)) (.ref (He.ga K n)) = some true
/-- how a def's parameters are bound -/
def BindT (d : DefT) : Prop := match d.kn with
  | none => ∀ (kV doc pm : Value) (an : Option Addr) (cdv ct : Value) (us : List Value), us.length = d.ps.length → bindArgs (PySem.W.fnOf d.nm d.qual d.params d.body d.scope .none kV doc pm an cdv ct) ⟨us, []⟩ = pure (d.ps.zip us)
  | some (n, ks) => ∀ (kV doc pm : Value) (an : Option Addr) (cdv ct : Value) (us ws : List Value), us.length = n → ws.length = ks.length → bindArgs (PySem.W.fnOf d.nm d.qual d.params d.body d.scope .none kV doc pm an cdv ct) ⟨us, ks.zip ws⟩ = pure (d.ps.zip (us ++ ws))
structure DefOk (g : Glob) (d : DefT) : Prop where
  sc : FnScope d.N d.ps d.scope
  bind : BindT d
  comp : ∃ n, cSs (infoOf g d) n d.body = some d.fd.body
theorem FunD.kbn {K : PySem.W.Frag} {x qual : Str} {params : Arguments} {body : List Stmt} {scope : Scope} {f : Addr} {fd : FuncData} {ps ks : List Str} {n : Nat} (F : FunD K x qual params body scope [] [] f fd)
    (h : ∀ (kV doc pm : Value) (an : Option Addr) (cdv ct : Value) (us ws : List Value), us.length = n → ws.length = ks.length → bindArgs (PySem.W.fnOf x qual params body scope .none kV doc pm an cdv ct) ⟨us, ks.zip ws⟩ = pure (ps.zip (us ++ ws))) : KBn K fd ps n ks (fun us ws => us ++ ws) (fun us ws => us ++ ws) := by
  obtain ⟨oc, od, dV, kV, doc, pm, an, cdv, ct, osl, rfl, lk, hcd, hD, hK⟩ := F.ex
  rcases hD with ⟨_, rfl⟩ | ⟨e, _⟩
  · exact ⟨fun s us ws _ h1 h2 => .of_eq (h kV doc pm an cdv ct us ws h1 h2), fun r1 r2 => r1.append r2⟩
  · exact absurd rfl e
theorem lookup_mem {α β : Type} [BEq α] [LawfulBEq α] {x : α} {b : β} : ∀ {l : List (α × β)}, l.lookup x = some b → (x, b) ∈ l
  | [], h => by cases h
  | (y, c) :: r, h => by
    rw [List.lookup_cons] at h
    split at h
    · rename_i e
      cases h
      rw [eq_of_beq e]
      exact List.mem_cons_self
    · exact List.mem_cons_of_mem _ (lookup_mem h)
theorem startE_rel {c : Cfg} {w : Wd} {ds : List D} {vs : List V} {N : List Str} (r : RelDs c w ds vs) : RelEnv c w (startE ds N.length) (L2.start N vs) := by
  unfold startE L2.start
  have hl := r.length
  refine ⟨by simp [hl], fun i d h => ?_⟩
  by_cases hi : i < ds.length
  · rw [List.getElem?_append_left (by simpa using hi), List.getElem?_map] at h
    obtain ⟨d', h1, h2⟩ := Option.map_eq_some_iff.mp h
    cases h2
    obtain ⟨v, h3, h4⟩ := r.get h1
    exact ⟨v, by rw [List.getElem?_append_left (by simpa [← hl] using hi), List.getElem?_map, h3]; rfl, h4⟩
  · rw [List.getElem?_append_right (by simpa using Nat.le_of_not_lt hi)] at h
    obtain ⟨_, h⟩ := List.mem_replicate.mp (List.mem_of_getElem? h)
    cases h
section
variable {P : Program} {W : World} {K : PySem.W.Frag} {mg : Str → Option Value} {base : Heap} {g : Glob} {ds : List DefT}
theorem all_at {α : Type} {l : List α} {p : α → Bool} (h : l.all p = true) {a : α} (m : a ∈ l) : p a = true := List.all_eq_true.mp h a m
/-- THE TABLE'S LAW: each def keeps the plain machine's promise -/
theorem fn_all (C : Fc W K mg g ds) (ht : tabOk g ds = true) (hd : ∀ (i : Nat) (d : DefT), ds[i]? = some d → DefOk g d) :
    ∀ (n i : Nat) (d : DefT) (fd : FuncData), ds[i]? = some d → FunD K d.nm d.qual d.params d.body d.scope [] [] (He.ga K d.nm) fd →
      FnG P W K mg base (n + 2) (He.ga K d.nm) fd d.ps (spOf (cfgOf K ds) (callAt (ds.map (·.fd)) n i)) := by
  unfold tabOk at ht
  simp only [Bool.and_eq_true] at ht
  obtain ⟨⟨⟨⟨t1, t2⟩, t3⟩, t4⟩, t5⟩ := ht
  have t5 := of_decide_eq_true t5
  intro n
  induction n with
  | zero =>
    intro i d fd hi F
    refine ⟨fun vs H Q E ⟨w, S, es, _, _, h⟩ => ?_, fun A outer s H args us vs Q E _ _ _ _ ⟨w, S, es, _, _, h⟩ => ?_⟩ <;> (simp only [callAt, WantR] at h)
  | succ n ih =>
    intro i d fd hi F
    have hm : d ∈ ds := List.mem_of_getElem? hi
    have D := hd i d hi
    have q4 := all_at t4 hm
    simp only [Bool.and_eq_true, decide_eq_true_iff] at q4
    obtain ⟨q4, q5⟩ := q4
    have hT : (ds.map (·.fd))[i]? = some d.fd := by rw [List.getElem?_map, hi]; rfl
    obtain ⟨m, hcomp⟩ := D.comp
    refine fnG_of F D.sc (fun vs H Q E ⟨w, S, es, _, r, h⟩ => ?_) (fun cdv A outer s H vs Q E ⟨hr, hkb⟩ ⟨w, S, es, R, r, h⟩ => ?_)
    · simp only [callAt, hT] at h
      split at h
      · rename_i e
        rw [← r.length, e, q4]
      · exact h.elim
    · refine ⟨SemS (cfgOf K ds) E (exs (callAt (ds.map (·.fd)) n) d.fd.body), ?_, ?_⟩
      · have fnC : ∀ (j : Nat) (d' : DefT), ds[j]? = some d' → ∃ fd', FunD K d'.nm d'.qual d'.params d'.body d'.scope [] [] (He.ga K d'.nm) fd' ∧ FnG P W K mg base (n + 2) ((cfgOf K ds).fad j) fd' d'.ps (spOf (cfgOf K ds) (callAt (ds.map (·.fd)) n j)) ∧ (cfgOf K ds).fad j = He.ga K d'.nm := by
          intro j d' hj
          obtain ⟨fd', F'⟩ := C.fun_ j d' hj
          have e : (cfgOf K ds).fad j = He.ga K d'.nm := by show fadOf K ds j = _; unfold fadOf; rw [hj]
          exact ⟨fd', F', by rw [e]; exact ih j d' fd' hj F', e⟩
        refine (allS m).ss (infoOf g d) d.body d.fd.body hcomp _ ?_ ⟨D.sc.kind, passes_of rfl, rfl, rfl, rfl, takes_of rfl rfl rfl rfl, hr.1.mono (by omega)⟩
        have mkC : ∀ (j : Nat) (d' : DefT), ds[j]? = some d' → d'.kn = none → Callee (cfgOf K ds) (callAt (ds.map (·.fd)) n) (cxOf (L2.CX P W) P W K mg base d.N d.qual d.scope (He.ga K d.nm) cdv A outer s H E) j := by
          intro j d' hj hk
          obtain ⟨fd', F', ok, e⟩ := fnC j d' hj
          refine ⟨by rw [e]; exact F'.kp, n + 2, fd', d'.ps, hr, ok, ?_⟩
          have b := (hd j d' hj).bind
          unfold BindT at b
          rw [hk] at b
          exact FunD.bindsN F' b
        refine ⟨rfl, rfl, D.sc.nd, rfl, ?_, rfl, fun _ _ => rfl, C.bf, ?_, ?_, ?_, ?_, ?_, ?_, hr.2, ?_, C.xs, C.xk, hr.1.mono (by omega), t5, C.xm⟩
        · exact Nat.lt_of_le_of_lt (Nat.le_trans (Nat.add_le_add_left (by omega : 65 ≤ 16 * (n + 2) + 200) _) (Nat.le_of_eq (Nat.add_assoc _ _ _).symm)) hr.1.un
        · intro x dd' hx
          obtain ⟨u, m1, m2⟩ := C.gc x dd' hx
          obtain ⟨v, m3, m4⟩ := relDB_ok (c := cfgOf K ds) dd' u m2
          exact ⟨v, u, m1, m3, m4⟩
        · intro x kvs hx
          obtain ⟨ad, m1, m2⟩ := C.gd x kvs hx
          exact ⟨ad, m1, ⟨m2.dict, m2.get⟩⟩
        · intro x j hx
          have z := all_at t1 (lookup_mem hx)
          simp only at z
          split at z
          · rename_i d' hj
            simp only [Bool.and_eq_true, decide_eq_true_iff, Option.isNone_iff_eq_none] at z
            obtain ⟨z1, z2⟩ := z
            subst z1
            refine ⟨?_, mkC j d' hj z2⟩
            have e : (cfgOf K ds).fad j = He.ga K d'.nm := by show fadOf K ds j = _; unfold fadOf; rw [hj]
            rw [e]
            exact C.mgf j d' hj
          · cases z
        · intro x j m' ks hx
          have z := all_at t2 (lookup_mem hx)
          simp only at z
          split at z
          · rename_i d' hj
            simp only [Bool.and_eq_true, decide_eq_true_iff] at z
            obtain ⟨z1, z2⟩ := z
            subst z1
            obtain ⟨fd', F', ok, e⟩ := fnC j d' hj
            refine ⟨by rw [e]; exact C.mgf j d' hj, by rw [e]; exact F'.kp, n + 2, fd', d'.ps, hr, ok, ?_⟩
            have b := (hd j d' hj).bind
            unfold BindT at b
            rw [z2] at b
            exact FunD.kbn F' b
          · cases z
        · intro f hf
          have z := all_at t3 hf
          split at z
          · rename_i d' hj
            exact mkC f d' hj (Option.isNone_iff_eq_none.mp z)
          · cases z
        · exact Nat.lt_of_le_of_lt (Nat.le_trans (Nat.add_le_add_left (by omega : 70 ≤ 16 * (n + 2) + 200) _) (Nat.le_of_eq (Nat.add_assoc _ _ _).symm)) hr.1.un
        · obtain ⟨o, ho⟩ := C.sm
          exact ⟨o, hkb _ _ ho⟩
      · simp only [callAt, hT] at h
        split at h
        · rename_i e
          refine ⟨w, S, startE es d.fd.ns, R, by rw [q5]; exact startE_rel r, ?_⟩
          split at h
          · rename_i env' S1 q
            rw [q]
            exact fun w' σ' H' g' R' _ => h w' H' _ g' R' (by simp only [RelD])
          · rename_i dd1 S1 q
            rw [q]
            exact fun w' H' v g' R' r' => h w' H' v g' R' r'
          · rename_i dd1 S1 q
            rw [q]
            exact fun w' H' cls dd g' R' r' => h w' H' cls dd g' R' r'
          · exact h.elim
        · exact h.elim
end
end MP

/-! MP12: what the head tells of the table; the law's end. -/
namespace MP
open PySem L2 PySem.Calls
def entB (K : PySem.W.Frag) (fad : Nat → Addr) : List DictEntry → List (Str × D) → Bool
  | [], [] => true
  | e :: es, (k, d) :: r => (match e.key with
    | .str x _ => decide (x = k)
    | _ => false) && relDB K fad d e.val && entB K fad es r
  | _, _ => false
def dicB (K : PySem.W.Frag) (fad : Nat → Addr) (a : Addr) (kvs : List (Str × D)) : Bool := match K.lookup a with
  | some ⟨_, _, .dict es _, _⟩ => entB K fad es.toList kvs
  | _ => false
theorem entB_ok {c : Cfg} : ∀ {es : List DictEntry} {kvs : List (Str × D)}, entB c.K c.fad es kvs = true → es.any (·.refKey) = false ∧ ∀ z : Str, match lookS z kvs with
    | none => es.find? (·.key.isStr z) = none
    | some d => ∃ e v, es.find? (·.key.isStr z) = some e ∧ RelV v e.val ∧ ∀ w, RelD c w d v
  | [], [], _ => ⟨rfl, fun z => rfl⟩
  | [], _ :: _, h => by simp only [entB] at h; cases h
  | _ :: _, [], h => by simp only [entB] at h; cases h
  | e :: es, (k, d) :: r, h => by
    simp only [entB, Bool.and_eq_true] at h
    obtain ⟨⟨h1, h2⟩, h3⟩ := h
    obtain ⟨i1, i2⟩ := entB_ok h3
    split at h1
    · rename_i x t hk
      have h1 := of_decide_eq_true h1
      subst h1
      refine ⟨?_, fun z => ?_⟩
      · rw [List.any_cons, i1, Bool.or_false]
        unfold DictEntry.refKey
        rw [hk]
      · unfold lookS
        rw [List.find?_cons]
        by_cases hz : z = x
        · subst hz
          have e1 : e.key.isStr z = true := by rw [hk]; simp [Value.isStr]
          rw [if_pos rfl, e1]
          obtain ⟨v, r1, r2⟩ := relDB_ok d e.val h2
          exact ⟨e, v, rfl, r1, r2⟩
        · have e1 : e.key.isStr z = false := by rw [hk]; simp [Value.isStr]; exact fun q => hz q.symm
          rw [if_neg hz, e1]
          exact i2 z
    · cases h1
theorem dicB_ok {c : Cfg} {a : Addr} {kvs : List (Str × D)} (h : dicB c.K c.fad a kvs = true) (z : Str) : ∃ r, PySem.W.nsIn c.K a z = some r ∧ match lookS z kvs with
    | none => r = none
    | some d => ∃ u v, r = some u ∧ RelV v u ∧ ∀ w, RelD c w d v := by
  unfold dicB at h
  unfold PySem.W.nsIn
  split at h
  · rename_i oc od es n sl q
    rw [q]
    obtain ⟨h1, h2⟩ := entB_ok h
    have h3 := h2 z
    cases e : lookS z kvs with
    | none =>
      rw [e] at h3
      refine ⟨none, ?_, rfl⟩
      show (match es.toList.find? (·.key.isStr z) with
        | some e => some (some e.val)
        | none => if es.toList.any (·.refKey) then none else some none) = _
      rw [show es.toList.find? (·.key.isStr z) = none from h3]
      simp only [h1]
      rfl
    | some d =>
      rw [e] at h3
      obtain ⟨en, v, h4, h5, h6⟩ := h3
      refine ⟨some en.val, ?_, en.val, v, rfl, h5, h6⟩
      show (match es.toList.find? (·.key.isStr z) with
        | some e => some (some e.val)
        | none => if es.toList.any (·.refKey) then none else some none) = _
      rw [h4]
  · cases h
/-! ### the Hook -/
def ddOf (d : DefT) : He.DefD := ⟨(d.nm, none), d.nm, d.qual, d.params, d.body, d.scope, [], []⟩
def tabsOf (g : Glob) : List He.Tab := g.gd.map fun p => (fun K => He.ga K p.1, p.2.map (·.1))
/-! ### what is looked at of the classes of exceptions -/
def ddI (d : IniT) : He.DefD := ⟨(d.C, some "__init__"), "__init__", d.qual, d.params, d.body, d.scope, [], []⟩
def excB (K : PySem.W.Frag) (D : Addr) : Bool :=
  decide (PySem.W.findIn K (.ref D) "__getattribute__" = some (some (.builtin "BaseException.__getattribute__"))) && (decide (PySem.W.findIn K (.ref D) "__getattr__" = some none) && (decide (PySem.W.subIn K (.ref D) (.type "BaseException") = some true) && (PySem.W.hasDictIn K D &&
  (decide (PySem.W.findIn K (.ref D) "__class__" = some (some (.builtin "object.__class__"))) && (decide (PySem.W.specialIn K (.builtin "object.__class__") "__get__" = some (some (.builtin "getset_descriptor.__get__"))) && (decide (PySem.W.takesIn K (.builtin "object.__class__") = some true) && decide (PySem.W.mroIn K D (.type "object") = some true)))))))
theorem excB_ok {K : PySem.W.Frag} {D : Addr} (h : excB K D = true) : ExcC K D := by
  unfold excB at h
  simp only [Bool.and_eq_true, decide_eq_true_iff] at h
  obtain ⟨h1, h2, h3, h4, h5, h6, h7, h8⟩ := h
  exact ⟨h1, h2, h3, h4, h5, h6, h7, h8⟩
def baseB (K : PySem.W.Frag) (C : Addr) : Bool := PySem.W.readsIn K C (.type "type") && (decide (PySem.W.specialIn K (.ref C) "__getattribute__" = some (some (.builtin "type.__getattribute__"))) && (match PySem.W.findCls K (.ref C) (.type "type") "__init__" with
  | some (.val u) => decide (u = .builtin "ValueError.__init__")
  | _ => false))
theorem baseB_ok {K : PySem.W.Frag} {C : Addr} (h : baseB K C = true) : BaseC K C := by
  unfold baseB at h
  simp only [Bool.and_eq_true, decide_eq_true_iff] at h
  obtain ⟨h1, h2, h3⟩ := h
  refine ⟨h1, h2, ?_⟩
  split at h3
  · rename_i u q
    rw [q, of_decide_eq_true h3]
  · cases h3
def oexB (K : PySem.W.Frag) (C : Addr) : Bool := (match K.lookup C with
  | some ⟨.type "type", _, .cls cd, sl⟩ => (match cd.mro, sl.toList with
    | .ref C' :: bm, [_, _, _, _, some (.builtin n), _] => C' == C && (n == "ValueError.__new__" && (!cd.hasDel && (cd.hasDict && PySem.HandSPX.refsVE bm)))
    | _, _ => false)
  | _ => false) && (decide (PySem.W.findIn K (.ref C) "__setattr__" = some (some (.builtin "object.__setattr__"))) && (decide (PySem.W.subIn K (.ref C) (.type "BaseException") = some true) && (decide (PySem.W.typeIn K (.ref C) = some (.type "type")) && PySem.W.keepIn K (.ref C))))
theorem oexB_ok {K : PySem.W.Frag} {C : Addr} (h : oexB K C = true) : OexC K C := by
  unfold oexB at h
  simp only [Bool.and_eq_true, decide_eq_true_iff] at h
  obtain ⟨h1, h2, h3, h4, h5⟩ := h
  refine ⟨?_, h2, h3, h4, h5⟩
  split at h1
  · rename_i dd cd sl ho
    split at h1
    · rename_i C' bm k0 k1 k2 k3 n k5 hm hs
      simp only [Bool.and_eq_true, beq_iff_eq, Bool.not_eq_true'] at h1
      obtain ⟨rfl, rfl, hdel, hdct, hr⟩ := h1
      obtain ⟨nm, bs, mro, ns, qn, hd, sn, sub, ab, col, del⟩ := cd
      dsimp only at hm hdel hdct
      subst hm hdel hdct
      have hsl : sl = #[k0, k1, k2, k3, some (.builtin "ValueError.__new__"), k5] := by
        obtain ⟨l⟩ := sl
        simp only at hs
        rw [hs]
      subst hsl
      exact ⟨nm, qn, ns, bs, bm, sn, sub, ab, col, dd, k0, k1, k2, k3, k5, ho, hr⟩
    · cases h1
  · cases h1
def clsB (g : Glob) (K : PySem.W.Frag) (p : Str × Option Str) : Bool :=
  He.eqO (PySem.W.nsIn K mainGlobals p.1) (some (some (.ref (He.ga K p.1)))) && (PySem.W.keepIn K (.ref (He.ga K p.1)) && (excB K (He.ga K p.1) && (xfB K (He.ga K p.1) && (decide (PySem.W.subIn K (.ref (He.ga K p.1)) (.type "BaseException") = some true) && (decide (PySem.W.typeIn K (.ref (He.ga K p.1)) = some (.type "type")) && (match p.2 with
  | none => PySem.W.excIn K (He.ga K p.1) veT "ValueError.__new__"
  | some f => oexB K (He.ga K p.1) && (decide (PySem.W.findIn K (.ref (He.ga K p.1)) f = some none) && (g.ini.any fun d => decide (d.C = p.1) && (decide (d.f = f) && (decide (PySem.W.findIn K (.ref (He.ga K p.1)) "__init__" = some (some (.ref (He.fAd K (d.C, some "__init__"))))) && decide (PySem.W.typeIn K (.ref (He.fAd K (d.C, some "__init__"))) = some (.type "function"))))))))))))
def clsUK (K : PySem.W.Frag) (n : Str) : Value := if n = ("ValueError" : Str) then .type "ValueError" else .ref (He.ga K n)
def chkX (g : Glob) (K : PySem.W.Frag) : Bool :=
  (g.xs.all (clsB g K)) && ((g.xk.all fun p => excB K (He.ga K p.1.1) && (decide (PySem.W.kitOne K (.ref (He.ga K p.1.1)) (clsUK K p.1.2) = some p.2) && (!p.2 || (decide (p.1.2 = ("ValueError" : Str)) || decide (PySem.W.exmOne K (.ref (He.ga K p.1.1)) (.ref (He.ga K p.1.2)) = some true))))) &&
  (g.ini.isEmpty || (He.eqO (PySem.W.nsIn K mainGlobals "KinError") (some (some (.ref (He.ga K "KinError")))) && baseB K (He.ga K "KinError"))))
def chk (g : Glob) (ds : List DefT) (K : PySem.W.Frag) : Bool :=
  (ds.all fun d => He.eqO (PySem.W.nsIn K mainGlobals d.nm) (some (some (.ref (He.ga K d.nm))))) &&
  (g.gc.all fun p => match PySem.W.nsIn K mainGlobals p.1 with
    | some (some u) => relDB K (fadOf K ds) p.2 u
    | _ => false) &&
  (g.gd.all fun p => He.eqO (PySem.W.nsIn K mainGlobals p.1) (some (some (.ref (He.ga K p.1)))) && dicB K (fadOf K ds) (He.ga K p.1) p.2) &&
  ((g.bf.all fun x => He.eqO (PySem.W.nsIn K mainGlobals x) (some none)) && (K.lookup sysModules).isSome) && chkX g K
def obsM (g : Glob) (ds : List DefT) (K : PySem.W.Frag) : He.AlT × Bool := (He.obsT [] (ds.map ddOf ++ g.ini.map ddI) (tabsOf g) K, chk g ds K)
def valM (g : Glob) (ds : List DefT) (w : World) : He.AlT × Bool := (He.valT (ds.map ddOf ++ g.ini.map ddI) (tabsOf g) w, true)
def SaysM (g : Glob) (ds : List DefT) (w : World) (K : PySem.W.Frag) : Prop := obsM g ds K = valM g ds w
def obsMG (n : Nat) (g : Glob) (ds : List DefT) (gt : Addr → Option Obj) : He.AlT × Bool := obsM g ds (He.frG gt (sysModules :: cStatics :: He.asD gt n))
def hookM (n : Nat) (g : Glob) (ds : List DefT) : PySem.W.Hook where
  α := He.AlT × Bool
  obs := fun s => obsMG n g ds s.heap.get?
  val := fun w => valM g ds w
  says := fun w h => ∃ K : PySem.W.Frag, K.In h ∧ SaysM g ds w K
  of := fun _ _ e => ⟨_, He.frG_in, e⟩
  keeps := fun _ _ _ ⟨K, hK, c⟩ k => ⟨K, PySem.W.Frag.In.keeps hK k, c⟩
def obM (n : Nat) (g : Glob) (ds : List DefT) (s : PySem.W.SharedT) : He.AlT × Bool := obsMG n g ds (HandSHeadRun.getT s)
theorem obM_eq (n : Nat) (g : Glob) (ds : List DefT) (s : PySem.W.SharedT) : obM n g ds s = (hookM n g ds).obs s.abs := by
  have e : HandSHeadRun.getT s = s.abs.heap.get? := funext fun a => HandSHeadRun.getT_eq s a
  show obsMG n g ds (HandSHeadRun.getT s) = obsMG n g ds s.abs.heap.get?
  rw [e]
theorem facts {g : Glob} {ds : List DefT} {W : World} {K : PySem.W.Frag} {h : Heap} {mg : Str → Option Value} (X : K.In h) (G : h.Ns mainGlobals mg) (c : SaysM g ds W K) (hini : ∀ d ∈ g.ini, IniOk d) : Fc W K mg g ds := by
  have c1 : He.SaysT [] (ds.map ddOf ++ g.ini.map ddI) (tabsOf g) W K := congrArg (fun z : He.AlT × Bool => z.1) c
  have c2 : chk g ds K = true := congrArg (fun z : He.AlT × Bool => z.2) c
  unfold chk at c2
  simp only [Bool.and_eq_true] at c2
  obtain ⟨⟨⟨⟨k1, k2⟩, k3⟩, k4, k5⟩, k6⟩ := c2
  unfold chkX at k6
  simp only [Bool.and_eq_true] at k6
  obtain ⟨x1, x2, x3⟩ := k6
  refine ⟨fun i d hi => ?_, fun i d hi => ?_, fun x d hx => ?_, fun x kvs hx => ?_, fun x hx => ?_, Option.isSome_iff_exists.mp k5, fun k o hk => ?_, fun k n b hk => ?_, fun k n hk hne => ?_⟩
  · exact c1.d.def_ i (d := ddOf d) (by rw [List.getElem?_append_left (by rw [List.length_map]; exact (List.getElem?_eq_some_iff.mp hi).1), List.getElem?_map, hi]; rfl)
  · exact PySem.W.mg_of X G (He.eqO_ok (all_at k1 (List.mem_of_getElem? hi)))
  · have z := all_at k2 (lookup_mem hx)
    simp only at z
    split at z
    · rename_i u q
      exact ⟨u, PySem.W.mg_of X G q, z⟩
    · cases z
  · have hm := lookup_mem hx
    have z := all_at k3 hm
    simp only [Bool.and_eq_true] at z
    refine ⟨He.ga K x, PySem.W.mg_of X G (He.eqO_ok z.1), ?_, fun y => dicB_ok (c := cfgOf K ds) z.2 y⟩
    obtain ⟨i, hi⟩ := List.getElem?_of_mem hm
    exact c1.tab i (t := (fun K => He.ga K x, kvs.map (·.1))) (by unfold tabsOf; rw [List.getElem?_map, hi]; rfl)
  · have z := all_at k4 (List.contains_iff_mem.mp hx)
    exact PySem.W.mg_none_of X G (He.eqO_ok z)
  · have z := all_at x1 (lookup_mem hk)
    unfold clsB at z
    simp only [Bool.and_eq_true, decide_eq_true_iff] at z
    obtain ⟨z1, z2, z3, z4, z5, z6, z7⟩ := z
    refine ⟨PySem.W.mg_of X G (He.eqO_ok z1), z2, excB_ok z3, xfB_ok z4, z5, z6, ?_⟩
    cases o with
    | none => exact z7
    | some f =>
      simp only [Bool.and_eq_true, decide_eq_true_iff] at z7
      obtain ⟨y1, y2, y3⟩ := z7
      obtain ⟨d, hd, y4⟩ := List.any_eq_true.mp y3
      simp only [Bool.and_eq_true, decide_eq_true_iff] at y4
      obtain ⟨rfl, rfl, y6, y7⟩ := y4
      obtain ⟨i, hi⟩ := List.getElem?_of_mem hd
      obtain ⟨fd, Fd⟩ := c1.d.def_ (ds.length + i) (d := ddI d) (by rw [List.getElem?_append_right (by rw [List.length_map]; omega), List.length_map, Nat.add_sub_cancel_left, List.getElem?_map, hi]; rfl)
      have ne : g.ini.isEmpty = false := by
        cases hq : g.ini with
        | nil => rw [hq] at hd; cases hd
        | cons _ _ => rfl
      rw [ne, Bool.false_or, Bool.and_eq_true] at x3
      obtain ⟨b1, b2⟩ := x3
      have D := hini d hd
      refine ⟨oexB_ok y1, y2, He.fAd K (d.C, some "__init__"), fd, d.x, y6, y7, fun P W base => ini_fn D Fd (baseB_ok b2) (PySem.W.mg_of X G (He.eqO_ok b1)), ?_⟩
      obtain ⟨oc, od, dV, kV, doc, pm, an, cdv, ct, osl, rfl, _, _, hD, _⟩ := Fd.ex
      rcases hD with ⟨_, rfl⟩ | ⟨e, _⟩
      · exact Binds.all fun us hl => D.bind _ _ kV doc pm an cdv ct us hl
      · exact absurd rfl e
  · have z := all_at x2 (lookup_mem hk)
    simp only [Bool.and_eq_true, decide_eq_true_iff] at z
    exact ⟨excB_ok z.1, z.2.1⟩
  · have z := all_at x2 (lookup_mem hk)
    simp only [Bool.and_eq_true, Bool.or_eq_true, decide_eq_true_iff, Bool.not_eq_true'] at z
    rcases z.2.2 with e | e | e
    · cases e
    · exact absurd e hne
    · exact e
/-! ### the law -/
theorem law_end {l : PySem.W.OpenLaw} {q : Program} {loose : List Str} {XP : (Str → Option Value) → Heap → Prop} {d : DefRec} {g : Glob} {ds : List DefT} {m n i : Nat} {dt : DefT} {x : Str}
    (hn : l.most = some 63) (hdf : d.params.defaults = []) (hr : Room (n + 2) callerA) (hnm : d.name = dt.nm) (hi : ds[i]? = some dt) (hps : dt.ps = [x]) (hk : dt.kn = none) (ht : tabOk g ds = true) (hd : ∀ (i : Nat) (d : DefT), ds[i]? = some d → DefOk g d) (hini : ∀ d ∈ g.ini, IniOk d)
    (law : ∀ ns : List Int, ns.length ≤ 63 → ∃ S, callAt (ds.map (·.fd)) n i [.scr ns] [] = .ok (.bl true) S) :
    PySem.W.WalkO q loose XP (hookM m g ds).says l.row.toRowW d [] (fun f vs => PySem.call f vs) := by
  refine walk_ofG (l := l) (n := 63) (k := n + 2) (x := x) hn (by decide) hdf hr ?_
  intro w mg fa h Y G hmg
  obtain ⟨K, KX, c⟩ := Y
  have C := facts KX G c hini
  obtain ⟨fd, F⟩ := C.fun_ i dt hi
  have e := C.mgf i dt hi
  rw [hnm] at hmg
  have e2 := hmg.symm.trans e
  cases e2
  refine ⟨K, fd, spOf (cfgOf K ds) (callAt (ds.map (·.fd)) n i), KX, fun s u => ?_, fun H a ns hl hO hS => ?_, fun base hb hns => ?_⟩
  · have b := (hd i dt hi).bind
    unfold BindT at b
    rw [hk, hps] at b
    exact FunD.bindsA (ps := [x]) F b s [u] rfl
  · obtain ⟨S, hS'⟩ := law ns hl
    refine spOf.ok (w := ⟨[], H⟩) (S := []) (ds := [.scr ns]) ⟨fun a o h => h, rfl, fun l a o h => by simp at h, fun i j a h => by simp at h⟩ (.cons (by simp only [RelD]; exact ⟨a, rfl, hS⟩) .nil) hS' fun w' H' v _ _ r => ?_
    simpa only [RelD] using r
  · have C' := facts hb hns c hini
    rw [← hps]
    exact fn_all C' ht hd n i dt fd hi F
end MP

/-! MP13: the head's facts, by parts: each part's run by itself, joined. -/
namespace MP
open PySem PySem.W PySem.Calls PyProof.Rows
/-- where the facts look: what the globals reach in n steps, the made-up classes' own starts and what these reach -/
def asM (n : Nat) (g : Glob) (gt : Addr → Option Obj) : List Addr :=
  sysModules :: cStatics :: (He.asD gt n ++ g.ini.flatMap fun d => He.fAd (He.frG gt (He.asD gt n)) (d.C, some "__init__") :: (match gt (He.fAd (He.frG gt (He.asD gt n)) (d.C, some "__init__")) with
    | some o => He.refsD o
    | none => []))
def frK (n : Nat) (g : Glob) (gt : Addr → Option Obj) : PySem.W.Frag := He.frG gt (asM n g gt)
/-- the hook of a law's facts, by few addresses -/
def hookN (n : Nat) (g : Glob) (ds : List DefT) : PySem.W.Hook where
  α := He.AlT × Bool
  obs := fun s => obsM g ds (frK n g s.heap.get?)
  val := fun w => valM g ds w
  says := fun w h => ∃ K : PySem.W.Frag, K.In h ∧ SaysM g ds w K
  of := fun _ _ e => ⟨_, He.frG_in, e⟩
  keeps := fun _ _ _ ⟨K, hK, c⟩ k => ⟨K, PySem.W.Frag.In.keeps hK k, c⟩
def obN (n : Nat) (g : Glob) (ds : List DefT) (s : PySem.W.SharedT) : He.AlT × Bool := obsM g ds (frK n g (HandSHeadRun.getT s))
theorem obN_eq (n : Nat) (g : Glob) (ds : List DefT) (s : PySem.W.SharedT) : obN n g ds s = (hookN n g ds).obs s.abs := by
  have e : HandSHeadRun.getT s = s.abs.heap.get? := funext fun a => HandSHeadRun.getT_eq s a
  show obsM g ds (frK n g (HandSHeadRun.getT s)) = obsM g ds (frK n g s.abs.heap.get?)
  rw [e]
def hookF (n : Nat) (g : Glob) {α : Type} (f : PySem.W.Frag → α) (v : World → α) : PySem.W.Hook where
  α := α
  obs := fun s => f (frK n g s.heap.get?)
  val := v
  says := fun w h => ∃ K : PySem.W.Frag, K.In h ∧ f K = v w
  of := fun _ _ e => ⟨_, He.frG_in, e⟩
  keeps := fun _ _ _ ⟨K, hK, c⟩ k => ⟨K, PySem.W.Frag.In.keeps hK k, c⟩
def obF (n : Nat) (g : Glob) {α : Type} (f : PySem.W.Frag → α) (s : PySem.W.SharedT) : α := f (frK n g (HandSHeadRun.getT s))
def fnsOf (g : Glob) (ds : List DefT) : List He.DefD := ds.map ddOf ++ g.ini.map ddI
def fW (L : List He.DefD) (K : PySem.W.Frag) : List He.FnW := L.map fun d => He.fnW K d.at_
def vW (L : List He.DefD) (_ : World) : List He.FnW := L.map He.DefD.val
abbrev TabW : Type := List (Option (List (Option (PySem.Str × Int))))
def fO (L : List He.DefD) (K : PySem.W.Frag) : Bool := L.all fun d => d.ok K
def fT (g : Glob) (K : PySem.W.Frag) : TabW := (tabsOf g).map fun t => He.dicW K (t.1 K)
def vT (g : Glob) (w : World) : TabW := (tabsOf g).map fun t => some (He.keysIn w.params t.2)
def vY (_ : World) : Bool := true
section
variable {r : OpenRow} {q : Program} {g : Glob} {M n : Nat} {loose : List PySem.Str} {w : World} {L1 L2 : List He.DefD}
theorem run_app (h1 : HandSHeadRun.RunEq r q (hookF n g (fW L1) (vW L1)) (obF n g (fW L1)) M loose w) (h2 : HandSHeadRun.RunEq r q (hookF n g (fW L2) (vW L2)) (obF n g (fW L2)) M loose w) : HandSHeadRun.RunEq r q (hookF n g (fW (L1 ++ L2)) (vW (L1 ++ L2))) (obF n g (fW (L1 ++ L2))) M loose w := by
  intro os
  have a := h1 os
  have b := h2 os
  revert a b
  generalize HandSHeadRun.endF _ _ _ _ _ = x
  intro a b
  cases x with
  | none => cases a
  | some s =>
    simp only [Option.map_some, Option.some.injEq, Prod.mk.injEq] at a b ⊢
    refine ⟨a.1, a.2.1, ?_⟩
    have a3 : fW L1 (frK n g (HandSHeadRun.getT s)) = vW L1 w := a.2.2
    have b3 : fW L2 (frK n g (HandSHeadRun.getT s)) = vW L2 w := b.2.2
    show fW (L1 ++ L2) (frK n g (HandSHeadRun.getT s)) = vW (L1 ++ L2) w
    unfold fW vW at a3 b3 ⊢
    rw [List.map_append, List.map_append, a3, b3]
theorem run_all {ds : List DefT} (h1 : HandSHeadRun.RunEq r q (hookF n g (fW (fnsOf g ds)) (vW (fnsOf g ds))) (obF n g (fW (fnsOf g ds))) M loose w)
    (h2 : HandSHeadRun.RunEq r q (hookF n g (fO (fnsOf g ds)) vY) (obF n g (fO (fnsOf g ds))) M loose w) (h3 : HandSHeadRun.RunEq r q (hookF n g (fT g) (vT g)) (obF n g (fT g)) M loose w) (h4 : HandSHeadRun.RunEq r q (hookF n g (chk g ds) vY) (obF n g (chk g ds)) M loose w) :
    HandSHeadRun.RunEq r q (hookN n g ds) (obN n g ds) M loose w := by
  intro os
  have a := h1 os
  have b := h2 os
  have c := h3 os
  have d := h4 os
  revert a b c d
  generalize HandSHeadRun.endF _ _ _ _ _ = x
  intro a b c d
  cases x with
  | none => cases a
  | some s =>
    have a1 := Option.some.inj a
    have a3 : fW (fnsOf g ds) (frK n g (HandSHeadRun.getT s)) = vW (fnsOf g ds) w := congrArg (fun t => t.2.2) a1
    have b3 : fO (fnsOf g ds) (frK n g (HandSHeadRun.getT s)) = true := congrArg (fun t => t.2.2) (Option.some.inj b)
    have c3 : fT g (frK n g (HandSHeadRun.getT s)) = vT g w := congrArg (fun t => t.2.2) (Option.some.inj c)
    have d3 : chk g ds (frK n g (HandSHeadRun.getT s)) = true := congrArg (fun t => t.2.2) (Option.some.inj d)
    refine congrArg some (Prod.ext (congrArg (fun t => t.1) a1) (Prod.ext (congrArg (fun t => t.2.1) a1) ?_))
    show obsM g ds (frK n g (HandSHeadRun.getT s)) = valM g ds w
    unfold fO at b3
    unfold fT vT at c3
    unfold obsM valM He.obsT He.valT He.obsD He.valD
    unfold fW vW at a3
    have e : ds.map ddOf ++ g.ini.map ddI = fnsOf g ds := rfl
    rw [e, a3, b3, c3, d3]
    rfl
end
end MP

set_option exponentiation.threshold 5000
/-! LK: plain laws of the plain machine; what all the laws' texts share. -/
namespace MP
open PySem L2

/-! ### data -/
mutual
def dat0B : D → Bool
  | .non => true | .bl _ => true | .int _ => true
  | .str x => PyData.strOk x
  | .tup xs => dats0B xs
  | .lst xs => dats0B xs
  | _ => false
def dats0B : List D → Bool
  | [] => true
  | x :: xs => dat0B x && dats0B xs
end
/-! data, empty dicts among them -/
mutual
def datB : D → Bool
  | .non => true | .bl _ => true | .int _ => true
  | .str _ => true
  | .tup xs => datsB xs
  | .lst xs => datsB xs
  | .dct _ xs => datsB xs
  | .emp => true
  | _ => false
def datsB : List D → Bool
  | [] => true
  | x :: xs => datB x && datsB xs
end
mutual
def dep : D → Nat
  | .tup xs => deps xs + 1
  | .lst xs => deps xs + 1
  | .dct _ xs => deps xs + 1
  | _ => 0
def deps : List D → Nat
  | [] => 0
  | x :: xs => max (dep x) (deps xs)
end
mutual
def eqB : D → D → Bool
  | .non, .non => true
  | .bl a, .bl b => a == b
  | .bl a, .int j => (if a then 1 else 0) == j
  | .int i, .bl b => i == (if b then 1 else 0)
  | .int i, .int j => i == j
  | .str x, .str y => x == y
  | .tup xs, .tup ys => eqsB xs ys
  | .lst xs, .lst ys => eqsB xs ys
  | _, _ => false
def eqsB : List D → List D → Bool
  | [], [] => true
  | x :: xs, y :: ys => eqB x y && eqsB xs ys
  | _, _ => false
end
mutual
theorem toPy_dat : ∀ d : D, dat0B d = true → ∃ p, toPy d = some p ∧ p.canLay0 = true ∧ p.depth = dep d
  | .non, _ => ⟨.none, rfl, rfl, rfl⟩
  | .bl b, _ => ⟨.bool b, rfl, rfl, rfl⟩
  | .int i, _ => ⟨.int i, rfl, rfl, rfl⟩
  | .str x, h => ⟨.str x, rfl, h, rfl⟩
  | .tup xs, h => by
    obtain ⟨ps, h1, h2, h3⟩ := toPys_dat xs (by simpa only [dat0B] using h)
    exact ⟨.tuple ps, by simp only [toPy, h1]; rfl, by simpa only [PyData.canLay0] using h2, by simp only [PyData.depth, dep, h3]⟩
  | .lst xs, h => by
    obtain ⟨ps, h1, h2, h3⟩ := toPys_dat xs (by simpa only [dat0B] using h)
    exact ⟨.list ps, by simp only [toPy, h1]; rfl, by simpa only [PyData.canLay0] using h2, by simp only [PyData.depth, dep, h3]⟩
  | .scr _, h => by simp only [dat0B] at h; cases h
  | .ref _, h => by simp only [dat0B] at h; cases h
  | .fn _, h => by simp only [dat0B] at h; cases h
  | .ty _, h => by simp only [dat0B] at h; cases h
  | .dct _ _, h => by simp only [dat0B] at h; cases h
  | .emp, h => by simp only [dat0B] at h; cases h
theorem toPys_dat : ∀ d : List D, dats0B d = true → ∃ p, toPys d = some p ∧ PyData.canLayAll0 p = true ∧ PyData.depthAll p = deps d
  | [], _ => ⟨[], rfl, rfl, rfl⟩
  | x :: xs, h => by
    simp only [dats0B, Bool.and_eq_true] at h
    obtain ⟨p, h1, h2, h3⟩ := toPy_dat x h.1
    obtain ⟨ps, k1, k2, k3⟩ := toPys_dat xs h.2
    exact ⟨p :: ps, by simp only [toPys, h1, k1]; rfl, by simp only [PyData.canLayAll0, h2, k2]; rfl, by simp only [PyData.depthAll, deps, h3, k3]⟩
end
mutual
theorem eqB_ok : ∀ (a b : D) (p q : PyData), toPy a = some p → toPy b = some q → PyData.eqv p q = eqB a b
  | a, b, p, q, h1, h2 => by
    cases a <;> simp only [toPy] at h1 <;> try (cases h1; done)
    all_goals cases b <;> simp only [toPy] at h2 <;> try (cases h2; done)
    all_goals try (rw [Option.map_eq_some_iff] at h1; obtain ⟨p', h1, rfl⟩ := h1)
    all_goals try (rw [Option.map_eq_some_iff] at h2; obtain ⟨q', h2, rfl⟩ := h2)
    all_goals try cases h1
    all_goals try cases h2
    all_goals simp only [PyData.eqv, eqB]
    all_goals try exact eqsB_ok _ _ _ _ h1 h2
theorem eqsB_ok : ∀ (a b : List D) (p q : List PyData), toPys a = some p → toPys b = some q → PyData.eqvAll p q = eqsB a b
  | [], [], p, q, h1, h2 => by simp only [toPys] at h1 h2; cases h1; cases h2; rfl
  | [], b :: bs, p, q, h1, h2 => by
    simp only [toPys] at h1 h2; cases h1
    rw [Option.bind_eq_some_iff] at h2
    obtain ⟨z, _, h2⟩ := h2
    rw [Option.map_eq_some_iff] at h2
    obtain ⟨r, _, rfl⟩ := h2
    rfl
  | a :: as, [], p, q, h1, h2 => by
    simp only [toPys] at h1 h2; cases h2
    rw [Option.bind_eq_some_iff] at h1
    obtain ⟨z, _, h1⟩ := h1
    rw [Option.map_eq_some_iff] at h1
    obtain ⟨r, _, rfl⟩ := h1
    rfl
  | a :: as, b :: bs, p, q, h1, h2 => by
    simp only [toPys] at h1 h2
    rw [Option.bind_eq_some_iff] at h1 h2
    obtain ⟨z, z1, h1⟩ := h1
    obtain ⟨y, y1, h2⟩ := h2
    rw [Option.map_eq_some_iff] at h1 h2
    obtain ⟨r, r1, rfl⟩ := h1
    obtain ⟨t, t1, rfl⟩ := h2
    simp only [PyData.eqvAll, eqsB, eqB_ok a b z y z1 y1, eqsB_ok as bs r t r1 t1]
end
theorem eqG_dat {a b : D} (ha : dat0B a = true) (hb : dat0B b = true) (da : dep a ≤ 64) (db : dep b ≤ 64) : eqG a b = some (eqB a b) := by
  obtain ⟨p, p1, p2, p3⟩ := toPy_dat a ha
  obtain ⟨q, q1, q2, q3⟩ := toPy_dat b hb
  unfold eqG SeqAt.shaped
  rw [p1, q1]
  simp only [Option.bind_some]
  rw [p2, q2, p3, q3, decide_eq_true da, decide_eq_true db, eqB_ok a b p q p1 q1]
  rfl
theorem eqD_dat {a b : D} (ha : dat0B a = true) (hb : dat0B b = true) (da : dep a ≤ 64) (db : dep b ≤ 64) : eqD a b = some (eqB a b) := by
  unfold eqD
  split
  · simp only [eqB]
  · rename_i xs
    cases xs <;> rfl
  · rename_i xs
    cases xs <;> rfl
  · exact eqG_dat ha hb da db
theorem eqD_int (i j : Int) : eqD (.int i) (.int j) = some (i == j) := eqD_dat rfl rfl (Nat.zero_le _) (Nat.zero_le _)
theorem datsB_ints : ∀ ns : List Int, dats0B (ns.map D.int) = true
  | [] => rfl
  | n :: ns => by simp only [List.map_cons, dats0B, dat0B, datsB_ints ns]; rfl
theorem deps_ints : ∀ ns : List Int, deps (ns.map D.int) = 0
  | [] => rfl
  | n :: ns => by simp only [List.map_cons, deps, dep, deps_ints ns]; rfl
theorem eqD_ints_nil (ns : List Int) : eqD (.lst (ns.map .int)) (.lst []) = some ns.isEmpty := by
  rw [eqD_dat (by simp only [dat0B]; exact datsB_ints ns) rfl (by simp only [dep, deps_ints]; decide) (by decide)]
  cases ns <;> rfl

/-! ### the machine by rows -/
theorem callAt_at {T : List FD} {n f : Nat} {d : FD} {ds : List D} {S : Store} (h : T[f]? = some d) (hl : ds.length = d.ps) : callAt T (n + 1) f ds S = match exs (callAt T n) d.body (startE ds d.ns) S with
    | .nx _ S' => .ok .non S'
    | .rt r S' => .ok r S'
    | .ex d S' => .exc d S'
    | _ => .bad := by
  simp only [callAt, h, hl, if_true] <;> (generalize exs (callAt T n) d.body (startE ds d.ns) S = o; cases o <;> rfl)

/-! ### the hand: a list of digits and a seed, picks -/
abbrev P61 : Int := 2305843009213693951
structure Hand (S : Store) (l m : Nat) (xs : List Int) (seed : Int) : Prop where
  ne : l ≠ m
  h : S[l]? = some (.lst [.ref m, .int seed])
  g : S[m]? = some (.lst (xs.map .int))
  lo : 0 ≤ seed
  hi : seed < P61
  len : xs.length ≤ 63
def HandOk (S : Store) (l m : Nat) : Prop := ∃ xs seed, Hand S l m xs seed
/-- all else stands as it stood -/
structure Still (l m : Nat) (S S' : Store) : Prop where
  len : S'.length = S.length
  el : ∀ j : Nat, j ≠ l → j ≠ m → S'[j]? = S[j]?
theorem Still.refl {l m : Nat} {S : Store} : Still l m S S := ⟨rfl, fun _ _ _ => rfl⟩
theorem Still.trans {l m : Nat} {S S1 S2 : Store} (a : Still l m S S1) (b : Still l m S1 S2) : Still l m S S2 := ⟨b.len.trans a.len, fun j h k => (b.el j h k).trans (a.el j h k)⟩
theorem Still.set {l m k : Nat} {S : Store} {o : Ob} (h : k = l ∨ k = m) : Still l m S (S.set k o) := ⟨List.length_set, fun j a b => List.getElem?_set_ne (by rcases h with h | h <;> omega)⟩
theorem Hand.lt {S : Store} {l m : Nat} {xs : List Int} {seed : Int} (H : Hand S l m xs seed) : l < S.length ∧ m < S.length := ⟨(List.getElem?_eq_some_iff.mp H.h).1, (List.getElem?_eq_some_iff.mp H.g).1⟩
theorem Hand.digits {S : Store} {l m : Nat} {xs ys : List Int} {seed : Int} (H : Hand S l m xs seed) (h : ys.length ≤ 63) : Hand (S.set m (.lst (ys.map .int))) l m ys seed :=
  ⟨H.ne, by rw [List.getElem?_set_ne (Ne.symm H.ne)]; exact H.h, List.getElem?_set_self H.lt.2, H.lo, H.hi, h⟩
theorem Hand.seeds {S : Store} {l m : Nat} {xs : List Int} {seed z : Int} (H : Hand S l m xs seed) (h0 : 0 ≤ z) (h1 : z < P61) : Hand (S.set l (.lst [.ref m, .int z])) l m xs z :=
  ⟨H.ne, List.getElem?_set_self H.lt.1, by rw [List.getElem?_set_ne H.ne]; exact H.g, h0, h1, H.len⟩
/-- the store grows -/
theorem Hand.more {S : Store} {l m : Nat} {xs : List Int} {seed : Int} (H : Hand S l m xs seed) (Z : List Ob) : Hand (S ++ Z) l m xs seed :=
  ⟨H.ne, by rw [List.getElem?_append_left H.lt.1]; exact H.h, by rw [List.getElem?_append_left H.lt.2]; exact H.g, H.lo, H.hi, H.len⟩
def bPick : List SA := [
  .while_ (.and (.cmp .ne (.ix (.var 0) (.con (.int 0))) (.lst [])) (.cmp .eq (.ix (.ix (.var 0) (.con (.int 0))) (.con (.int 0))) (.con (.int 0)))) [.expr (.mth .pop1 (.ix (.var 0) (.con (.int 0))) [.con (.int 0)])],
  .ifs (.cmp .ne (.ix (.var 0) (.con (.int 0))) (.lst [])) [.asg (.name 2) (.bin .mod (.ix (.ix (.var 0) (.con (.int 0))) (.con (.int 0))) (.var 1)), .setIx (.bin .fdiv (.ix (.ix (.var 0) (.con (.int 0))) (.con (.int 0))) (.var 1)) (.ix (.var 0) (.con (.int 0))) (.con (.int 0)), .ret (.var 2)] [],
  .setIx (.bin .mod (.bin .add (.bin .mul (.ix (.var 0) (.con (.int 1))) (.con (.int 3935559000370003))) (.con (.int 2691343689449507))) (.con (.int 2305843009213693951))) (.var 0) (.con (.int 1)),
  .asg (.name 3) (.bin .fdiv (.ix (.var 0) (.con (.int 1))) (.con (.int 65537))),
  .ret (.bin .mod (.bin .fdiv (.bin .mod (.bin .mul (.var 3) (.bin .add (.bin .mod (.var 3) (.con (.int 8191))) (.con (.int 3)))) (.con (.int 2305843009213693921))) (.con (.int 4099))) (.var 1))]
section
variable {F : Fn} {env : Env} {S : Store} {l m : Nat} {xs : List Int} {seed : Int}
theorem atI_0 {α : Type} (x : α) (r : List α) : atI (x :: r) 0 = some x := by
  unfold atI ixN
  rw [if_pos (by omega), if_pos (by simp only [List.length_cons]; omega)]
  rfl
theorem atI_1 {α : Type} (x y : α) (r : List α) : atI (x :: y :: r) 1 = some y := by
  unfold atI ixN
  rw [if_pos (by omega), if_pos (by simp only [List.length_cons]; omega)]
  rfl
theorem hand_0 (H : Hand S l m xs seed) (h0 : env[0]? = some (some (.ref l))) : ev F (.ix (.var 0) (.con (.int 0))) env S = .ok (.ref m) S := by
  simp only [ev, h0, Res.bind_ok, deref, H.h, ixD, atI_0]
  rfl
theorem hand_1 (H : Hand S l m xs seed) (h0 : env[0]? = some (some (.ref l))) : ev F (.ix (.var 0) (.con (.int 1))) env S = .ok (.int seed) S := by
  simp only [ev, h0, Res.bind_ok, deref, H.h, ixD, atI_1]
  rfl
theorem hand_00 {x : Int} {ys : List Int} (H : Hand S l m (x :: ys) seed) (h0 : env[0]? = some (some (.ref l))) : ev F (.ix (.ix (.var 0) (.con (.int 0))) (.con (.int 0))) env S = .ok (.int x) S := by
  have h := hand_0 (F := F) H h0
  generalize E.ix (.var 0) (.con (.int 0)) = e at h ⊢
  simp only [ev, h, Res.bind_ok, deref, H.g, ixD, List.map_cons, atI_0]
  rfl
theorem hand_ne (H : Hand S l m xs seed) (h0 : env[0]? = some (some (.ref l))) : ev F (.cmp .ne (.ix (.var 0) (.con (.int 0))) (.lst [])) env S = .ok (.bl (!xs.isEmpty)) S := by
  have h := hand_0 (F := F) H h0
  generalize E.ix (.var 0) (.con (.int 0)) = e at h ⊢
  simp only [ev, evs, h, Res.bind_ok, deref, H.g, List.length_nil, Nat.zero_le, if_true, cmpD, eqD_ints_nil]
  rfl
theorem pick_cond (H : Hand S l m xs seed) (h0 : env[0]? = some (some (.ref l))) : ev F (.and (.cmp .ne (.ix (.var 0) (.con (.int 0))) (.lst [])) (.cmp .eq (.ix (.ix (.var 0) (.con (.int 0))) (.con (.int 0))) (.con (.int 0)))) env S = .ok (.bl (match xs with | [] => false | x :: _ => x == 0)) S := by
  have h := hand_ne (F := F) H h0
  cases xs with
  | nil =>
    generalize E.cmp .ne (.ix (.var 0) (.con (.int 0))) (.lst []) = e at h ⊢
    simp only [ev, h, Res.bind_ok, List.isEmpty_nil, Bool.not_true]
  | cons x ys =>
    have h2 := hand_00 (F := F) H h0
    generalize E.cmp .ne (.ix (.var 0) (.con (.int 0))) (.lst []) = e at h ⊢
    generalize E.ix (.ix (.var 0) (.con (.int 0))) (.con (.int 0)) = e2 at h2 ⊢
    simp only [ev, h, h2, Res.bind_ok, List.isEmpty_cons, Bool.not_false, deref, cmpD, eqD_int]
    rfl
theorem pick_loop : ∀ (xs : List Int) (fuel : Nat) (S : Store), Hand S l m xs seed → env[0]? = some (some (.ref l)) → xs.length < fuel →
    ∃ S' ys, loopW (ev F (.and (.cmp .ne (.ix (.var 0) (.con (.int 0))) (.lst [])) (.cmp .eq (.ix (.ix (.var 0) (.con (.int 0))) (.con (.int 0))) (.con (.int 0))))) (exs F [.expr (.mth .pop1 (.ix (.var 0) (.con (.int 0))) [.con (.int 0)])]) fuel env S = .nx env S' ∧ Hand S' l m ys seed ∧ Still l m S S'
  | xs, 0, S, H, h0, hf => absurd hf (Nat.not_lt_zero _)
  | xs, n + 1, S, H, h0, hf => by
    have hc := pick_cond (F := F) H h0
    cases xs with
    | nil =>
      refine ⟨S, [], ?_, H, .refl⟩
      simp only [loopW, hc]
    | cons x ys =>
      by_cases hx : x = 0
      · subst hx
        have hl : ys.length ≤ 63 := by have := H.len; simp only [List.length_cons] at this; omega
        have H' : Hand (S.set m (.lst (ys.map .int))) l m ys seed := H.digits hl
        obtain ⟨S', zs, e, H2, st⟩ := pick_loop ys n _ H' h0 (by simp only [List.length_cons] at hf; omega)
        refine ⟨S', zs, ?_, H2, (Still.set (.inr rfl)).trans st⟩
        have hb : exs F [.expr (.mth .pop1 (.ix (.var 0) (.con (.int 0))) [.con (.int 0)])] env S = .nx env (S.set m (.lst (ys.map .int))) := by
          have h := hand_0 (F := F) H h0
          generalize E.ix (.var 0) (.con (.int 0)) = e at h ⊢
          have hz : (D.int 0 :: ys.map D.int).length ≤ LIM := by simp only [List.length_cons, List.length_map]; show ys.length + 1 ≤ 100000; omega
          have hi : ixN (D.int 0 :: ys.map D.int).length 0 = some 0 := by
            unfold ixN
            rw [if_pos (by omega), if_pos (by simp only [List.length_cons]; omega)]
            rfl
          simp only [exs, ex, ev, evs, h, Res.bind_ok, deref, H.g, List.map_cons, mty, mthD, isMut, mthM, hz, hi, if_true, Out.of, Out.then, Option.bind_some, List.getElem?_cons_zero, Option.map_some, List.eraseIdx_cons_zero]
          rfl
        have e0 : ((0 : Int) == 0) = true := rfl
        simp only [loopW, hc, e0, hb]
        exact e
      · refine ⟨S, x :: ys, ?_, H, .refl⟩
        simp only [loopW, hc, beq_eq_false_iff_ne.mpr hx]
theorem nat_lt_pow {i : Int} (h0 : 0 ≤ i) (h1 : i < 2305843009213693952 * 2305843009213693952) : i.natAbs < 2 ^ 4096 := by
  have h2 : i.natAbs < 2 ^ 122 := by
    have : (2 : Nat) ^ 122 = 2305843009213693952 * 2305843009213693952 := by decide
    omega
  exact Nat.lt_of_lt_of_le h2 (Nat.pow_le_pow_right (by decide) (by decide))
theorem mulOk_w {i j : Int} (h0 : 0 ≤ i) (h1 : i < 2305843009213693952 * 2305843009213693952) (k0 : 0 ≤ j) (k1 : j < 2305843009213693952 * 2305843009213693952) : mulOk i j = true := by
  unfold mulOk
  rw [decide_eq_true (nat_lt_pow h0 h1), decide_eq_true (nat_lt_pow k0 k1)]
  rfl
/-- PICK: a number below many -/
theorem pick_ok {T : List FD} {p n : Nat} (hT : T[p]? = some ⟨2, 4, bPick⟩) (H : HandOk S l m) {k : Int} (k0 : 0 < k) (k1 : k ≤ 1000000000) :
    ∃ i S', callAt T (n + 1) p [.ref l, .int k] S = .ok (.int i) S' ∧ 0 ≤ i ∧ i < k ∧ HandOk S' l m ∧ Still l m S S' := by
  obtain ⟨xs, seed, H⟩ := H
  rw [callAt_at hT rfl]
  generalize callAt T n = F
  obtain ⟨S1, ys, e, H1, st⟩ := pick_loop (F := F) (env := startE [.ref l, .int k] 4) xs WN S H rfl (by have := H.len; show _ < 100000; omega)
  have k2 : k.natAbs < 2 ^ 4096 := nat_lt_pow (by omega) (by omega)
  have hne := hand_ne (F := F) (env := startE [.ref l, .int k] 4) H1 rfl
  have w1 : ex F (.while_ (.and (.cmp .ne (.ix (.var 0) (.con (.int 0))) (.lst [])) (.cmp .eq (.ix (.ix (.var 0) (.con (.int 0))) (.con (.int 0))) (.con (.int 0)))) [.expr (.mth .pop1 (.ix (.var 0) (.con (.int 0))) [.con (.int 0)])]) (startE [.ref l, .int k] 4) S = .nx (startE [.ref l, .int k] 4) S1 := by
    simp only [ex]
    exact e
  cases ys with
  | cons x ys =>
    have h00 := hand_00 (F := F) (env := startE [.ref l, .int k] 4) H1 rfl
    have hd := H1.digits (ys := x / k :: ys) H1.len
    have s1 : ex F (.asg (.name 2) (.bin .mod (.ix (.ix (.var 0) (.con (.int 0))) (.con (.int 0))) (.var 1))) (startE [.ref l, .int k] 4) S1 = .nx [some (.ref l), some (.int k), some (.int (x % k)), none] S1 := by
      generalize E.ix (.ix (.var 0) (.con (.int 0))) (.con (.int 0)) = e2 at h00 ⊢
      have h1 : (startE [.ref l, .int k] 4)[1]? = some (some (.int k)) := rfl
      simp only [ex, ev, h00, Res.bind_ok, h1, deref, binD, if_pos k0, opt, Out.of]
      rfl
    have h0' : ([some (.ref l), some (.int k), some (.int (x % k)), none] : Env)[0]? = some (some (.ref l)) := rfl
    have h1' : ([some (.ref l), some (.int k), some (.int (x % k)), none] : Env)[1]? = some (some (.int k)) := rfl
    have h2' : ([some (.ref l), some (.int k), some (.int (x % k)), none] : Env)[2]? = some (some (.int (x % k))) := rfl
    have s2 : ex F (.setIx (.bin .fdiv (.ix (.ix (.var 0) (.con (.int 0))) (.con (.int 0))) (.var 1)) (.ix (.var 0) (.con (.int 0))) (.con (.int 0))) [some (.ref l), some (.int k), some (.int (x % k)), none] S1 = .nx [some (.ref l), some (.int k), some (.int (x % k)), none] (S1.set m (.lst ((x / k :: ys).map .int))) := by
      have g0 := hand_0 (F := F) H1 h0'
      have g00 := hand_00 (F := F) H1 h0'
      have hi : ixN (D.int x :: ys.map D.int).length 0 = some 0 := by
        unfold ixN
        rw [if_pos (by omega), if_pos (by simp only [List.length_cons]; omega)]
        rfl
      generalize E.ix (.ix (.var 0) (.con (.int 0))) (.con (.int 0)) = e2 at g00 ⊢
      generalize E.ix (.var 0) (.con (.int 0)) = e1 at g0 ⊢
      simp only [ex, ev, g0, g00, Res.bind_ok, h1', deref, binD, if_pos (And.intro k0 k2), opt, Out.of, setIxD, H1.g, List.map_cons, hi, Option.map_some, List.set_cons_zero]
    have s3 : ex F (.ret (.var 2)) [some (.ref l), some (.int k), some (.int (x % k)), none] (S1.set m (.lst ((x / k :: ys).map .int))) = .rt (.int (x % k)) (S1.set m (.lst ((x / k :: ys).map .int))) := by
      simp only [ex, ev, h2', Out.of]
    refine ⟨x % k, S1.set m (.lst ((x / k :: ys).map .int)), ?_, Int.emod_nonneg _ (by omega), Int.emod_lt_of_pos _ k0, ⟨_, _, hd⟩, st.trans (Still.set (.inr rfl))⟩
    have i1 : ex F (.ifs (.cmp .ne (.ix (.var 0) (.con (.int 0))) (.lst [])) [.asg (.name 2) (.bin .mod (.ix (.ix (.var 0) (.con (.int 0))) (.con (.int 0))) (.var 1)), .setIx (.bin .fdiv (.ix (.ix (.var 0) (.con (.int 0))) (.con (.int 0))) (.var 1)) (.ix (.var 0) (.con (.int 0))) (.con (.int 0)), .ret (.var 2)] []) (startE [.ref l, .int k] 4) S1 = .rt (.int (x % k)) (S1.set m (.lst ((x / k :: ys).map .int))) := by
      generalize SA.setIx (.bin .fdiv (.ix (.ix (.var 0) (.con (.int 0))) (.con (.int 0))) (.var 1)) (.ix (.var 0) (.con (.int 0))) (.con (.int 0)) = a2 at s2 ⊢
      generalize SA.asg (.name 2) (.bin .mod (.ix (.ix (.var 0) (.con (.int 0))) (.con (.int 0))) (.var 1)) = a1 at s1 ⊢
      generalize E.cmp .ne (.ix (.var 0) (.con (.int 0))) (.lst []) = c1 at hne ⊢
      simp only [ex, hne, Out.of, List.isEmpty_cons, Bool.not_false, exs, s1, s2, Out.then]
      simp only [ev, h2']
    have all : exs F bPick (startE [.ref l, .int k] 4) S = .rt (.int (x % k)) (S1.set m (.lst ((x / k :: ys).map .int))) := by
      unfold bPick
      simp only [exs, w1, i1, Out.then]
    show (match exs F bPick (startE [.ref l, .int k] 4) S with | Out.nx _ S' => Res.ok D.non S' | Out.rt r S' => Res.ok r S' | Out.ex d S' => Res.exc d S' | _ => Res.bad) = _
    rw [all]
  | nil =>
    have h1 : ev F (.ix (.var 0) (.con (.int 1))) (startE [.ref l, .int k] 4) S1 = .ok (.int seed) S1 := hand_1 H1 rfl
    have i1 : ex F (.ifs (.cmp .ne (.ix (.var 0) (.con (.int 0))) (.lst [])) [.asg (.name 2) (.bin .mod (.ix (.ix (.var 0) (.con (.int 0))) (.con (.int 0))) (.var 1)), .setIx (.bin .fdiv (.ix (.ix (.var 0) (.con (.int 0))) (.con (.int 0))) (.var 1)) (.ix (.var 0) (.con (.int 0))) (.con (.int 0)), .ret (.var 2)] []) (startE [.ref l, .int k] 4) S1 = .nx (startE [.ref l, .int k] 4) S1 := by
      generalize E.cmp .ne (.ix (.var 0) (.con (.int 0))) (.lst []) = c1 at hne ⊢
      simp only [ex, hne, Out.of, List.isEmpty_nil, Bool.not_true, exs]
    have b0 := H1.lo
    have b1 : seed < 2305843009213693951 := H1.hi
    have m1 : mulOk seed 3935559000370003 = true := mulOk_w b0 (by omega) (by omega) (by omega)
    have z0 : 0 ≤ (seed * 3935559000370003 + 2691343689449507) % 2305843009213693951 := Int.emod_nonneg _ (by decide)
    have z1 : (seed * 3935559000370003 + 2691343689449507) % 2305843009213693951 < 2305843009213693951 := Int.emod_lt_of_pos _ (by decide)
    generalize hzz : (seed * 3935559000370003 + 2691343689449507) % 2305843009213693951 = z at z0 z1
    have H2 : Hand (S1.set l (.lst [.ref m, .int z])) l m [] z := H1.seeds z0 z1
    have s1 : ex F (.setIx (.bin .mod (.bin .add (.bin .mul (.ix (.var 0) (.con (.int 1))) (.con (.int 3935559000370003))) (.con (.int 2691343689449507))) (.con (.int 2305843009213693951))) (.var 0) (.con (.int 1))) (startE [.ref l, .int k] 4) S1 = .nx (startE [.ref l, .int k] 4) (S1.set l (.lst [.ref m, .int z])) := by
      have h0 : (startE [.ref l, .int k] 4)[0]? = some (some (.ref l)) := rfl
      have hp : (0 : Int) < 2305843009213693951 := by decide
      have hi : ixN [D.ref m, D.int seed].length 1 = some 1 := rfl
      generalize E.ix (.var 0) (.con (.int 1)) = e1 at h1 ⊢
      simp only [ex, ev, h1, Res.bind_ok, h0, deref, binD, m1, if_true, if_pos hp, opt, Out.of, setIxD, H1.h, hi, Option.map_some, hzz]
      rfl
    have h2 : ev F (.ix (.var 0) (.con (.int 1))) (startE [.ref l, .int k] 4) (S1.set l (.lst [.ref m, .int z])) = .ok (.int z) (S1.set l (.lst [.ref m, .int z])) := hand_1 H2 rfl
    generalize hS2 : S1.set l (.lst [.ref m, .int z]) = S2 at *
    have y0 : 0 ≤ z / 65537 := Int.ediv_nonneg z0 (by decide)
    have y1 : z / 65537 < 2305843009213693951 := by omega
    generalize hyy : z / 65537 = y at y0 y1
    have p65 : (0 : Int) < 65537 ∧ (65537 : Int).natAbs < 2 ^ 4096 := ⟨by decide, nat_lt_pow (by decide) (by decide)⟩
    have s2 : ex F (.asg (.name 3) (.bin .fdiv (.ix (.var 0) (.con (.int 1))) (.con (.int 65537)))) (startE [.ref l, .int k] 4) S2 = .nx [some (.ref l), some (.int k), none, some (.int y)] S2 := by
      generalize E.ix (.var 0) (.con (.int 1)) = e1 at h2 ⊢
      simp only [ex, ev, h2, Res.bind_ok, deref, binD, if_pos p65, opt, Out.of, hyy]
      rfl
    have t0 : 0 ≤ y % 8191 + 3 := by omega
    have t1 : y % 8191 + 3 < 10000 := by omega
    have m2 : mulOk y (y % 8191 + 3) = true := mulOk_w y0 (by omega) t0 (by omega)
    have p40 : (0 : Int) < 4099 ∧ (4099 : Int).natAbs < 2 ^ 4096 := ⟨by decide, nat_lt_pow (by decide) (by decide)⟩
    have p81 : (0 : Int) < 8191 := by decide
    have pp : (0 : Int) < 2305843009213693921 := by decide
    refine ⟨y * (y % 8191 + 3) % 2305843009213693921 / 4099 % k, S2, ?_, Int.emod_nonneg _ (by omega), Int.emod_lt_of_pos _ k0, ⟨_, _, H2⟩, st.trans (by rw [← hS2]; exact Still.set (.inl rfl))⟩
    have s3 : ex F (.ret (.bin .mod (.bin .fdiv (.bin .mod (.bin .mul (.var 3) (.bin .add (.bin .mod (.var 3) (.con (.int 8191))) (.con (.int 3)))) (.con (.int 2305843009213693921))) (.con (.int 4099))) (.var 1))) [some (.ref l), some (.int k), none, some (.int y)] S2 = .rt (.int (y * (y % 8191 + 3) % 2305843009213693921 / 4099 % k)) S2 := by
      have g1 : ([some (.ref l), some (.int k), none, some (.int y)] : Env)[1]? = some (some (.int k)) := rfl
      have g3 : ([some (.ref l), some (.int k), none, some (.int y)] : Env)[3]? = some (some (.int y)) := rfl
      simp only [ex, ev, g1, g3, Res.bind_ok, deref, binD, if_pos p81, m2, if_true, if_pos pp, if_pos p40, if_pos k0, opt, Out.of]
    have all : exs F bPick (startE [.ref l, .int k] 4) S = .rt (.int (y * (y % 8191 + 3) % 2305843009213693921 / 4099 % k)) S2 := by
      unfold bPick
      simp only [exs, w1, i1, s1, s2, s3, Out.then]
    show (match exs F bPick (startE [.ref l, .int k] 4) S with | Out.nx _ S' => Res.ok D.non S' | Out.rt r S' => Res.ok r S' | Out.ex d S' => Res.exc d S' | _ => Res.bad) = _
    rw [all]
theorem ixN_lt {n : Nat} {i : Int} (h0 : 0 ≤ i) (h1 : i < n) : ixN n i = some i.toNat := by
  unfold ixN
  rw [if_pos h0, if_pos h1]
theorem atI_mem {α : Type} {xs : List α} {i : Int} (h0 : 0 ≤ i) (h1 : i < xs.length) : ∃ x, atI xs i = some x ∧ x ∈ xs := by
  unfold atI
  rw [ixN_lt h0 h1]
  have h2 : i.toNat < xs.length := by omega
  exact ⟨xs[i.toNat], List.getElem?_eq_getElem h2, List.getElem_mem h2⟩
def bOf (p : Nat) : List SA := [.ret (.ix (.var 1) (.call p [.var 0, .blt .len [.var 1]]))]
/-- one of a sequence's items, as the machine takes it -/
theorem of_any {T : List FD} {p o n : Nat} (hT : T[p]? = some ⟨2, 4, bPick⟩) (hO : T[o]? = some ⟨2, 2, bOf p⟩) (H : HandOk S l m) {d : D} {k : Nat} (hd : deref S d = d) (hd' : ∀ S', deref S' d = d) (hlen : bltD .len [d] = some (.int k)) (k0 : 0 < k) (k1 : k ≤ 100000) :
    ∃ i S', callAt T (n + 2) o [.ref l, d] S = opt (ixD d (.int i)) S' ∧ 0 ≤ i ∧ i < k ∧ HandOk S' l m ∧ Still l m S S' := by
  obtain ⟨i, S', e, h0, h1, H', st⟩ := pick_ok (n := n) hT H (k := (k : Int)) (by omega) (by omega)
  refine ⟨i, S', ?_, h0, h1, H', st⟩
  rw [callAt_at hO rfl]
  have g0 : (startE [.ref l, d] 2)[0]? = some (some (.ref l)) := rfl
  have g1 : (startE [.ref l, d] 2)[1]? = some (some d) := rfl
  have hex : ex (callAt T (n + 1)) (.ret (.ix (.var 1) (.call p [.var 0, .blt .len [.var 1]]))) (startE [.ref l, d] 2) S = Out.of (opt (ixD d (.int i)) S') fun d S1 => .rt d S1 := by
    simp only [ex, ev, evs, g0, g1, Res.bind_ok, List.map_cons, List.map_nil, hd, hlen, opt, e, hd']
  show (match exs (callAt T (n + 1)) (bOf p) (startE [.ref l, d] 2) S with | Out.nx _ S' => Res.ok D.non S' | Out.rt r S' => Res.ok r S' | Out.ex d S' => Res.exc d S' | _ => Res.bad) = _
  unfold bOf
  simp only [exs]
  rw [hex]
  cases ixD d (.int i) <;> rfl
theorem of_lst {T : List FD} {p o n : Nat} (hT : T[p]? = some ⟨2, 4, bPick⟩) (hO : T[o]? = some ⟨2, 2, bOf p⟩) (H : HandOk S l m) {xs : List D} (k0 : 0 < xs.length) (k1 : xs.length ≤ 100000) :
    ∃ x S', callAt T (n + 2) o [.ref l, .lst xs] S = .ok x S' ∧ x ∈ xs ∧ HandOk S' l m ∧ Still l m S S' := by
  obtain ⟨i, S', e, h0, h1, H', st⟩ := of_any (n := n) hT hO H (d := .lst xs) rfl (fun _ => rfl) rfl k0 k1
  obtain ⟨x, h2, h3⟩ := atI_mem h0 h1
  refine ⟨x, S', ?_, h3, H', st⟩
  rw [e]
  simp only [ixD, h2]
  rfl
theorem of_tup {T : List FD} {p o n : Nat} (hT : T[p]? = some ⟨2, 4, bPick⟩) (hO : T[o]? = some ⟨2, 2, bOf p⟩) (H : HandOk S l m) {xs : List D} (k0 : 0 < xs.length) (k1 : xs.length ≤ 100000) :
    ∃ x S', callAt T (n + 2) o [.ref l, .tup xs] S = .ok x S' ∧ x ∈ xs ∧ HandOk S' l m ∧ Still l m S S' := by
  obtain ⟨i, S', e, h0, h1, H', st⟩ := of_any (n := n) hT hO H (d := .tup xs) rfl (fun _ => rfl) rfl k0 k1
  obtain ⟨x, h2, h3⟩ := atI_mem h0 h1
  refine ⟨x, S', ?_, h3, H', st⟩
  rw [e]
  simp only [ixD, h2]
  rfl
theorem of_str {T : List FD} {p o n : Nat} (hT : T[p]? = some ⟨2, 4, bPick⟩) (hO : T[o]? = some ⟨2, 2, bOf p⟩) (H : HandOk S l m) {z : Str} (k0 : 0 < z.length) (k1 : z.length ≤ 100000) :
    ∃ c S', callAt T (n + 2) o [.ref l, .str z] S = .ok (.str ⟨#[c]⟩) S' ∧ c ∈ z.cps.toList ∧ HandOk S' l m ∧ Still l m S S' := by
  have hz : z.length ≤ LIM := k1
  obtain ⟨i, S', e, h0, h1, H', st⟩ := of_any (n := n) hT hO H (d := .str z) rfl (fun _ => rfl) (by simp only [bltD, if_pos (Nat.le_trans k1 (by decide) : z.length ≤ 10000000)]) k0 k1
  have hl : z.cps.toList.length = z.length := by simp [Str.length]
  obtain ⟨x, h2, h3⟩ := atI_mem (xs := z.cps.toList) h0 (by rw [hl]; exact h1)
  refine ⟨x, S', ?_, h3, H', st⟩
  rw [e]
  simp only [ixD, if_pos hz, h2]
  rfl
def turnF (F : Fn) (p : P) (body : List SA) (x : D) (env : Env) (S : Store) : Out := match bindP p x env with
  | none => .bad
  | some env' => exs F body env' S
theorem ex_for {F : Fn} {p : P} {k : IK} {its : List E} {body : List SA} {env : Env} {S : Store} : ex F (.for_ p k its body) env S = .of (evs F its env S) fun ds S1 => match itD k ds with
    | none => .bad
    | some xs => loopF (turnF F p body) xs env S1 := by
  simp only [ex]
  rfl
theorem ev_comp {F : Fn} {mu : Bool} {p : P} {k : IK} {its cond : List E} {e : E} {env : Env} {S : Store} : ev F (.comp mu p k its cond e) env S = (evs F its env S).bind fun ds S1 => (opt (itD k ds) S1).bind fun xs S1 =>
      (loopC (turnC F p cond e env) xs S1).bind fun ys S2 => if ys.length ≤ LIM then (match mu with
          | true => .ok (.ref S2.length) (S2 ++ [.lst ys])
          | false => .ok (.lst ys) S2) else .bad := by
  rw [ev]
  rfl
/-! the hand is made -/
def bHand : List SA := [
  .asg (.name 1) (.con (.int 23)),
  .for_ (.name 2) .seq [.sl (.var 0) [] [.con (.int 63)]] [.asg (.name 1) (.bin .mod (.bin .add (.bin .add (.bin .mul (.var 1) (.con (.int 6364136223846793))) (.bin .mod (.var 2) (.con (.int 2305843009213693951)))) (.con (.int 31))) (.con (.int 2305843009213693951)))],
  .ret (.nlst [.comp true (.name 2) .seq [.sl (.var 0) [] [.con (.int 63)]] [.cmp .ge (.var 2) (.bin .pow (.con (.int 10)) (.con (.int 18)))] (.var 2), .var 1])]
theorem hand_loop (F : Fn) (s0 : D) : ∀ (ns : List Int) (seed : Int) (z : Option D) (S : Store), 0 ≤ seed → seed < P61 →
    ∃ seed' z', loopF (turnF F (.name 2) [.asg (.name 1) (.bin .mod (.bin .add (.bin .add (.bin .mul (.var 1) (.con (.int 6364136223846793))) (.bin .mod (.var 2) (.con (.int 2305843009213693951)))) (.con (.int 31))) (.con (.int 2305843009213693951)))]) (ns.map .int) [some s0, some (.int seed), z] S = .nx [some s0, some (.int seed'), z'] S ∧ 0 ≤ seed' ∧ seed' < P61
  | [], seed, z, S, h0, h1 => ⟨seed, z, rfl, h0, h1⟩
  | x :: ns, seed, z, S, h0, h1 => by
    have h1' : seed < 2305843009213693951 := h1
    have hm : mulOk seed 6364136223846793 = true := mulOk_w h0 (by omega) (by decide) (by decide)
    have hp : (0 : Int) < 2305843009213693951 := by decide
    obtain ⟨s', z', e, q⟩ := hand_loop F s0 ns ((seed * 6364136223846793 + x % 2305843009213693951 + 31) % 2305843009213693951) (some (.int x)) S (Int.emod_nonneg _ (by decide)) (Int.emod_lt_of_pos _ (by decide))
    refine ⟨s', z', ?_, q⟩
    have g1 : ([some s0, some (.int seed), some (.int x)] : Env)[1]? = some (some (.int seed)) := rfl
    have g2 : ([some s0, some (.int seed), some (.int x)] : Env)[2]? = some (some (.int x)) := rfl
    have step : exs F [.asg (.name 1) (.bin .mod (.bin .add (.bin .add (.bin .mul (.var 1) (.con (.int 6364136223846793))) (.bin .mod (.var 2) (.con (.int 2305843009213693951)))) (.con (.int 31))) (.con (.int 2305843009213693951)))] [some s0, some (.int seed), some (.int x)] S
        = .nx [some s0, some (.int ((seed * 6364136223846793 + x % 2305843009213693951 + 31) % 2305843009213693951)), some (.int x)] S := by
      simp only [exs, ex, ev, g1, g2, Res.bind_ok, deref, binD, hm, if_true, if_pos hp, opt, Out.of]
      rfl
    have b : bindP (.name 2) (.int x) [some s0, some (.int seed), z] = some [some s0, some (.int seed), some (.int x)] := rfl
    have t : turnF F (.name 2) [.asg (.name 1) (.bin .mod (.bin .add (.bin .add (.bin .mul (.var 1) (.con (.int 6364136223846793))) (.bin .mod (.var 2) (.con (.int 2305843009213693951)))) (.con (.int 31))) (.con (.int 2305843009213693951)))] (.int x) [some s0, some (.int seed), z] S = .nx [some s0, some (.int ((seed * 6364136223846793 + x % 2305843009213693951 + 31) % 2305843009213693951)), some (.int x)] S := by unfold turnF; rw [b]; exact step
    simp only [List.map_cons, loopF, t]
    exact e
theorem hand_digits (F : Fn) (env : Env) : ∀ (ns : List Int) (S : Store), 2 < env.length → ∃ ds : List Int, loopC (turnC F (.name 2) [.cmp .ge (.var 2) (.bin .pow (.con (.int 10)) (.con (.int 18)))] (.var 2) env) (ns.map .int) S = .ok (ds.map .int) S ∧ ds.length ≤ ns.length
  | [], S, h => ⟨[], rfl, Nat.le_refl _⟩
  | x :: ns, S, h => by
    obtain ⟨ds, e, hl⟩ := hand_digits F env ns S h
    have hp : (0 : Int) ≤ 18 ∧ (18 : Int) ≤ 1000 ∧ (10 : Int).natAbs < 2 ^ 64 := by decide
    have b : bindP (.name 2) (.int x) (wipeE env (slotsP (.name 2))) = some ((env.set 2 none).set 2 (some (.int x))) := by
      simp only [bindP, slotsP, wipeE, List.length_set, if_pos h]
    have g2 : ((env.set 2 none).set 2 (some (.int x)))[2]? = some (some (.int x)) := List.getElem?_set_self (by rw [List.length_set]; exact h)
    generalize (env.set 2 none).set 2 (some (.int x)) = env2 at b g2
    have c : evs F [.cmp .ge (.var 2) (.bin .pow (.con (.int 10)) (.con (.int 18)))] env2 S = .ok [.bl (decide ((10 : Int) ^ (18 : Int).toNat ≤ x))] S := by
      simp only [evs, ev, g2, Res.bind_ok, deref, binD, if_pos hp, opt, cmpD, Option.map_some]
    by_cases hx : (10 : Int) ^ (18 : Int).toNat ≤ x
    · rw [decide_eq_true hx] at c
      refine ⟨x :: ds, ?_, by simp only [List.length_cons]; omega⟩
      have t : turnC F (.name 2) [.cmp .ge (.var 2) (.bin .pow (.con (.int 10)) (.con (.int 18)))] (.var 2) env (.int x) S = .ok (some (.int x)) S := by
        unfold turnC
        rw [b]
        simp only [c, Res.bind_ok, ev, g2]
      simp only [List.map_cons, loopC, t, e, Res.bind_ok]
    · rw [decide_eq_false hx] at c
      refine ⟨ds, ?_, by simp only [List.length_cons]; omega⟩
      have t : turnC F (.name 2) [.cmp .ge (.var 2) (.bin .pow (.con (.int 10)) (.con (.int 18)))] (.var 2) env (.int x) S = .ok none S := by
        unfold turnC
        rw [b]
        simp only [c, Res.bind_ok]
      simp only [List.map_cons, loopC, t, e, Res.bind_ok]
theorem hand_ok {T : List FD} {p n : Nat} (hT : T[p]? = some ⟨1, 3, bHand⟩) (ns : List Int) (hn : ns.length ≤ 63) :
    ∃ S', callAt T (n + 1) p [.scr ns] [] = .ok (.ref 1) S' ∧ HandOk S' 1 0 ∧ S'.length = 2 := by
  have hc : cutD ns none (some 63) = ns := by
    refine cut_whole ⟨rfl, ?_⟩
    show (if (63 : Int) < 0 then ((63 : Int) + (ns.length : Int)).toNat else min (63 : Int).toNat ns.length) = ns.length
    rw [if_neg (by decide)]
    exact Nat.min_eq_right hn
  rw [callAt_at hT rfl]
  generalize callAt T n = F
  have g0 : ∀ a b : Option D, ([some (.scr ns), a, b] : Env)[0]? = some (some (.scr ns)) := fun _ _ => rfl
  have hs : ∀ (a b : Option D) (S : Store), evs F [.sl (.var 0) [] [.con (.int 63)]] [some (.scr ns), a, b] S = .ok [.lst (ns.map .int)] S := fun a b S => by
    simp only [evs, ev, g0, Res.bind_ok, partD, opt, deref, slD, hc]
  obtain ⟨seed, z, e1, s0, s1⟩ := hand_loop F (.scr ns) ns 23 none [] (by decide) (by decide)
  obtain ⟨ds, e2, hl⟩ := hand_digits F [some (.scr ns), some (.int seed), z] ns [] (by show 2 < 3; decide)
  refine ⟨[.lst (ds.map .int), .lst [.ref 0, .int seed]], ?_, ⟨ds, seed, by decide, rfl, rfl, s0, s1, Nat.le_trans hl hn⟩, rfl⟩
  have w1 : ex F (.asg (.name 1) (.con (.int 23))) (startE [.scr ns] 3) [] = .nx [some (.scr ns), some (.int 23), none] [] := rfl
  have w2 : ex F (.for_ (.name 2) .seq [.sl (.var 0) [] [.con (.int 63)]] [.asg (.name 1) (.bin .mod (.bin .add (.bin .add (.bin .mul (.var 1) (.con (.int 6364136223846793))) (.bin .mod (.var 2) (.con (.int 2305843009213693951)))) (.con (.int 31))) (.con (.int 2305843009213693951)))]) [some (.scr ns), some (.int 23), none] [] = .nx [some (.scr ns), some (.int seed), z] [] := by
    rw [ex_for, hs]
    exact e1
  have hz : (ds.map D.int).length ≤ LIM := by rw [List.length_map]; show _ ≤ 100000; omega
  have w3 : ex F (.ret (.nlst [.comp true (.name 2) .seq [.sl (.var 0) [] [.con (.int 63)]] [.cmp .ge (.var 2) (.bin .pow (.con (.int 10)) (.con (.int 18)))] (.var 2), .var 1])) [some (.scr ns), some (.int seed), z] [] = .rt (.ref 1) [.lst (ds.map .int), .lst [.ref 0, .int seed]] := by
    have cc : ev F (.comp true (.name 2) .seq [.sl (.var 0) [] [.con (.int 63)]] [.cmp .ge (.var 2) (.bin .pow (.con (.int 10)) (.con (.int 18)))] (.var 2)) [some (.scr ns), some (.int seed), z] [] = .ok (.ref 0) [.lst (ds.map .int)] := by
      rw [ev_comp, hs]
      simp only [Res.bind_ok, itD, opt, e2, if_pos hz, List.nil_append, List.length_nil]
    have g1 : ([some (.scr ns), some (.int seed), z] : Env)[1]? = some (some (.int seed)) := rfl
    generalize E.comp true (.name 2) .seq [.sl (.var 0) [] [.con (.int 63)]] [.cmp .ge (.var 2) (.bin .pow (.con (.int 10)) (.con (.int 18)))] (.var 2) = ee at cc ⊢
    simp only [ex, ev, evs, cc, g1, Res.bind_ok, Out.of]
    rfl
  have all : exs F bHand (startE [.scr ns] 3) [] = .rt (.ref 1) [.lst (ds.map .int), .lst [.ref 0, .int seed]] := by
    unfold bHand
    simp only [exs, w1, w2, w3, Out.then]
  show (match exs F bHand (startE [.scr ns] 3) [] with | Out.nx _ S' => Res.ok D.non S' | Out.rt r S' => Res.ok r S' | Out.ex d S' => Res.exc d S' | _ => Res.bad) = _
  rw [all]
end
end MP

/-! LK2: expressions that change nothing. -/
namespace MP
open PySem L2
/-- e gives d and changes nothing -/
def Pv (F : Fn) (env : Env) (S : Store) (e : E) (d : D) : Prop := ev F e env S = .ok d S
def Pvs (F : Fn) (env : Env) (S : Store) (es : List E) (ds : List D) : Prop := evs F es env S = .ok ds S
/-- a body gives d and changes nothing -/
def Pb (F : Fn) (env : Env) (S : Store) (b : List SA) (d : D) : Prop := exs F b env S = .rt d S
section
variable {F : Fn} {env : Env} {S : Store} {a b c : E} {d d1 d2 : D} {x y z : Bool}
theorem pvs_nil : Pvs F env S [] [] := by unfold Pvs; simp only [evs]
theorem pvs_cons {e : E} {es : List E} {ds : List D} (h : Pv F env S e d) (k : Pvs F env S es ds) : Pvs F env S (e :: es) (d :: ds) := by
  unfold Pv at h; unfold Pvs at k ⊢
  simp only [evs, h, k, Res.bind_ok]
theorem pvs_1 {e : E} (h : Pv F env S e d) : Pvs F env S [e] [d] := pvs_cons h pvs_nil
theorem pvs_2 {e e' : E} (h : Pv F env S e d1) (k : Pv F env S e' d2) : Pvs F env S [e, e'] [d1, d2] := pvs_cons h (pvs_1 k)
theorem pv_var {i : Nat} (h : env[i]? = some (some d)) : Pv F env S (.var i) d := by unfold Pv; simp only [ev, h]
theorem pv_con : Pv F env S (.con d) d := by unfold Pv; simp only [ev]
theorem pv_tup {es : List E} {ds : List D} (h : Pvs F env S es ds) (hl : ds.length ≤ 100000) : Pv F env S (.tup es) (.tup ds) := by
  unfold Pv; unfold Pvs at h
  have hl : ds.length ≤ LIM := hl
  simp only [ev, h, Res.bind_ok, if_pos hl]
theorem pv_lst {es : List E} {ds : List D} (h : Pvs F env S es ds) (hl : ds.length ≤ 100000) : Pv F env S (.lst es) (.lst ds) := by
  unfold Pv; unfold Pvs at h
  have hl : ds.length ≤ LIM := hl
  simp only [ev, h, Res.bind_ok, if_pos hl]
theorem pv_and (h : Pv F env S a (.bl x)) (k : x = true → Pv F env S b (.bl y)) : Pv F env S (.and a b) (.bl (x && y)) := by
  unfold Pv at *
  cases x with
  | true => simp only [ev, h, Res.bind_ok, k rfl]; rfl
  | false => simp only [ev, h, Res.bind_ok]; rfl
theorem pv_or (h : Pv F env S a (.bl x)) (k : x = false → Pv F env S b (.bl y)) : Pv F env S (.or a b) (.bl (x || y)) := by
  unfold Pv at *
  cases x with
  | false => simp only [ev, h, Res.bind_ok, k rfl]; rfl
  | true => simp only [ev, h, Res.bind_ok]; rfl
theorem pv_not (h : Pv F env S a (.bl x)) : Pv F env S (.not a) (.bl (!x)) := by
  unfold Pv at *
  simp only [ev, h, Res.bind_ok]
theorem pv_ite (h : Pv F env S a (.bl x)) (k1 : x = true → Pv F env S b d) (k2 : x = false → Pv F env S c d) : Pv F env S (.ite a b c) d := by
  unfold Pv at *
  cases x with
  | true => simp only [ev, h, Res.bind_ok, k1 rfl]
  | false => simp only [ev, h, Res.bind_ok, k2 rfl]
theorem pv_call {f : Nat} {es : List E} {ds : List D} (h : Pvs F env S es ds) (k : F f ds S = .ok d S) : Pv F env S (.call f es) d := by
  unfold Pv; unfold Pvs at h
  simp only [ev, h, Res.bind_ok, k]
theorem pv_callk {f : Nat} {es ks : List E} {ds zs : List D} (h : Pvs F env S es ds) (h2 : Pvs F env S ks zs) (k : F f (ds ++ zs) S = .ok d S) : Pv F env S (.callk f es ks) d := by
  unfold Pv; unfold Pvs at h h2
  simp only [ev, h, h2, Res.bind_ok, k]
theorem pv_callv {i f : Nat} {fs : List Nat} {es : List E} {ds : List D} (he : env[i]? = some (some (.fn f))) (hf : f ∈ fs) (h : Pvs F env S es ds) (k : F f ds S = .ok d S) : Pv F env S (.callv i fs es) d := by
  unfold Pv; unfold Pvs at h
  simp only [ev, he, if_pos hf, h, Res.bind_ok, k]
theorem pv_blt {bl : Blt} {es : List E} {ds : List D} (h : Pvs F env S es ds) (k : bltD bl (ds.map (deref S)) = some d) : Pv F env S (.blt bl es) d := by
  unfold Pv; unfold Pvs at h
  simp only [ev, h, Res.bind_ok, k, opt]
theorem pv_bin {o : BOp} (h : Pv F env S a d1) (k : Pv F env S b d2) (r : binD o (deref S d1) (deref S d2) = some d) : Pv F env S (.bin o a b) d := by
  unfold Pv at *
  simp only [ev, h, k, Res.bind_ok, r, opt]
theorem pv_cmp {o : COp} (h : Pv F env S a d1) (k : Pv F env S b d2) (r : cmpD o (deref S d1) (deref S d2) = some x) : Pv F env S (.cmp o a b) (.bl x) := by
  unfold Pv at *
  simp only [ev, h, k, Res.bind_ok, r, opt, Option.map_some]
theorem pv_chain {o o' : COp} {d3 : D} (h : Pv F env S a d1) (k : Pv F env S b d2) (l : Pv F env S c d3) (r : cmpD o (deref S d1) (deref S d2) = some x) (r2 : cmpD o' (deref S d2) (deref S d3) = some y) : Pv F env S (.chain o o' a b c) (.bl (x && y)) := by
  unfold Pv at *
  cases x with
  | true => simp only [ev, h, k, l, Res.bind_ok, r, r2, opt, Option.map_some]; rfl
  | false => simp only [ev, h, k, l, Res.bind_ok, r, opt]; rfl
theorem pv_ix (h : Pv F env S a d1) (k : Pv F env S b d2) (r : ixD (deref S d1) d2 = some d) : Pv F env S (.ix a b) d := by
  unfold Pv at *
  simp only [ev, h, k, Res.bind_ok, r, opt]
theorem pv_sl {lo hi : List E} {dl dh : List D} {l u : Option Int} (h : Pv F env S a d1) (k1 : Pvs F env S lo dl) (k2 : Pvs F env S hi dh) (p1 : partD dl = some l) (p2 : partD dh = some u) (r : slD l u (deref S d1) = some d) : Pv F env S (.sl a lo hi) d := by
  unfold Pv at *; unfold Pvs at k1 k2
  simp only [ev, h, k1, k2, p1, p2, Res.bind_ok, r, opt]
theorem pv_mth {m : Mth} {o : E} {es : List E} {ds : List D} (h : Pv F env S o d1) (hm : mty m (deref S d1) = true) (k : Pvs F env S es ds) (hu : m ≠ .update) (hp : isMut m = false) (r : mthP m (deref S d1) (ds.map (deref S)) = some d) : Pv F env S (.mth m o es) d := by
  unfold Pv at *; unfold Pvs at k
  simp only [ev, h, hm, k, Res.bind_ok, mthD, if_neg hu, hp, r, opt]
theorem pv_cin {ng : Bool} {kvs : List (Str × D)} {w : Str} (h : Pv F env S a (.str w)) : Pv F env S (.cin ng kvs a) (.bl (if ng then (lookS w kvs).isNone else (lookS w kvs).isSome)) := by
  unfold Pv at *
  simp only [ev, h, Res.bind_ok]
theorem pv_cget {kvs : List (Str × D)} {w : Str} (h : Pv F env S a (.str w)) (k : lookS w kvs = some d) : Pv F env S (.cget kvs a) d := by
  unfold Pv at *
  simp only [ev, h, Res.bind_ok, k, opt]
/-- a comprehension whose parts change nothing, no condition: each item mapped -/
theorem loop_map {p : P} {e : E} {g : D → D} : ∀ {xs : List D}, (∀ z ∈ xs, ∃ env', bindP p z (wipeE env (slotsP p)) = some env' ∧ Pv F env' S e (g z)) → loopC (turnC F p [] e env) xs S = .ok (xs.map g) S
  | [], _ => rfl
  | z :: xs, h => by
    obtain ⟨env', h1, h2⟩ := h z List.mem_cons_self
    have t : turnC F p [] e env z S = .ok (some (g z)) S := by
      unfold Pv at h2
      unfold turnC
      rw [h1]
      simp only [evs, Res.bind_ok, h2]
    simp only [loopC, t, Res.bind_ok, loop_map fun z hz => h z (List.mem_cons_of_mem _ hz)]
    rfl
theorem loop_filter {p : P} {cnd e : E} {g : D → D} {t : D → Bool} : ∀ {xs : List D}, (∀ z ∈ xs, ∃ env', bindP p z (wipeE env (slotsP p)) = some env' ∧ Pv F env' S cnd (.bl (t z)) ∧ (t z = true → Pv F env' S e (g z))) → loopC (turnC F p [cnd] e env) xs S = .ok ((xs.filter t).map g) S
  | [], _ => rfl
  | z :: xs, h => by
    obtain ⟨env', h1, h2, h3⟩ := h z List.mem_cons_self
    have ih := loop_filter (g := g) (t := t) fun z hz => h z (List.mem_cons_of_mem _ hz)
    unfold Pv at h2 h3
    cases ht : t z with
    | true =>
      have k : turnC F p [cnd] e env z S = .ok (some (g z)) S := by
        unfold turnC
        rw [h1]
        rw [ht] at h2
        simp only [evs, Res.bind_ok, h2, h3 ht]
      simp only [loopC, k, Res.bind_ok, ih, List.filter_cons_of_pos ht, List.map_cons]
    | false =>
      have k : turnC F p [cnd] e env z S = .ok none S := by
        unfold turnC
        rw [h1]
        rw [ht] at h2
        simp only [evs, Res.bind_ok, h2]
      have hn : ¬ t z = true := by rw [ht]; decide
      simp only [loopC, k, Res.bind_ok, ih, List.filter_cons_of_neg hn]
theorem pv_comp {p : P} {k : IK} {its : List E} {e : E} {ds xs : List D} {g : D → D} (h : Pvs F env S its ds) (hi : itD k ds = some xs) (hl : xs.length ≤ 100000)
    (ht : ∀ z ∈ xs, ∃ env', bindP p z (wipeE env (slotsP p)) = some env' ∧ Pv F env' S e (g z)) : Pv F env S (.comp false p k its [] e) (.lst (xs.map g)) := by
  unfold Pv; unfold Pvs at h
  have hl : (xs.map g).length ≤ LIM := by rw [List.length_map]; exact hl
  rw [ev_comp, h]
  simp only [Res.bind_ok, hi, opt, loop_map ht, if_pos hl]
theorem pv_compF {p : P} {k : IK} {its : List E} {cnd e : E} {ds xs : List D} {g : D → D} {t : D → Bool} (h : Pvs F env S its ds) (hi : itD k ds = some xs) (hl : xs.length ≤ 100000)
    (ht : ∀ z ∈ xs, ∃ env', bindP p z (wipeE env (slotsP p)) = some env' ∧ Pv F env' S cnd (.bl (t z)) ∧ (t z = true → Pv F env' S e (g z))) : Pv F env S (.comp false p k its [cnd] e) (.lst ((xs.filter t).map g)) := by
  unfold Pv; unfold Pvs at h
  have hl : ((xs.filter t).map g).length ≤ LIM := by rw [List.length_map]; exact Nat.le_trans (List.length_filter_le _ _) hl
  rw [ev_comp, h]
  simp only [Res.bind_ok, hi, opt, loop_filter ht, if_pos hl]
/-! bodies -/
theorem pb_ret {r : List SA} (h : Pv F env S a d) : Pb F env S (.ret a :: r) d := by
  unfold Pb; unfold Pv at h
  simp only [exs, ex, h, Out.of, Out.then]
theorem pb_ifs {t f r : List SA} (h : Pv F env S a (.bl x)) (k1 : x = true → Pb F env S t d) (k2 : x = false → exs F f env S = .nx env S ∧ Pb F env S r d) : Pb F env S (.ifs a t f :: r) d := by
  unfold Pb at *; unfold Pv at h
  cases x with
  | true => simp only [exs, ex, h, Out.of, k1 rfl, Out.then]
  | false => simp only [exs, ex, h, Out.of, (k2 rfl).1, Out.then, (k2 rfl).2]
theorem pb_if {t r : List SA} (h : Pv F env S a (.bl x)) (k1 : x = true → Pb F env S t d) (k2 : x = false → Pb F env S r d) : Pb F env S (.ifs a t [] :: r) d :=
  pb_ifs h k1 fun z => ⟨by simp only [exs], k2 z⟩
theorem pb_asg {p : P} {r : List SA} {env' : Env} (h : Pv F env S a d1) (k : bindP p d1 env = some env') (l : Pb F env' S r d) : Pb F env S (.asg p a :: r) d := by
  unfold Pb at *; unfold Pv at h
  simp only [exs, ex, h, Out.of, k, Out.then, l]
theorem pb_par {i j : Nat} {r : List SA} {env' : Env} (h : Pv F env S a d1) (k : Pv F env S b d2) (hi : i < env.length ∧ j < env.length) (he : (env.set i (some d1)).set j (some d2) = env') (l : Pb F env' S r d) : Pb F env S (.par i j a b :: r) d := by
  unfold Pb at *; unfold Pv at h k
  simp only [exs, ex, h, k, Out.of, if_pos hi, he, Out.then, l]
/-- a call whose body changes nothing -/
theorem call_pb {T : List FD} {n f : Nat} {fd : FD} {ds : List D} (h : T[f]? = some fd) (hl : ds.length = fd.ps) (k : Pb (callAt T n) (startE ds fd.ns) S fd.body d) : callAt T (n + 1) f ds S = .ok d S := by
  rw [callAt_at h hl]
  unfold Pb at k
  rw [k]
end
/-! ### data -/
theorem deref_dat {S : Store} {d : D} (h : datB d = true) : deref S d = d := by
  cases d <;> first | rfl | (simp only [datB] at h; cases h)
theorem datsB_mem {xs : List D} (h : datsB xs = true) {d : D} (m : d ∈ xs) : datB d = true := by
  induction xs with
  | nil => cases m
  | cons x xs ih =>
    simp only [datsB, Bool.and_eq_true] at h
    rcases List.mem_cons.mp m with rfl | m
    · exact h.1
    · exact ih h.2 m
def isIntT : D → Bool | .int _ => true | .bl _ => true | _ => false
def isBlT : D → Bool | .bl _ => true | _ => false
def isStrT : D → Bool | .str _ => true | _ => false
def isTupT : D → Bool | .tup _ => true | _ => false
def isLstT : D → Bool | .lst _ => true | _ => false
theorem kit_n (t n : String) (b : Bool) (h : kitB t n = some b) : kitB t n = some b := h
theorem ii_int {d : D} (h : datB d = true) : bltD .isinst [d, .ty "int"] = some (.bl (isIntT d)) := by
  cases d <;> first | (simp only [datB] at h; cases h; done) | kernel_rfl
theorem ii_bool {d : D} (h : datB d = true) : bltD .isinst [d, .ty "bool"] = some (.bl (isBlT d)) := by
  cases d <;> first | (simp only [datB] at h; cases h; done) | kernel_rfl
theorem ii_str {d : D} (h : datB d = true) : bltD .isinst [d, .ty "str"] = some (.bl (isStrT d)) := by
  cases d <;> first | (simp only [datB] at h; cases h; done) | kernel_rfl
theorem ii_tup {d : D} (h : datB d = true) : bltD .isinst [d, .ty "tuple"] = some (.bl (isTupT d)) := by
  cases d <;> first | (simp only [datB] at h; cases h; done) | kernel_rfl
theorem ii_lst {d : D} (h : datB d = true) : bltD .isinst [d, .ty "list"] = some (.bl (isLstT d)) := by
  cases d <;> first | (simp only [datB] at h; cases h; done) | kernel_rfl
end MP

/-! LK3: expressions that draw from the hand. -/
namespace MP
open PySem L2
/-- the hand stands, and all else as in B -/
def HandB (B S : Store) (l m : Nat) : Prop := HandOk S l m ∧ Still l m B S
theorem HandOk.base {S : Store} {l m : Nat} (H : HandOk S l m) : HandB S S l m := ⟨H, Still.refl⟩
theorem HandB.step {B S S' : Store} {l m : Nat} (H : HandB B S l m) (K : HandOk S' l m) (st : Still l m S S') : HandB B S' l m := ⟨K, H.2.trans st⟩
section
variable (B : Store) (l m : Nat) (F : Fn) (env : Env)
/-- at any store with the hand: e gives something of which P holds, the hand stands after it -/
def Hv (e : E) (P : D → Prop) : Prop := ∀ S, HandB B S l m → ∃ d S', ev F e env S = .ok d S' ∧ P d ∧ HandB B S' l m
def Hvs (es : List E) (P : List D → Prop) : Prop := ∀ S, HandB B S l m → ∃ ds S', evs F es env S = .ok ds S' ∧ P ds ∧ HandB B S' l m
def Hb (b : List SA) (P : D → Prop) : Prop := ∀ S, HandB B S l m → ∃ d S', exs F b env S = .rt d S' ∧ P d ∧ HandB B S' l m
end
section
variable {B : Store} {l m : Nat} {F : Fn} {env : Env} {e a b c : E} {P Q A : D → Prop}
theorem hv_pure {d : D} (h : ∀ S, Pv F env S e d) (p : P d) : Hv B l m F env e P := fun S H => ⟨d, S, h S, p, H⟩
theorem Hv.imp (h : Hv B l m F env e P) (k : ∀ d, P d → Q d) : Hv B l m F env e Q := fun S H => by
  obtain ⟨d, S', h1, h2, h3⟩ := h S H
  exact ⟨d, S', h1, k d h2, h3⟩
theorem hvs_nil {P : List D → Prop} (p : P []) : Hvs B l m F env [] P := fun S H => ⟨[], S, by simp only [evs], p, H⟩
theorem hvs_cons {es : List E} {P : List D → Prop} (h : Hv B l m F env e A) (k : ∀ d, A d → Hvs B l m F env es fun ds => P (d :: ds)) : Hvs B l m F env (e :: es) P := fun S H => by
  obtain ⟨d, S1, h1, h2, h3⟩ := h S H
  obtain ⟨ds, S2, k1, k2, k3⟩ := k d h2 S1 h3
  exact ⟨d :: ds, S2, by simp only [evs, h1, k1, Res.bind_ok], k2, k3⟩
theorem hvs_pure {es : List E} {ds : List D} {P : List D → Prop} (h : ∀ S, Pvs F env S es ds) (p : P ds) : Hvs B l m F env es P := fun S H => ⟨ds, S, h S, p, H⟩
theorem hv_tup {es : List E} (h : Hvs B l m F env es fun ds => ds.length ≤ 100000 ∧ P (.tup ds)) : Hv B l m F env (.tup es) P := fun S H => by
  obtain ⟨ds, S1, h1, ⟨h2, h3⟩, h4⟩ := h S H
  have h2' : ds.length ≤ LIM := h2
  exact ⟨.tup ds, S1, by simp only [ev, h1, Res.bind_ok, if_pos h2'], h3, h4⟩
theorem hv_lst {es : List E} (h : Hvs B l m F env es fun ds => ds.length ≤ 100000 ∧ P (.lst ds)) : Hv B l m F env (.lst es) P := fun S H => by
  obtain ⟨ds, S1, h1, ⟨h2, h3⟩, h4⟩ := h S H
  have h2' : ds.length ≤ LIM := h2
  exact ⟨.lst ds, S1, by simp only [ev, h1, Res.bind_ok, if_pos h2'], h3, h4⟩
theorem hv_call {f : Nat} {es : List E} (h : Hvs B l m F env es fun ds => ∀ S, HandB B S l m → ∃ d S', F f ds S = .ok d S' ∧ P d ∧ HandB B S' l m) : Hv B l m F env (.call f es) P := fun S H => by
  obtain ⟨ds, S1, h1, h2, h3⟩ := h S H
  obtain ⟨d, S2, k1, k2, k3⟩ := h2 S1 h3
  exact ⟨d, S2, by simp only [ev, h1, Res.bind_ok, k1], k2, k3⟩
/-- a built-in over what was drawn -/
theorem hv_blt {bl : Blt} {es : List E} (h : Hvs B l m F env es fun ds => ∃ d, (∀ S, bltD bl (ds.map (deref S)) = some d) ∧ P d) : Hv B l m F env (.blt bl es) P := fun S H => by
  obtain ⟨ds, S1, h1, ⟨d, h2, h3⟩, h4⟩ := h S H
  exact ⟨d, S1, by simp only [ev, h1, Res.bind_ok, h2, opt], h3, h4⟩
theorem hv_bin {o : BOp} (h : Hv B l m F env a A) (k : ∀ d1, A d1 → Hv B l m F env b fun d2 => ∃ d, (∀ S, binD o (deref S d1) (deref S d2) = some d) ∧ P d) : Hv B l m F env (.bin o a b) P := fun S H => by
  obtain ⟨d1, S1, h1, h2, h3⟩ := h S H
  obtain ⟨d2, S2, k1, ⟨d, k2, k3⟩, k4⟩ := k d1 h2 S1 h3
  exact ⟨d, S2, by simp only [ev, h1, k1, Res.bind_ok, k2, opt], k3, k4⟩
theorem hv_cmp {o : COp} (h : Hv B l m F env a A) (k : ∀ d1, A d1 → Hv B l m F env b fun d2 => ∃ x, (∀ S, cmpD o (deref S d1) (deref S d2) = some x) ∧ P (.bl x)) : Hv B l m F env (.cmp o a b) P := fun S H => by
  obtain ⟨d1, S1, h1, h2, h3⟩ := h S H
  obtain ⟨d2, S2, k1, ⟨x, k2, k3⟩, k4⟩ := k d1 h2 S1 h3
  exact ⟨.bl x, S2, by simp only [ev, h1, k1, Res.bind_ok, k2, opt, Option.map_some], k3, k4⟩
theorem hv_ite (h : Hv B l m F env c fun d => ∃ x, d = .bl x ∧ (x = true → Hv B l m F env a P) ∧ (x = false → Hv B l m F env b P)) : Hv B l m F env (.ite c a b) P := fun S H => by
  obtain ⟨d, S1, h1, ⟨x, rfl, h2, h3⟩, h4⟩ := h S H
  cases x with
  | true =>
    obtain ⟨d, S2, k1, k2⟩ := h2 rfl S1 h4
    exact ⟨d, S2, by simp only [ev, h1, Res.bind_ok, k1], k2⟩
  | false =>
    obtain ⟨d, S2, k1, k2⟩ := h3 rfl S1 h4
    exact ⟨d, S2, by simp only [ev, h1, Res.bind_ok, k1], k2⟩
theorem hv_mth {mt : Mth} {o : E} {es : List E} (h : Hv B l m F env o fun d1 => (∀ S, mty mt (deref S d1) = true) ∧ Hvs B l m F env es fun ds => ∃ d, (∀ S, mthP mt (deref S d1) (ds.map (deref S)) = some d) ∧ P d) (hu : mt ≠ .update) (hp : isMut mt = false) : Hv B l m F env (.mth mt o es) P := fun S H => by
  obtain ⟨d1, S1, h1, ⟨h2, h3⟩, h4⟩ := h S H
  obtain ⟨ds, S2, k1, ⟨d, k2, k3⟩, k4⟩ := h3 S1 h4
  exact ⟨d, S2, by simp only [ev, h1, h2, k1, Res.bind_ok, mthD, if_neg hu, hp, k2, opt], k3, k4⟩
theorem hloop_map {p : MP.P} {e : E} {G : D → Prop} : ∀ {xs : List D}, (∀ z ∈ xs, ∃ env', bindP p z (wipeE env (slotsP p)) = some env' ∧ Hv B l m F env' e G) → ∀ S, HandB B S l m →
    ∃ ys S', loopC (turnC F p [] e env) xs S = .ok ys S' ∧ ys.length = xs.length ∧ (∀ y ∈ ys, G y) ∧ HandB B S' l m
  | [], _, S, H => ⟨[], S, rfl, rfl, fun _ h => by (cases h), H⟩
  | z :: xs, h, S, H => by
    obtain ⟨env', h1, h2⟩ := h z List.mem_cons_self
    obtain ⟨y, S1, k1, k2, k3⟩ := h2 S H
    obtain ⟨ys, S2, r1, r2, r3, r4⟩ := hloop_map (fun z hz => h z (List.mem_cons_of_mem _ hz)) S1 k3
    have t : turnC F p [] e env z S = .ok (some y) S1 := by
      unfold turnC
      rw [h1]
      simp only [evs, Res.bind_ok, k1]
    refine ⟨y :: ys, S2, by simp only [loopC, t, Res.bind_ok, r1], by rw [List.length_cons, List.length_cons, r2], fun w hw => ?_, r4⟩
    rcases List.mem_cons.mp hw with rfl | hw
    · exact k2
    · exact r3 w hw
theorem hloop_filter {p : MP.P} {cnd e : E} : ∀ {xs : List D}, (∀ z ∈ xs, ∃ env', bindP p z (wipeE env (slotsP p)) = some env' ∧ Hv B l m F env' cnd (fun d => ∃ x, d = .bl x) ∧ ∀ S, Pv F env' S e z) → ∀ S, HandB B S l m →
    ∃ ys S', loopC (turnC F p [cnd] e env) xs S = .ok ys S' ∧ ys.Sublist xs ∧ HandB B S' l m
  | [], _, S, H => ⟨[], S, rfl, .slnil, H⟩
  | z :: xs, h, S, H => by
    obtain ⟨env', h1, h2, h3⟩ := h z List.mem_cons_self
    obtain ⟨y, S1, k1, ⟨x, rfl⟩, k3⟩ := h2 S H
    obtain ⟨ys, S2, r1, r2, r4⟩ := hloop_filter (fun z hz => h z (List.mem_cons_of_mem _ hz)) S1 k3
    cases x with
    | true =>
      have t : turnC F p [cnd] e env z S = .ok (some z) S1 := by
        have h3' : ev F e env' S1 = .ok z S1 := h3 S1
        unfold turnC
        rw [h1]
        simp only [evs, Res.bind_ok, k1, h3']
      exact ⟨z :: ys, S2, by simp only [loopC, t, Res.bind_ok, r1], r2.cons₂ z, r4⟩
    | false =>
      have t : turnC F p [cnd] e env z S = .ok none S1 := by
        unfold turnC
        rw [h1]
        simp only [evs, Res.bind_ok, k1]
      exact ⟨ys, S2, by simp only [loopC, t, Res.bind_ok, r1], r2.cons z, r4⟩
theorem hv_comp {p : MP.P} {k : IK} {its : List E} {e : E} {G : D → Prop} (h : Hvs B l m F env its fun ds => ∃ xs, itD k ds = some xs ∧ xs.length ≤ 100000 ∧ (∀ z ∈ xs, ∃ env', bindP p z (wipeE env (slotsP p)) = some env' ∧ Hv B l m F env' e G) ∧ ∀ ys, ys.length = xs.length → (∀ y ∈ ys, G y) → P (.lst ys)) :
    Hv B l m F env (.comp false p k its [] e) P := fun S H => by
  obtain ⟨ds, S1, h1, ⟨xs, h2, h3, h4, h5⟩, h6⟩ := h S H
  obtain ⟨ys, S2, r1, r2, r3, r4⟩ := hloop_map h4 S1 h6
  have hl : ys.length ≤ LIM := by rw [r2]; exact h3
  exact ⟨.lst ys, S2, by rw [ev_comp, h1]; simp only [Res.bind_ok, h2, opt, r1, if_pos hl], h5 ys r2 r3, r4⟩
theorem hv_compF {p : MP.P} {k : IK} {its : List E} {cnd e : E} (h : Hvs B l m F env its fun ds => ∃ xs, itD k ds = some xs ∧ xs.length ≤ 100000 ∧ (∀ z ∈ xs, ∃ env', bindP p z (wipeE env (slotsP p)) = some env' ∧ Hv B l m F env' cnd (fun d => ∃ x, d = .bl x) ∧ ∀ S, Pv F env' S e z) ∧ ∀ ys : List D, ys.Sublist xs → P (.lst ys)) :
    Hv B l m F env (.comp false p k its [cnd] e) P := fun S H => by
  obtain ⟨ds, S1, h1, ⟨xs, h2, h3, h4, h5⟩, h6⟩ := h S H
  obtain ⟨ys, S2, r1, r2, r4⟩ := hloop_filter h4 S1 h6
  have hl : ys.length ≤ LIM := Nat.le_trans r2.length_le h3
  exact ⟨.lst ys, S2, by rw [ev_comp, h1]; simp only [Res.bind_ok, h2, opt, r1, if_pos hl], h5 ys r2, r4⟩
/-! picks -/
theorem hv_pick {T : List FD} {p n v : Nat} (hT : T[p]? = some ⟨2, 4, bPick⟩) (h0 : env[v]? = some (some (.ref l))) {k : Int} (he : ∀ S, Pv (callAt T (n + 1)) env S e (.int k)) (k0 : 0 < k) (k1 : k ≤ 1000000) (hP : ∀ i : Int, 0 ≤ i → i < k → P (.int i)) :
    Hv B l m (callAt T (n + 1)) env (.call p [.var v, e]) P :=
  hv_call (hvs_pure (ds := [.ref l, .int k]) (fun S => pvs_2 (pv_var h0) (he S)) fun S H => by
    obtain ⟨i, S', e1, e2, e3, e4, st⟩ := pick_ok (n := n) hT H.1 k0 (by omega)
    exact ⟨.int i, S', e1, hP i e2 e3, H.step e4 st⟩)
theorem hv_of {T : List FD} {p o n v : Nat} (hT : T[p]? = some ⟨2, 4, bPick⟩) (hO : T[o]? = some ⟨2, 2, bOf p⟩) (h0 : env[v]? = some (some (.ref l)))
    (h : Hv B l m (callAt T (n + 2)) env e fun d => ∃ xs, (d = .lst xs ∨ d = .tup xs) ∧ 0 < xs.length ∧ xs.length ≤ 100000 ∧ ∀ x ∈ xs, P x) : Hv B l m (callAt T (n + 2)) env (.call o [.var v, e]) P :=
  hv_call (hvs_cons (A := fun d => d = .ref l) (hv_pure (fun S => pv_var h0) rfl) fun d hd => hvs_cons h fun d2 ⟨xs, h1, h2, h3, h4⟩ => hvs_nil fun S H => by
    subst hd
    rcases h1 with rfl | rfl
    · obtain ⟨x, S', e1, e2, e3, st⟩ := of_lst (n := n) hT hO H.1 h2 h3
      exact ⟨x, S', e1, h4 x e2, H.step e3 st⟩
    · obtain ⟨x, S', e1, e2, e3, st⟩ := of_tup (n := n) hT hO H.1 h2 h3
      exact ⟨x, S', e1, h4 x e2, H.step e3 st⟩)
theorem hv_ofS {T : List FD} {p o n v : Nat} (hT : T[p]? = some ⟨2, 4, bPick⟩) (hO : T[o]? = some ⟨2, 2, bOf p⟩) (h0 : env[v]? = some (some (.ref l))) {z : Str} (he : ∀ S, Pv (callAt T (n + 2)) env S e (.str z)) (z0 : 0 < z.length) (z1 : z.length ≤ 100000)
    (hP : ∀ c ∈ z.cps.toList, P (.str ⟨#[c]⟩)) : Hv B l m (callAt T (n + 2)) env (.call o [.var v, e]) P :=
  hv_call (hvs_pure (ds := [.ref l, .str z]) (fun S => pvs_2 (pv_var h0) (he S)) fun S H => by
    obtain ⟨c, S', e1, e2, e3, st⟩ := of_str (n := n) hT hO H.1 z0 z1
    exact ⟨_, S', e1, hP c e2, H.step e3 st⟩)
/-! bodies -/
theorem hb_ret {r : List SA} (h : Hv B l m F env e P) : Hb B l m F env (.ret e :: r) P := fun S H => by
  obtain ⟨d, S1, h1, h2, h3⟩ := h S H
  exact ⟨d, S1, by simp only [exs, ex, h1, Out.of, Out.then], h2, h3⟩
theorem hb_asg {p : MP.P} {r : List SA} (h : Hv B l m F env e A) (k : ∀ d, A d → ∃ env', bindP p d env = some env' ∧ Hb B l m F env' r P) : Hb B l m F env (.asg p e :: r) P := fun S H => by
  obtain ⟨d, S1, h1, h2, h3⟩ := h S H
  obtain ⟨env', k1, k2⟩ := k d h2
  obtain ⟨d2, S2, r1, r2, r3⟩ := k2 S1 h3
  exact ⟨d2, S2, by simp only [exs, ex, h1, Out.of, k1, Out.then, r1], r2, r3⟩
theorem hb_ifT {t r : List SA} (h : ∀ S, Pv F env S c (.bl true)) (k : Hb B l m F env t P) : Hb B l m F env (.ifs c t [] :: r) P := fun S H => by
  obtain ⟨d, S1, h1, h2⟩ := k S H
  have h' : ev F c env S = .ok (.bl true) S := h S
  exact ⟨d, S1, by simp only [exs, ex, h', Out.of, h1, Out.then], h2⟩
theorem hb_ifF {t r : List SA} (h : ∀ S, Pv F env S c (.bl false)) (k : Hb B l m F env r P) : Hb B l m F env (.ifs c t [] :: r) P := fun S H => by
  obtain ⟨d, S1, h1, h2⟩ := k S H
  have h' : ev F c env S = .ok (.bl false) S := h S
  exact ⟨d, S1, by simp only [exs, ex, h', Out.of, h1, Out.then], h2⟩
theorem call_hb {T : List FD} {n f : Nat} {fd : FD} {ds : List D} (h : T[f]? = some fd) (hl : ds.length = fd.ps) (k : Hb B l m (callAt T n) (startE ds fd.ns) fd.body P) {S : Store} (H : HandB B S l m) : ∃ d S', callAt T (n + 1) f ds S = .ok d S' ∧ P d ∧ HandB B S' l m := by
  obtain ⟨d, S1, h1, h2⟩ := k S H
  exact ⟨d, S1, by rw [callAt_at h hl, h1], h2⟩
end
end MP

/-! LK4: expressions that leave things behind them, and change nothing that was there. -/
namespace MP
open PySem L2
section
variable (F : Fn) (env : Env)
/-- at any store: e gives d, the store grows -/
def Gv (e : E) (d : D) : Prop := ∀ S, ∃ Z, ev F e env S = .ok d (S ++ Z)
def Gvs (es : List E) (ds : List D) : Prop := ∀ S, ∃ Z, evs F es env S = .ok ds (S ++ Z)
def Gb (b : List SA) (d : D) : Prop := ∀ S, ∃ Z, exs F b env S = .rt d (S ++ Z)
def Gn (b : List SA) (env' : Env) : Prop := ∀ S, ∃ Z, exs F b env S = .nx env' (S ++ Z)
end
def Gc (F : Fn) (f : Nat) (ds : List D) (d : D) : Prop := ∀ S, ∃ Z, F f ds S = .ok d (S ++ Z)
section
variable {F : Fn} {env env' : Env} {e a b c : E} {d d1 d2 : D} {x y : Bool}
theorem gv_pure (h : ∀ S, Pv F env S e d) : Gv F env e d := fun S => ⟨[], by rw [List.append_nil]; exact h S⟩
theorem gvs_pure {es : List E} {ds : List D} (h : ∀ S, Pvs F env S es ds) : Gvs F env es ds := fun S => ⟨[], by rw [List.append_nil]; exact h S⟩
theorem gb_pure {b : List SA} (h : ∀ S, Pb F env S b d) : Gb F env b d := fun S => ⟨[], by rw [List.append_nil]; exact h S⟩
theorem gvs_cons {es : List E} {ds : List D} (h : Gv F env e d) (k : Gvs F env es ds) : Gvs F env (e :: es) (d :: ds) := fun S => by
  obtain ⟨Z, h1⟩ := h S
  obtain ⟨Y, h2⟩ := k (S ++ Z)
  exact ⟨Z ++ Y, by simp only [evs, h1, h2, Res.bind_ok]; rw [List.append_assoc]⟩
theorem gvs_1 (h : Gv F env e d) : Gvs F env [e] [d] := gvs_cons h (gvs_pure fun _ => pvs_nil)
theorem gv_not (h : Gv F env a (.bl x)) : Gv F env (.not a) (.bl (!x)) := fun S => by
  obtain ⟨Z, h1⟩ := h S
  exact ⟨Z, by simp only [ev, h1, Res.bind_ok]⟩
theorem gv_and (h : Gv F env a (.bl x)) (k : x = true → Gv F env b (.bl y)) : Gv F env (.and a b) (.bl (x && y)) := fun S => by
  obtain ⟨Z, h1⟩ := h S
  cases x with
  | true =>
    obtain ⟨Y, h2⟩ := k rfl (S ++ Z)
    exact ⟨Z ++ Y, by simp only [ev, h1, Res.bind_ok, h2]; rw [List.append_assoc]; rfl⟩
  | false => exact ⟨Z, by simp only [ev, h1, Res.bind_ok]; rfl⟩
theorem gv_or (h : Gv F env a (.bl x)) (k : x = false → Gv F env b (.bl y)) : Gv F env (.or a b) (.bl (x || y)) := fun S => by
  obtain ⟨Z, h1⟩ := h S
  cases x with
  | false =>
    obtain ⟨Y, h2⟩ := k rfl (S ++ Z)
    exact ⟨Z ++ Y, by simp only [ev, h1, Res.bind_ok, h2]; rw [List.append_assoc]; rfl⟩
  | true => exact ⟨Z, by simp only [ev, h1, Res.bind_ok]; rfl⟩
theorem gv_call {f : Nat} {es : List E} {ds : List D} (h : Gvs F env es ds) (k : Gc F f ds d) : Gv F env (.call f es) d := fun S => by
  obtain ⟨Z, h1⟩ := h S
  obtain ⟨Y, h2⟩ := k (S ++ Z)
  exact ⟨Z ++ Y, by simp only [ev, h1, Res.bind_ok, h2]; rw [List.append_assoc]⟩
theorem gv_blt {bl : Blt} {es : List E} {ds : List D} (h : Gvs F env es ds) (k : ∀ S, bltD bl (ds.map (deref S)) = some d) : Gv F env (.blt bl es) d := fun S => by
  obtain ⟨Z, h1⟩ := h S
  exact ⟨Z, by simp only [ev, h1, Res.bind_ok, k, opt]⟩
theorem gv_cmp {o : COp} (h : Gv F env a d1) (k : Gv F env b d2) (r : ∀ S, cmpD o (deref S d1) (deref S d2) = some x) : Gv F env (.cmp o a b) (.bl x) := fun S => by
  obtain ⟨Z, h1⟩ := h S
  obtain ⟨Y, h2⟩ := k (S ++ Z)
  exact ⟨Z ++ Y, by simp only [ev, h1, h2, Res.bind_ok, r, opt, Option.map_some]; rw [List.append_assoc]⟩
theorem gloop_map {p : P} {e : E} {g : D → D} : ∀ {xs : List D}, (∀ z ∈ xs, ∃ env', bindP p z (wipeE env (slotsP p)) = some env' ∧ Gv F env' e (g z)) → ∀ S, ∃ Z, loopC (turnC F p [] e env) xs S = .ok (xs.map g) (S ++ Z)
  | [], _, S => ⟨[], by rw [List.append_nil]; rfl⟩
  | z :: xs, h, S => by
    obtain ⟨env', h1, h2⟩ := h z List.mem_cons_self
    obtain ⟨Z, h3⟩ := h2 S
    obtain ⟨Y, h4⟩ := gloop_map (fun z hz => h z (List.mem_cons_of_mem _ hz)) (S ++ Z)
    have t : turnC F p [] e env z S = .ok (some (g z)) (S ++ Z) := by
      unfold turnC
      rw [h1]
      simp only [evs, Res.bind_ok, h3]
    exact ⟨Z ++ Y, by simp only [loopC, t, Res.bind_ok, h4, List.map_cons]; rw [List.append_assoc]⟩
theorem gv_comp {p : P} {k : IK} {its : List E} {e : E} {ds xs : List D} {g : D → D} (h : ∀ S, Pvs F env S its ds) (hi : itD k ds = some xs) (hl : xs.length ≤ 100000)
    (ht : ∀ z ∈ xs, ∃ env', bindP p z (wipeE env (slotsP p)) = some env' ∧ Gv F env' e (g z)) : Gv F env (.comp false p k its [] e) (.lst (xs.map g)) := fun S => by
  have hl : (xs.map g).length ≤ LIM := by rw [List.length_map]; exact hl
  have h1 : evs F its env S = .ok ds S := h S
  obtain ⟨Z, h2⟩ := gloop_map ht S
  exact ⟨Z, by rw [ev_comp, h1]; simp only [Res.bind_ok, hi, opt, h2, if_pos hl]⟩
/-! bodies -/
theorem gb_ret {r : List SA} (h : Gv F env e d) : Gb F env (.ret e :: r) d := fun S => by
  obtain ⟨Z, h1⟩ := h S
  exact ⟨Z, by simp only [exs, ex, h1, Out.of, Out.then]⟩
theorem gb_if {t r : List SA} (h : Gv F env a (.bl x)) (k1 : x = true → Gb F env t d) (k2 : x = false → Gb F env r d) : Gb F env (.ifs a t [] :: r) d := fun S => by
  obtain ⟨Z, h1⟩ := h S
  cases x with
  | true =>
    obtain ⟨Y, h2⟩ := k1 rfl (S ++ Z)
    exact ⟨Z ++ Y, by simp only [exs, ex, h1, Out.of, h2, Out.then]; rw [List.append_assoc]⟩
  | false =>
    obtain ⟨Y, h2⟩ := k2 rfl (S ++ Z)
    exact ⟨Z ++ Y, by simp only [exs, ex, h1, Out.of, h2, Out.then]; rw [List.append_assoc]⟩
theorem gb_asg {p : P} {r : List SA} (h : Gv F env a d1) (k : bindP p d1 env = some env') (l : Gb F env' r d) : Gb F env (.asg p a :: r) d := fun S => by
  obtain ⟨Z, h1⟩ := h S
  obtain ⟨Y, h2⟩ := l (S ++ Z)
  exact ⟨Z ++ Y, by simp only [exs, ex, h1, Out.of, k, Out.then, h2]; rw [List.append_assoc]⟩
theorem gn_nil : Gn F env [] env := fun S => ⟨[], by rw [List.append_nil]; simp only [exs]⟩
theorem gn_asg {p : P} {r : List SA} {en : Env} (h : Gv F env a d1) (k : bindP p d1 env = some env') (l : Gn F env' r en) : Gn F env (.asg p a :: r) en := fun S => by
  obtain ⟨Z, h1⟩ := h S
  obtain ⟨Y, h2⟩ := l (S ++ Z)
  exact ⟨Z ++ Y, by simp only [exs, ex, h1, Out.of, k, Out.then, h2]; rw [List.append_assoc]⟩
theorem gn_if {t r : List SA} {en : Env} (h : Gv F env a (.bl false)) (l : Gn F env r en) : Gn F env (.ifs a t [] :: r) en := fun S => by
  obtain ⟨Z, h1⟩ := h S
  obtain ⟨Y, h2⟩ := l (S ++ Z)
  exact ⟨Z ++ Y, by simp only [exs, ex, h1, Out.of, h2, Out.then]; rw [List.append_assoc]⟩
/-- a loop all of whose turns go on -/
theorem gloop_all {p : P} {body : List SA} {I : Env → Prop} : ∀ {xs : List D}, (∀ z ∈ xs, ∀ en, I en → ∃ en1 en2, bindP p z en = some en1 ∧ Gn F en1 body en2 ∧ I en2) → ∀ en, I en → ∀ S, ∃ Z en', loopF (turnF F p body) xs en S = .nx en' (S ++ Z) ∧ I en'
  | [], _, en, hI, S => ⟨[], en, by rw [List.append_nil]; rfl, hI⟩
  | z :: xs, h, en, hI, S => by
    obtain ⟨en1, en2, h1, h2, h3⟩ := h z List.mem_cons_self en hI
    obtain ⟨Z, h4⟩ := h2 S
    obtain ⟨Y, en', h5, h6⟩ := gloop_all (fun z hz => h z (List.mem_cons_of_mem _ hz)) en2 h3 (S ++ Z)
    have t : turnF F p body z en S = .nx en2 (S ++ Z) := by
      unfold turnF
      rw [h1]
      exact h4
    exact ⟨Z ++ Y, en', by simp only [loopF, t, h5]; rw [List.append_assoc], h6⟩
/-- a loop: the first bad one ends it -/
theorem gloop_bad {p : P} {body : List SA} {I : Env → Prop} {g : D → Bool} : ∀ {xs : List D}, (∀ z ∈ xs, ∀ en, I en → ∃ en1, bindP p z en = some en1 ∧ (g z = true → ∃ en2, Gn F en1 body en2 ∧ I en2) ∧ (g z = false → Gb F en1 body d)) → xs.all g = false → ∀ en, I en → ∀ S, ∃ Z, loopF (turnF F p body) xs en S = .rt d (S ++ Z)
  | [], _, hb, _, _, _ => by cases hb
  | z :: xs, h, hb, en, hI, S => by
    obtain ⟨en1, h1, h2, h3⟩ := h z List.mem_cons_self en hI
    cases hg : g z with
    | true =>
      obtain ⟨en2, h4, h5⟩ := h2 hg
      obtain ⟨Z, h6⟩ := h4 S
      have hb' : xs.all g = false := by rw [List.all_cons, hg, Bool.true_and] at hb; exact hb
      obtain ⟨Y, h7⟩ := gloop_bad (fun z hz => h z (List.mem_cons_of_mem _ hz)) hb' en2 h5 (S ++ Z)
      have t : turnF F p body z en S = .nx en2 (S ++ Z) := by
        unfold turnF
        rw [h1]
        exact h6
      exact ⟨Z ++ Y, by simp only [loopF, t, h7]; rw [List.append_assoc]⟩
    | false =>
      obtain ⟨Z, h6⟩ := h3 hg S
      have t : turnF F p body z en S = .rt d (S ++ Z) := by
        unfold turnF
        rw [h1]
        exact h6
      exact ⟨Z, by simp only [loopF, t]⟩
/-- a for whose turns may end the body -/
theorem gb_for {p : P} {k : IK} {its : List E} {body r : List SA} {ds xs : List D} {I : Env → Prop} {g : D → Bool} (h : Gvs F env its ds) (hi : itD k ds = some xs) (hI : I env)
    (ht : ∀ z ∈ xs, ∀ en, I en → ∃ en1, bindP p z en = some en1 ∧ (g z = true → ∃ en2, Gn F en1 body en2 ∧ I en2) ∧ (g z = false → Gb F en1 body d)) (hr : xs.all g = true → ∀ en, I en → Gb F en r d) : Gb F env (.for_ p k its body :: r) d := fun S => by
  obtain ⟨Z, h1⟩ := h S
  cases ha : xs.all g with
  | true =>
    obtain ⟨Y, en', h2, h3⟩ := gloop_all (fun z hz en hI => by
      obtain ⟨en1, q1, q2, _⟩ := ht z hz en hI
      obtain ⟨en2, q3, q4⟩ := q2 (List.all_eq_true.mp ha z hz)
      exact ⟨en1, en2, q1, q3, q4⟩) env hI (S ++ Z)
    obtain ⟨X, h4⟩ := hr ha en' h3 (S ++ Z ++ Y)
    exact ⟨Z ++ (Y ++ X), by rw [exs, ex_for, h1]; simp only [Out.of, hi, h2, Out.then]; rw [h4]; simp only [List.append_assoc]⟩
  | false =>
    obtain ⟨Y, h2⟩ := gloop_bad ht ha env hI (S ++ Z)
    exact ⟨Z ++ Y, by rw [exs, ex_for, h1]; simp only [Out.of, hi, h2, Out.then, List.append_assoc]⟩
theorem call_gb {T : List FD} {n f : Nat} {fd : FD} {ds : List D} (h : T[f]? = some fd) (hl : ds.length = fd.ps) (k : Gb (callAt T n) (startE ds fd.ns) fd.body d) : Gc (callAt T (n + 1)) f ds d := fun S => by
  obtain ⟨Z, h1⟩ := k S
  exact ⟨Z, by rw [callAt_at h hl, h1]⟩
theorem call_rt {T : List FD} {n f : Nat} {fd : FD} {ds : List D} {S S' : Store} {r : D} (h : T[f]? = some fd) (hl : ds.length = fd.ps) (k : exs (callAt T n) fd.body (startE ds fd.ns) S = .rt r S') : callAt T (n + 1) f ds S = .ok r S' := by
  rw [callAt_at h hl, k]
end
end MP

/-! LK5: lists of the store beside the hand. -/
namespace MP
open PySem L2
theorem HandOk.more {S : Store} {l m : Nat} (H : HandOk S l m) (Z : List Ob) : HandOk (S ++ Z) l m := by
  obtain ⟨xs, seed, h⟩ := H
  exact ⟨xs, seed, h.more Z⟩
theorem HandOk.lt {S : Store} {l m : Nat} (H : HandOk S l m) : l < S.length ∧ m < S.length := by
  obtain ⟨xs, seed, h⟩ := H
  exact h.lt
theorem HandOk.other {S : Store} {l m j : Nat} {o : Ob} (H : HandOk S l m) (h1 : j ≠ l) (h2 : j ≠ m) : HandOk (S.set j o) l m := by
  obtain ⟨xs, seed, h⟩ := H
  exact ⟨xs, seed, h.ne, by rw [List.getElem?_set_ne h1]; exact h.h, by rw [List.getElem?_set_ne h2]; exact h.g, h.lo, h.hi, h.len⟩
/-- the hand, and a list at j -/
structure ListAt (S : Store) (l m j : Nat) (xs : List D) : Prop where
  hand : HandOk S l m
  lj : S[j]? = some (.lst xs)
  n1 : j ≠ l
  n2 : j ≠ m
theorem ListAt.new {S : Store} {l m : Nat} (H : HandOk S l m) (xs : List D) : ListAt (S ++ [.lst xs]) l m S.length xs :=
  ⟨H.more _, by rw [List.getElem?_append_right (Nat.le_refl _), Nat.sub_self]; rfl, by have := H.lt; omega, by have := H.lt; omega⟩
theorem ListAt.step {S S' : Store} {l m j : Nat} {xs : List D} (L : ListAt S l m j xs) (H : HandB S S' l m) : ListAt S' l m j xs :=
  ⟨H.1, by rw [H.2.el j L.n1 L.n2]; exact L.lj, L.n1, L.n2⟩
theorem ListAt.put {S : Store} {l m j : Nat} {xs : List D} (L : ListAt S l m j xs) (ys : List D) : ListAt (S.set j (.lst ys)) l m j ys :=
  ⟨L.hand.other L.n1 L.n2, List.getElem?_set_self (List.getElem?_eq_some_iff.mp L.lj).1, L.n1, L.n2⟩
theorem ListAt.more {S : Store} {l m j : Nat} {xs : List D} (L : ListAt S l m j xs) (Z : List Ob) : ListAt (S ++ Z) l m j xs :=
  ⟨L.hand.more Z, by rw [List.getElem?_append_left (List.getElem?_eq_some_iff.mp L.lj).1]; exact L.lj, L.n1, L.n2⟩
theorem ListAt.deref {S : Store} {l m j : Nat} {xs : List D} (L : ListAt S l m j xs) : deref S (.ref j) = .lst xs := by
  simp only [MP.deref, L.lj]
section
variable {F : Fn} {env en1 en2 en3 en4 en5 : Env} {S S1 S2 S3 S4 S5 : Store} {a1 a2 a3 a4 a5 : SA} {r : List SA} {x1 x2 e : E} {b t : List SA} {d : D}
theorem exs_nx {a : SA} (h : ex F a env S = .nx en1 S1) : exs F (a :: r) env S = exs F r en1 S1 := by
  simp only [exs, h, Out.then]
theorem exs_ret (h : ev F e env S = .ok d S1) : exs F (.ret e :: r) env S = .rt d S1 := by
  simp only [exs, ex, h, Out.of, Out.then]
theorem exs_0 : exs F [] env S = .nx env S := by simp only [exs]
theorem exs_2 (h1 : ex F a1 env S = .nx en1 S1) (h2 : ex F a2 en1 S1 = .nx en2 S2) : exs F [a1, a2] env S = .nx en2 S2 := by
  simp only [exs, h1, h2, Out.then]
theorem exs_4 (h1 : ex F a1 env S = .nx en1 S1) (h2 : ex F a2 en1 S1 = .nx en2 S2) (h3 : ex F a3 en2 S2 = .nx en3 S3) (h4 : ex F a4 en3 S3 = .nx en4 S4) : exs F [a1, a2, a3, a4] env S = .nx en4 S4 := by
  simp only [exs, h1, h2, h3, h4, Out.then]
theorem ex_orF (c1 : ev F x1 env S = .ok (.bl false) S1) (c2 : ev F x2 env S1 = .ok (.bl false) S2) : ex F (.ifs (.or x1 x2) t []) env S = .nx env S2 := by
  simp only [ex, ev, c1, c2, Res.bind_ok, Out.of, exs]
theorem ex_ifF (c1 : ev F x1 env S = .ok (.bl false) S1) : ex F (.ifs x1 t []) env S = .nx env S1 := by
  simp only [ex, c1, Out.of, exs]
theorem turn_eq {p : P} {x : D} (h : bindP p x env = some en1) : turnF F p b x env S = exs F b en1 S := by
  unfold turnF
  rw [h]
theorem ex_asg {p : P} (h : ev F e env S = .ok d S1) (k : bindP p d env = some en1) : ex F (.asg p e) env S = .nx en1 S1 := by
  simp only [ex, h, Out.of, k]
theorem ev_nlst {es : List E} {ds : List D} (h : evs F es env S = .ok ds S1) (hl : ds.length ≤ 100000) : ev F (.nlst es) env S = .ok (.ref S1.length) (S1 ++ [.lst ds]) := by
  have hl : ds.length ≤ LIM := hl
  simp only [ev, h, Res.bind_ok, if_pos hl]
theorem ex_append {i j : Nat} {xs : List D} (hv : env[i]? = some (some (.ref j))) (a : S[j]? = some (.lst xs)) (he : ev F e env S = .ok d S1) (a1 : S1[j]? = some (.lst xs)) (hl : xs.length < 100000) :
    ex F (.expr (.mth .append (.var i) [e])) env S = .nx env (S1.set j (.lst (xs ++ [d]))) := by
  have hl : xs.length < LIM := hl
  have nu : ¬ (Mth.append = Mth.update) := by decide
  simp only [ex, ev, evs, hv, Res.bind_ok, deref, a, mty, he, mthD, if_neg nu, isMut, a1, mthM, if_pos hl, Out.of]
theorem ex_for_eq {p : P} {k : IK} {its : List E} {body : List SA} {ds xs : List D} (h : evs F its env S = .ok ds S1) (hi : itD k ds = some xs) : ex F (.for_ p k its body) env S = loopF (turnF F p body) xs env S1 := by
  rw [ex_for, h]
  simp only [Out.of, hi]
end
/-- a loop that appends -/
theorem app_loop {F : Fn} {l m j i : Nat} {p : P} {e : E} {g : D → D} {I : Env → Prop} : ∀ {zs : List D}, (∀ z ∈ zs, ∀ en, I en → ∃ en1, bindP p z en = some en1 ∧ en1[i]? = some (some (.ref j)) ∧ (∀ S, Pv F en1 S e (g z)) ∧ I en1) → ∀ (xs : List D) (S : Store) (en : Env), I en → ListAt S l m j xs → xs.length + zs.length ≤ 90000 →
    ∃ (en' : Env) (S' : Store), loopF (turnF F p [.expr (.mth .append (.var i) [e])]) zs en S = .nx en' S' ∧ I en' ∧ ListAt S' l m j (xs ++ zs.map g)
  | [], _, xs, S, en, hI, L, _ => ⟨en, S, rfl, hI, by rw [List.map_nil, List.append_nil]; exact L⟩
  | z :: zs, h, xs, S, en, hI, L, hl => by
    simp only [List.length_cons] at hl
    obtain ⟨en1, h1, h2, h3, h4⟩ := h z List.mem_cons_self en hI
    obtain ⟨en', S', e1, e2, e3⟩ := app_loop (fun y hy => h y (List.mem_cons_of_mem _ hy)) (xs ++ [g z]) (S.set j (.lst (xs ++ [g z]))) en1 h4 (L.put _) (by rw [List.length_append, List.length_singleton]; omega)
    refine ⟨en', S', ?_, e2, by rw [List.map_cons]; rw [List.append_assoc] at e3; exact e3⟩
    have t : turnF F p [.expr (.mth .append (.var i) [e])] z en S = .nx en1 (S.set j (.lst (xs ++ [g z]))) := by
      rw [turn_eq h1]
      exact (exs_nx (ex_append h2 L.lj (h3 S) L.lj (by omega))).trans exs_0
    simp only [loopF, t]
    exact e1
theorem range_it {i : Int} (h0 : 0 ≤ i) (h1 : i ≤ 1000000) : itD .range [.int i] = some ((List.range' 0 i.toNat).map fun (k : Nat) => .int (k : Nat)) := by
  show (if -1000000 ≤ i ∧ i ≤ 1000000 then some (rangeD 0 i) else none) = _
  rw [if_pos (by omega)]
  unfold rangeD
  rw [Int.sub_zero, List.range_eq_range']
  refine congrArg some (List.map_congr_left fun k _ => ?_)
  rw [Int.zero_add]
end MP

/-! LK6: how great data are; what is shown of them. -/
namespace MP
open PySem L2
/-! ### the signs of a shown text -/
def chS (x : Str) : Prop := ∀ c ∈ x.cps.toList, c < 4294967296
theorem chS_app {x y : Str} (h : chS x) (k : chS y) : chS (x ++ y) := fun c hc => by
  rw [PySem.Str.cps_append, Array.toList_append] at hc
  exact (List.mem_append.mp hc).elim (h c) (k c)
theorem chS_lit (s : String) : chS (Str.ofString s) := fun c hc => by
  rw [Str.ofString_eq_toList] at hc
  obtain ⟨d, _, rfl⟩ := List.mem_map.mp (show c ∈ s.toList.map Char.toNat from hc)
  exact d.val.toNat_lt
theorem reprChar_ch {q c : Nat} (hc : c < 4294967296) : ∀ e ∈ Builtin.Str.reprChar q c, e < 4294967296 := by
  have hex : ∀ (w : Nat), ∀ e ∈ (List.replicate (w - ((Nat.toDigits 16 c).map Char.toNat).length) 48 ++ (Nat.toDigits 16 c).map Char.toNat), e < 4294967296 := fun w e he => by
    rcases List.mem_append.mp he with he | he
    · rw [(List.mem_replicate.mp he).2]; decide
    · obtain ⟨d, _, rfl⟩ := List.mem_map.mp he
      exact d.val.toNat_lt
  intro e he
  unfold Builtin.Str.reprChar at he
  dsimp only at he
  repeat' split at he
  all_goals simp only [List.mem_append, List.mem_cons, List.not_mem_nil, or_false] at he
  all_goals first
    | omega
    | (rcases he with he | he
       · omega
       · exact hex _ e (List.mem_append.mpr he))
theorem foldl_ch {q : Nat} : ∀ (l : List Nat) (acc : Array Nat), (∀ c ∈ l, c < 4294967296) → (∀ c ∈ acc.toList, c < 4294967296) → ∀ c ∈ (l.foldl (fun out c => out ++ (Builtin.Str.reprChar q c).toArray) acc).toList, c < 4294967296
  | [], acc, _, h => h
  | x :: r, acc, hl, h => by
    rw [List.foldl_cons]
    refine foldl_ch r _ (fun c hc => hl c (List.mem_cons_of_mem _ hc)) fun c hc => ?_
    rw [Array.toList_append] at hc
    rcases List.mem_append.mp hc with hc | hc
    · exact h c hc
    · exact reprChar_ch (hl x List.mem_cons_self) c (by simpa using hc)
theorem reprText_ch {x : Str} (h : chS x) : chS (reprText x) := by
  have hq : reprQuote x < 4294967296 := by unfold reprQuote; split <;> decide
  intro c hc
  have e : (reprText x).cps.toList = (x.cps.toList.foldl (fun out c => out ++ (Builtin.Str.reprChar (reprQuote x) c).toArray) #[reprQuote x]).toList ++ [reprQuote x] := by
    unfold reprText
    show (Array.push _ _).toList = _
    rw [Array.toList_push, ← Array.foldl_toList]
  rw [e] at hc
  rcases List.mem_append.mp hc with hc | hc
  · exact foldl_ch _ _ h (fun c hc => by simp at hc; rw [hc]; exact hq) c hc
  · rw [List.mem_singleton] at hc
    rw [hc]; exact hq
theorem textFrom_ch : ∀ (ts : List Str) (k : Nat) (acc : Str), chS acc → (∀ t ∈ ts, chS t) → chS (textFrom k acc ts)
  | [], _, _, h, _ => h
  | t :: ts, k, acc, h, ht => by
    unfold textFrom
    refine textFrom_ch ts _ _ (chS_app (chS_app h ?_) (ht t List.mem_cons_self)) fun u hu => ht u (List.mem_cons_of_mem _ hu)
    exact chS_lit _
theorem join_ch {s : Str} (hs : chS s) : ∀ (ts : List Str), (∀ t ∈ ts, chS t) → chS (Str.join s ts)
  | [], _ => fun c hc => by (have h : c ∈ ([] : List Nat) := hc; cases h)
  | [t], ht => ht t List.mem_cons_self
  | t :: u :: r, ht => by
    show chS (t ++ s ++ Str.join s (u :: r))
    exact chS_app (chS_app (ht t List.mem_cons_self) hs) (join_ch hs (u :: r) fun v hv => ht v (List.mem_cons_of_mem _ hv))
/-! ### how great -/
mutual
/-- shape: ints to M, rows to L, signs -/
def shB (M L : Nat) : D → Bool
  | .non => true | .bl _ => true | .emp => true
  | .int i => decide (i.natAbs ≤ M)
  | .str x => x.cps.toList.all fun c => decide (c < 4294967296)
  | .tup xs => decide (xs.length ≤ L) && shsB M L xs
  | .lst xs => decide (xs.length ≤ L) && shsB M L xs
  | .dct ks xs => decide (ks = [.inr ("a" : Str)]) && (decide (xs.length = 1) && shsB M L xs)
  | _ => false
def shsB (M L : Nat) : List D → Bool
  | [] => true
  | x :: xs => shB M L x && shsB M L xs
end
mutual
def wt : D → Nat
  | .str x => x.length
  | .int _ => 64
  | .tup xs => wts xs
  | .lst xs => wts xs
  | .dct _ xs => wts xs + 2
  | _ => 0
def wts : List D → Nat
  | [] => 0
  | x :: xs => wt x + 1 + wts xs
end
mutual
/-- texts of ASCII signs; nl: no list, no dict -/
def asB (nl : Bool) : D → Bool
  | .str x => x.cps.toList.all fun c => decide (c < 128)
  | .tup xs => assB nl xs
  | .lst xs => !nl && assB nl xs
  | .dct _ xs => !nl && assB nl xs
  | .emp => !nl
  | _ => true
def assB (nl : Bool) : List D → Bool
  | [] => true
  | x :: xs => asB nl x && assB nl xs
end
theorem ass_mem {nl : Bool} {xs : List D} (h : assB nl xs = true) {d : D} (m : d ∈ xs) : asB nl d = true := by
  induction xs with
  | nil => cases m
  | cons x xs ih =>
    simp only [assB, Bool.and_eq_true] at h
    rcases List.mem_cons.mp m with rfl | m
    · exact h.1
    · exact ih h.2 m
theorem ass_of {nl : Bool} : ∀ {xs : List D}, (∀ x ∈ xs, asB nl x = true) → assB nl xs = true
  | [], _ => rfl
  | x :: xs, h => by simp only [assB, h x List.mem_cons_self, ass_of fun z hz => h z (List.mem_cons_of_mem _ hz)]; rfl
mutual
theorem as_weak : ∀ d : D, asB true d = true → asB false d = true
  | .non, _ => rfl | .bl _, _ => rfl | .int _, _ => rfl | .emp, _ => rfl
  | .scr _, _ => rfl | .ref _, _ => rfl | .fn _, _ => rfl | .ty _, _ => rfl | .exn _ _ _, _ => rfl
  | .dct _ xs, h => by simp only [asB] at h; cases h
  | .str x, h => h
  | .tup xs, h => by simp only [asB] at h ⊢; exact ass_weak xs h
  | .lst xs, h => by simp only [asB] at h; cases h
theorem ass_weak : ∀ d : List D, assB true d = true → assB false d = true
  | [], _ => rfl
  | x :: xs, h => by
    simp only [assB, Bool.and_eq_true] at h ⊢
    exact ⟨as_weak x h.1, ass_weak xs h.2⟩
end
theorem shs_mem {M L : Nat} {xs : List D} (h : shsB M L xs = true) {d : D} (m : d ∈ xs) : shB M L d = true := by
  induction xs with
  | nil => cases m
  | cons x xs ih =>
    simp only [shsB, Bool.and_eq_true] at h
    rcases List.mem_cons.mp m with rfl | m
    · exact h.1
    · exact ih h.2 m
theorem shs_of {M L : Nat} : ∀ {xs : List D}, (∀ x ∈ xs, shB M L x = true) → shsB M L xs = true
  | [], _ => rfl
  | x :: xs, h => by simp only [shsB, h x List.mem_cons_self, shs_of fun z hz => h z (List.mem_cons_of_mem _ hz)]; rfl
mutual
theorem sh_mono {M L M' L' : Nat} (h1 : M ≤ M') (h2 : L ≤ L') : ∀ d : D, shB M L d = true → shB M' L' d = true
  | .non, h => h | .bl _, h => h | .emp, h => h | .str _, h => h
  | .int i, h => by simp only [shB, decide_eq_true_iff] at h ⊢; omega
  | .tup xs, h => by
    simp only [shB, Bool.and_eq_true, decide_eq_true_iff] at h ⊢
    exact ⟨by omega, shs_mono h1 h2 xs h.2⟩
  | .lst xs, h => by
    simp only [shB, Bool.and_eq_true, decide_eq_true_iff] at h ⊢
    exact ⟨by omega, shs_mono h1 h2 xs h.2⟩
  | .scr _, h => h | .ref _, h => h | .fn _, h => h | .ty _, h => h | .exn _ _ _, h => h
  | .dct ks xs, h => by
    simp only [shB, Bool.and_eq_true] at h ⊢
    exact ⟨h.1, h.2.1, shs_mono h1 h2 xs h.2.2⟩
theorem shs_mono {M L M' L' : Nat} (h1 : M ≤ M') (h2 : L ≤ L') : ∀ d : List D, shsB M L d = true → shsB M' L' d = true
  | [], _ => rfl
  | x :: xs, h => by
    simp only [shsB, Bool.and_eq_true] at h ⊢
    exact ⟨sh_mono h1 h2 x h.1, shs_mono h1 h2 xs h.2⟩
end
theorem wts_app : ∀ (xs ys : List D), wts (xs ++ ys) = wts xs + wts ys
  | [], ys => by simp [wts]
  | x :: xs, ys => by
    rw [List.cons_append, wts, wts, wts_app xs ys]; omega
theorem wts_mem : ∀ {xs : List D} {x : D}, x ∈ xs → wt x + 1 ≤ wts xs
  | y :: ys, x, h => by
    rw [wts]
    rcases List.mem_cons.mp h with rfl | h
    · omega
    · have := wts_mem h; omega
theorem wts_sub : ∀ {xs ys : List D}, xs.Sublist ys → wts xs ≤ wts ys
  | _, _, .slnil => Nat.le_refl _
  | _, _, .cons a h => by rw [wts]; have := wts_sub h; omega
  | _, _, .cons₂ a h => by rw [wts, wts]; have := wts_sub h; omega
theorem cut_sl {xs : List D} {lo hi : Option Int} : (cutD xs lo hi).Sublist xs := (List.take_sublist _ _).trans (List.drop_sublist _ _)
theorem wts_cut {xs : List D} {lo hi : Option Int} : wts (cutD xs lo hi) ≤ wts xs := wts_sub cut_sl
theorem wts_rev : ∀ xs : List D, wts xs.reverse = wts xs
  | [] => rfl
  | x :: xs => by rw [List.reverse_cons, wts_app, wts_rev xs, wts, wts, wts]; omega
theorem wts_len : ∀ xs : List D, xs.length ≤ wts xs
  | [] => Nat.le_refl _
  | x :: xs => by rw [wts, List.length_cons]; have := wts_len xs; omega
/-! ### what is shown -/
theorem int_shown {i : Int} (h : i.natAbs < 10 ^ 12) : (PyData.shown (.int i)).length ≤ 13 := by
  have key : ∀ n : Nat, n < 10 ^ 12 → (Nat.repr n).toList.length ≤ 12 := fun n hn => by
    have e : (Nat.repr n).toList = Nat.toDigits 10 n := by simp [Nat.repr]
    rw [e]
    exact PyProof.Rows.digits10_le (by decide) hn
  have len : ∀ s : String, (Str.ofString s).length = s.toList.length := fun s => by
    rw [Str.ofString_eq_toList]
    show (List.toArray _).size = _
    simp
  show (Str.ofString (toString i)).length ≤ 13
  rw [len]
  cases i with
  | ofNat n =>
    have := key n (by simpa using h)
    show (Nat.repr n).toList.length ≤ 13
    omega
  | negSucc n =>
    have := key (n + 1) (by simpa [Int.natAbs] using h)
    show ("-" ++ Nat.repr (n + 1)).toList.length ≤ 13
    rw [String.toList_append, List.length_append]
    show 1 + _ ≤ 13
    omega
theorem log_lt {n : Nat} (h : n < 10 ^ 12) : n.log2 < 60 := by
  by_cases h0 : n = 0
  · subst h0; decide
  · exact (Nat.log2_lt h0).mpr (Nat.lt_of_lt_of_le h (by decide))
theorem toPysE_len : ∀ {ds : List D} {ps : List PyData}, toPysE ds = some ps → ps.length = ds.length
  | [], ps, h => by simp only [toPysE] at h; cases h; rfl
  | d :: ds, ps, h => by
    simp only [toPysE] at h
    rw [Option.bind_eq_some_iff] at h
    obtain ⟨p, _, h⟩ := h
    rw [Option.map_eq_some_iff] at h
    obtain ⟨r, h2, rfl⟩ := h
    rw [List.length_cons, List.length_cons, toPysE_len h2]
mutual
theorem shown_of {M L : Nat} (hM : M < 10 ^ 12) : ∀ d : D, shB M L d = true → ∃ p, toPyE d = some p ∧ p.showable = true ∧ p.leavesShort 13 = true ∧ p.weight ≤ wt d ∧ p.depth ≤ dep d + 1 ∧ chS p.shown
  | .non, _ => ⟨.none, rfl, rfl, rfl, Nat.le_refl _, by decide, chS_lit _⟩
  | .bl b, _ => ⟨.bool b, rfl, rfl, rfl, Nat.le_refl _, Nat.zero_le _, by cases b <;> exact chS_lit _⟩
  | .int i, h => by
    simp only [shB, decide_eq_true_iff] at h
    have hi : i.natAbs < 10 ^ 12 := by omega
    refine ⟨.int i, rfl, ?_, ?_, ?_, Nat.zero_le _, chS_lit _⟩
    · simp only [PyData.showable, decide_eq_true_iff]
      have := log_lt hi; omega
    · simp only [PyData.leavesShort, decide_eq_true_iff]
      exact int_shown hi
    · simp only [PyData.weight, wt]
      split
      · omega
      · have := log_lt hi; omega
  | .str x, h => by
    simp only [shB] at h
    have hc : chS x := fun c hc => of_decide_eq_true (List.all_eq_true.mp h c hc)
    refine ⟨.str x, rfl, rfl, ?_, Nat.le_refl _, Nat.zero_le _, reprText_ch hc⟩
    simp only [PyData.leavesShort]
    refine List.all_eq_true.mpr fun c hcm => decide_eq_true ?_
    have e : (16 : Nat) ^ 8 = 4294967296 := by decide
    rw [e]; exact hc c hcm
  | .emp, _ => ⟨.dict [], rfl, rfl, rfl, Nat.le_refl _, by decide, by
    show chS (dictText [])
    exact chS_app (chS_app (chS_lit _) (join_ch (chS_lit _) [] (fun _ h => by cases h))) (chS_lit _)⟩
  | .tup xs, h => by
    simp only [shB, Bool.and_eq_true] at h
    obtain ⟨ps, h1, h2, h3, h4, h5, h6⟩ := showns_of hM xs h.2
    refine ⟨.tuple ps, by simp only [toPyE, h1]; rfl, by simpa only [PyData.showable] using h2, by simpa only [PyData.leavesShort] using h3, by simpa only [PyData.weight, wt] using h4, by simp only [PyData.depth, dep]; omega, ?_⟩
    show chS (tupleText (PyData.shownAll ps))
    exact chS_app (chS_app (chS_lit _) (join_ch (chS_lit _) _ h6)) (chS_lit _)
  | .lst xs, h => by
    simp only [shB, Bool.and_eq_true] at h
    obtain ⟨ps, h1, h2, h3, h4, h5, h6⟩ := showns_of hM xs h.2
    refine ⟨.list ps, by simp only [toPyE, h1]; rfl, by simpa only [PyData.showable] using h2, by simpa only [PyData.leavesShort] using h3, by simpa only [PyData.weight, wt] using h4, by simp only [PyData.depth, dep]; omega, ?_⟩
    show chS (listText (PyData.shownAll ps))
    exact chS_app (textFrom_ch _ _ _ (chS_lit _) h6) (chS_lit _)
  | .scr _, h => by simp only [shB] at h; cases h
  | .ref _, h => by simp only [shB] at h; cases h
  | .fn _, h => by simp only [shB] at h; cases h
  | .ty _, h => by simp only [shB] at h; cases h
  | .exn _ _ _, h => by simp only [shB] at h; cases h
  | .dct ks xs, h => by
    simp only [shB, Bool.and_eq_true, decide_eq_true_iff] at h
    obtain ⟨rfl, hl, hs⟩ := h
    obtain ⟨ps, h1, h2, h3, h4, h5, h6⟩ := showns_of hM xs hs
    have lp := toPysE_len h1
    rw [hl] at lp
    obtain ⟨p, rfl⟩ := List.length_eq_one_iff.mp lp
    have s2 : p.showable = true := by simpa only [PyData.showableAll, Bool.and_true] using h2
    have s3 : p.leavesShort 13 = true := by simpa only [PyData.leavesShortAll, Bool.and_true] using h3
    have s6 : chS p.shown := h6 _ (by simp [PyData.shownAll])
    have sa : (PyData.str ("a" : Str)).leavesShort 13 = true := by decide +kernel
    have sw : (PyData.str ("a" : Str)).weight = 1 := by decide +kernel
    refine ⟨.dict [(.str ("a" : Str), p)], ?_, ?_, ?_, ?_, ?_, ?_⟩
    · simp only [toPyE, h1, Option.bind_some]; rfl
    · simp only [PyData.showable, PyData.showableKv, s2]; rfl
    · simp only [PyData.leavesShort, PyData.leavesShortKv] at sa ⊢
      rw [s3, sa]; rfl
    · simp only [PyData.weightAll] at h4
      simp only [PyData.weight, PyData.weightKv, wt] at sw ⊢
      omega
    · simp only [PyData.depthAll] at h5
      simp only [PyData.depth, PyData.depthKv, dep]
      omega
    · show chS (dictText [(PyData.str ("a" : Str)).shown ++ ": " ++ p.shown])
      refine chS_app (chS_app (chS_lit _) (join_ch (chS_lit _) _ fun t ht => ?_)) (chS_lit _)
      rw [List.mem_singleton] at ht
      subst ht
      exact chS_app (chS_app (reprText_ch (chS_lit _)) (chS_lit _)) s6
theorem showns_of {M L : Nat} (hM : M < 10 ^ 12) : ∀ ds : List D, shsB M L ds = true → ∃ ps, toPysE ds = some ps ∧ PyData.showableAll ps = true ∧ PyData.leavesShortAll 13 ps = true ∧ PyData.weightAll ps ≤ wts ds ∧ PyData.depthAll ps ≤ deps ds + 1 ∧ ∀ t ∈ PyData.shownAll ps, chS t
  | [], _ => ⟨[], rfl, rfl, rfl, Nat.le_refl _, by simp [PyData.depthAll], fun t h => by simp [PyData.shownAll] at h⟩
  | d :: ds, h => by
    simp only [shsB, Bool.and_eq_true] at h
    obtain ⟨p, h1, h2, h3, h4, h5, h6⟩ := shown_of hM d h.1
    obtain ⟨ps, k1, k2, k3, k4, k5, k6⟩ := showns_of hM ds h.2
    refine ⟨p :: ps, by simp only [toPysE, h1, k1]; rfl, by simp only [PyData.showableAll, h2, k2]; rfl, by simp only [PyData.leavesShortAll, h3, k3]; rfl, by simp only [PyData.weightAll, wts]; omega, by simp only [PyData.depthAll, deps]; omega, fun t ht => ?_⟩
    simp only [PyData.shownAll, List.mem_cons] at ht
    rcases ht with rfl | ht
    · exact h6
    · exact k6 t ht
end
/-- repr of data -/
theorem shownD_of {M L : Nat} {d : D} (hM : M < 10 ^ 12) (h : shB M L d = true) (hd : dep d ≤ 60) (hw : wt d ≤ 1066600) : ∃ z, shownD d = some z ∧ chS z ∧ z.length ≤ 15 * wt d + 13 := by
  obtain ⟨p, h1, h2, h3, h4, h5, h6⟩ := shown_of hM d h
  have h7 := PyData.shown_le 13 (by decide) p h3
  have h8 : p.shown.length ≤ 15 * wt d + 13 := by omega
  refine ⟨p.shown, ?_, h6, h8⟩
  unfold shownD
  rw [h1, Option.bind_some, h2, decide_eq_true (by omega : p.depth ≤ 64), decide_eq_true (by omega : p.shown.length ≤ 16000000)]
  rfl
end MP

set_option maxHeartbeats 0
namespace MP
open PySem L2 PySem.Calls
def top (i : Nat) : Stmt := PySem.Challenge.pw_kinsignals_k06_signals_and_refusals.main.body.getD i (.Pass ⟨0, 0, 0, 0⟩)
def bodyOfC : Stmt → List Stmt
  | .ClassDef (body := b) .. => b
  | _ => []
def iniS_NoOne : Stmt := (bodyOfC (top 40)).getD 0 (.Pass ⟨0, 0, 0, 0⟩)
def ini_NoOne : IniT := ⟨"NoOne", "NoOne.__init__", "name", "name", defArgs iniS_NoOne, defBody iniS_NoOne, defScope iniS_NoOne⟩
theorem iniOk_NoOne : IniOk ini_NoOne := ⟨⟨rfl, rfl, rfl, by decide +kernel, rfl, by decide +kernel, by decide +kernel⟩, ⟨_, _, _, _, _, _, _, _, _, _, _, _, _, rfl, fun env => rfl⟩, ⟨.inl rfl, .inl rfl, by decide, by decide⟩, rfl, fun _ _ _ _ _ _ _ _ us hl => match us, hl with | [_, _], _ => rfl⟩
def iniS_NoSession : Stmt := (bodyOfC (top 41)).getD 0 (.Pass ⟨0, 0, 0, 0⟩)
def ini_NoSession : IniT := ⟨"NoSession", "NoSession.__init__", "name", "name", defArgs iniS_NoSession, defBody iniS_NoSession, defScope iniS_NoSession⟩
theorem iniOk_NoSession : IniOk ini_NoSession := ⟨⟨rfl, rfl, rfl, by decide +kernel, rfl, by decide +kernel, by decide +kernel⟩, ⟨_, _, _, _, _, _, _, _, _, _, _, _, _, rfl, fun env => rfl⟩, ⟨.inl rfl, .inl rfl, by decide, by decide⟩, rfl, fun _ _ _ _ _ _ _ _ us hl => match us, hl with | [_, _], _ => rfl⟩
def iniS_NoText : Stmt := (bodyOfC (top 44)).getD 0 (.Pass ⟨0, 0, 0, 0⟩)
def ini_NoText : IniT := ⟨"NoText", "NoText.__init__", "row", "row", defArgs iniS_NoText, defBody iniS_NoText, defScope iniS_NoText⟩
theorem iniOk_NoText : IniOk ini_NoText := ⟨⟨rfl, rfl, rfl, by decide +kernel, rfl, by decide +kernel, by decide +kernel⟩, ⟨_, _, _, _, _, _, _, _, _, _, _, _, _, rfl, fun env => rfl⟩, ⟨.inl rfl, .inl rfl, by decide, by decide⟩, rfl, fun _ _ _ _ _ _ _ _ us hl => match us, hl with | [_, _], _ => rfl⟩
def iniS_NoTitle : Stmt := (bodyOfC (top 37)).getD 0 (.Pass ⟨0, 0, 0, 0⟩)
def ini_NoTitle : IniT := ⟨"NoTitle", "NoTitle.__init__", "title", "title", defArgs iniS_NoTitle, defBody iniS_NoTitle, defScope iniS_NoTitle⟩
theorem iniOk_NoTitle : IniOk ini_NoTitle := ⟨⟨rfl, rfl, rfl, by decide +kernel, rfl, by decide +kernel, by decide +kernel⟩, ⟨_, _, _, _, _, _, _, _, _, _, _, _, _, rfl, fun env => rfl⟩, ⟨.inl rfl, .inl rfl, by decide, by decide⟩, rfl, fun _ _ _ _ _ _ _ _ us hl => match us, hl with | [_, _], _ => rfl⟩
def glob : Glob where
  fn := ([("rising_signals", 0), ("is_signal", 1), ("may_be_masked", 2), ("are_maskable", 3), ("is_whole", 4), ("is_count", 5), ("is_below", 6), ("is_said", 7), ("is_title", 8), ("is_who", 9), ("is_how", 11), ("is_row", 22), ("_law_hand", 23), ("_law_pick", 24), ("_law_of", 25), ("_law_marks", 26), ("_law_refusals_right", 27), ("_law_is", 28)] : List (Str × Nat))
  fk := [("is_one_of", 10, 1, ["words"])]
  fv := [21, 12, 19, 20, 18, 17, 16, 13, 15, 14]
  gc := [("SIGNALS", .tup [.str "kill", .str "halt", .str "on", .str "hang", .str "quit", .str "call", .str "kin", .str "rest", .str "reads"]), ("SURE", .tup [.str "kill", .str "halt"]), ("MANY_SAID", .int 100), ("MOST_LETTERS", .int 8), ("LETTERS", .str "abcdefghijklmnopqrstuvwxyz"), ("SELF", .str "self"), ("BARE", .tup [.str "fork", .str "pause", .str "read", .str "return", .str "session", .str "taker"]), ("is_asking", .fn 21), ("is_exec", .fn 12), ("is_front", .fn 19), ("is_going", .fn 20), ("is_grouping", .fn 18), ("is_handle", .fn 17), ("is_masking", .fn 16), ("is_said_row", .fn 13), ("is_send", .fn 15), ("is_wait", .fn 14)]
  gd := [("FORMS", [("exec", .tup [.int 1, .fn 12]), ("end", .tup [.int 1, .fn 13]), ("wait", .tup [.int 2, .fn 14]), ("send", .tup [.int 2, .fn 15]), ("mask", .tup [.int 1, .fn 16]), ("unmask", .tup [.int 1, .fn 16]), ("handle", .tup [.int 2, .fn 17]), ("group", .tup [.int 2, .fn 18]), ("front", .tup [.int 1, .fn 19]), ("say", .tup [.int 1, .fn 13]), ("goto", .tup [.int 1, .fn 20]), ("if", .tup [.int 2, .fn 21])])]
  bf := ["ValueError", "all", "bool", "enumerate", "int", "isinstance", "len", "range", "repr", "str", "tuple"]
  xs := [("KinError", none), ("NoBook", none), ("NoEntry", none), ("NoHouse", none), ("NoLine", none), ("NoOne", some "name"), ("NoScript", none), ("NoSession", some "name"), ("NoText", some "row"), ("NoTitle", some "title"), ("NoTyped", none), ("TooMany", none)]
  xk := ([(("NoBook", "KinError"), true), (("NoBook", "NoBook"), true), (("NoBook", "NoEntry"), false), (("NoBook", "NoHouse"), false), (("NoBook", "NoLine"), false), (("NoBook", "NoOne"), false), (("NoBook", "NoScript"), false), (("NoBook", "NoSession"), false), (("NoBook", "NoText"), false), (("NoBook", "NoTitle"), false), (("NoBook", "NoTyped"), false), (("NoBook", "TooMany"), false), (("NoBook", "ValueError"), true), (("NoEntry", "KinError"), true), (("NoEntry", "NoBook"), false), (("NoEntry", "NoEntry"), true), (("NoEntry", "NoHouse"), false), (("NoEntry", "NoLine"), false), (("NoEntry", "NoOne"), false), (("NoEntry", "NoScript"), false), (("NoEntry", "NoSession"), false), (("NoEntry", "NoText"), false), (("NoEntry", "NoTitle"), false), (("NoEntry", "NoTyped"), false), (("NoEntry", "TooMany"), false), (("NoEntry", "ValueError"), true), (("NoHouse", "KinError"), true), (("NoHouse", "NoBook"), false), (("NoHouse", "NoEntry"), false), (("NoHouse", "NoHouse"), true)] : List ((Str × Str) × Bool)) ++ ([(("NoHouse", "NoLine"), false), (("NoHouse", "NoOne"), false), (("NoHouse", "NoScript"), false), (("NoHouse", "NoSession"), false), (("NoHouse", "NoText"), false), (("NoHouse", "NoTitle"), false), (("NoHouse", "NoTyped"), false), (("NoHouse", "TooMany"), false), (("NoHouse", "ValueError"), true), (("NoLine", "KinError"), true), (("NoLine", "NoBook"), false), (("NoLine", "NoEntry"), false), (("NoLine", "NoHouse"), false), (("NoLine", "NoLine"), true), (("NoLine", "NoOne"), false), (("NoLine", "NoScript"), false), (("NoLine", "NoSession"), false), (("NoLine", "NoText"), false), (("NoLine", "NoTitle"), false), (("NoLine", "NoTyped"), false), (("NoLine", "TooMany"), false), (("NoLine", "ValueError"), true), (("NoOne", "KinError"), true), (("NoOne", "NoBook"), false), (("NoOne", "NoEntry"), false), (("NoOne", "NoHouse"), false), (("NoOne", "NoLine"), false), (("NoOne", "NoOne"), true), (("NoOne", "NoScript"), false), (("NoOne", "NoSession"), false)] : List ((Str × Str) × Bool)) ++ ([(("NoOne", "NoText"), false), (("NoOne", "NoTitle"), false), (("NoOne", "NoTyped"), false), (("NoOne", "TooMany"), false), (("NoOne", "ValueError"), true), (("NoScript", "KinError"), true), (("NoScript", "NoBook"), false), (("NoScript", "NoEntry"), false), (("NoScript", "NoHouse"), false), (("NoScript", "NoLine"), false), (("NoScript", "NoOne"), false), (("NoScript", "NoScript"), true), (("NoScript", "NoSession"), false), (("NoScript", "NoText"), false), (("NoScript", "NoTitle"), false), (("NoScript", "NoTyped"), false), (("NoScript", "TooMany"), false), (("NoScript", "ValueError"), true), (("NoSession", "KinError"), true), (("NoSession", "NoBook"), false), (("NoSession", "NoEntry"), false), (("NoSession", "NoHouse"), false), (("NoSession", "NoLine"), false), (("NoSession", "NoOne"), false), (("NoSession", "NoScript"), false), (("NoSession", "NoSession"), true), (("NoSession", "NoText"), false), (("NoSession", "NoTitle"), false), (("NoSession", "NoTyped"), false), (("NoSession", "TooMany"), false)] : List ((Str × Str) × Bool)) ++ ([(("NoSession", "ValueError"), true), (("NoText", "KinError"), true), (("NoText", "NoBook"), false), (("NoText", "NoEntry"), false), (("NoText", "NoHouse"), false), (("NoText", "NoLine"), false), (("NoText", "NoOne"), false), (("NoText", "NoScript"), false), (("NoText", "NoSession"), false), (("NoText", "NoText"), true), (("NoText", "NoTitle"), false), (("NoText", "NoTyped"), false), (("NoText", "TooMany"), false), (("NoText", "ValueError"), true), (("NoTitle", "KinError"), true), (("NoTitle", "NoBook"), false), (("NoTitle", "NoEntry"), false), (("NoTitle", "NoHouse"), false), (("NoTitle", "NoLine"), false), (("NoTitle", "NoOne"), false), (("NoTitle", "NoScript"), false), (("NoTitle", "NoSession"), false), (("NoTitle", "NoText"), false), (("NoTitle", "NoTitle"), true), (("NoTitle", "NoTyped"), false), (("NoTitle", "TooMany"), false), (("NoTitle", "ValueError"), true), (("NoTyped", "KinError"), true), (("NoTyped", "NoBook"), false), (("NoTyped", "NoEntry"), false)] : List ((Str × Str) × Bool)) ++ ([(("NoTyped", "NoHouse"), false), (("NoTyped", "NoLine"), false), (("NoTyped", "NoOne"), false), (("NoTyped", "NoScript"), false), (("NoTyped", "NoSession"), false), (("NoTyped", "NoText"), false), (("NoTyped", "NoTitle"), false), (("NoTyped", "NoTyped"), true), (("NoTyped", "TooMany"), false), (("NoTyped", "ValueError"), true), (("TooMany", "KinError"), true), (("TooMany", "NoBook"), false), (("TooMany", "NoEntry"), false), (("TooMany", "NoHouse"), false), (("TooMany", "NoLine"), false), (("TooMany", "NoOne"), false), (("TooMany", "NoScript"), false), (("TooMany", "NoSession"), false), (("TooMany", "NoText"), false), (("TooMany", "NoTitle"), false), (("TooMany", "NoTyped"), false), (("TooMany", "TooMany"), true), (("TooMany", "ValueError"), true)] : List ((Str × Str) × Bool))
  ini := [ini_NoOne, ini_NoSession, ini_NoText, ini_NoTitle]
def b_rising_signals : List SA := [
  .ret (.blt .tuple [.comp false (.name 1) .seq [.con (.tup [.str "kill", .str "halt", .str "on", .str "hang", .str "quit", .str "call", .str "kin", .str "rest", .str "reads"])] [.cmp .inn (.var 1) (.var 0)] (.var 1)])]
def b_is_signal : List SA := [
  .ret (.and (.blt .isinst [.var 0, .con (.ty "str")]) (.cmp .inn (.var 0) (.con (.tup [.str "kill", .str "halt", .str "on", .str "hang", .str "quit", .str "call", .str "kin", .str "rest", .str "reads"]))))]
def b_may_be_masked : List SA := [
  .ret (.and (.call 1 [.var 0]) (.cmp .notin (.var 0) (.con (.tup [.str "kill", .str "halt"]))))]
def b_are_maskable : List SA := [
  .ifs (.or (.not (.blt .isinst [.var 0, .con (.ty "tuple")])) (.not (.blt .all [.comp false (.name 1) .seq [.var 0] [] (.call 2 [.var 1])]))) [.ret (.con (.bl false))] [],
  .ret (.cmp .eq (.var 0) (.call 0 [.var 0]))]
def b_is_whole : List SA := [
  .ret (.and (.blt .isinst [.var 0, .con (.ty "int")]) (.not (.blt .isinst [.var 0, .con (.ty "bool")])))]
def b_is_count : List SA := [
  .ret (.and (.call 4 [.var 0]) (.cmp .ge (.var 0) (.con (.int 0))))]
def b_is_below : List SA := [
  .ret (.and (.call 5 [.var 0]) (.cmp .lt (.var 0) (.var 1)))]
def b_is_said : List SA := [
  .ret (.call 6 [.var 0, .con (.int 100)])]
def b_is_title : List SA := [
  .ret (.and (.blt .isinst [.var 0, .con (.ty "str")]) (.and (.chain .le .le (.con (.int 1)) (.blt .len [.var 0]) (.con (.int 8))) (.blt .all [.comp false (.name 1) .seq [.var 0] [] (.cmp .inn (.var 1) (.con (.str "abcdefghijklmnopqrstuvwxyz")))])))]
def b_is_who : List SA := [
  .ret (.or (.call 5 [.var 0]) (.and (.blt .isinst [.var 0, .con (.ty "str")]) (.cmp .eq (.var 0) (.con (.str "self")))))]
def b_is_one_of : List SA := [
  .ret (.and (.blt .isinst [.var 0, .con (.ty "str")]) (.cmp .inn (.var 0) (.var 1)))]
def b_is_how : List SA := [
  .ifs (.not (.blt .isinst [.var 0, .con (.ty "tuple")])) [.ret (.callk 10 [.var 0] [.tup [.con (.str "plain"), .con (.str "ignore")]])] [],
  .ret (.and (.cmp .eq (.blt .len [.var 0]) (.con (.int 2))) (.and (.call 6 [.ix (.var 0) (.con (.int 0)), .var 1]) (.call 3 [.ix (.var 0) (.con (.int 1))])))]
def b_is_exec : List SA := [
  .ret (.call 8 [.ix (.var 0) (.con (.int 0))])]
def b_is_said_row : List SA := [
  .ret (.call 7 [.ix (.var 0) (.con (.int 0))])]
def b_is_wait : List SA := [
  .ret (.and (.or (.cmp .is (.ix (.var 0) (.con (.int 0))) (.con (.non))) (.call 5 [.ix (.var 0) (.con (.int 0))])) (.blt .isinst [.ix (.var 0) (.con (.int 1)), .con (.ty "bool")]))]
def b_is_send : List SA := [
  .ret (.and (.call 1 [.ix (.var 0) (.con (.int 0))]) (.or (.call 5 [.ix (.var 0) (.con (.int 1))]) (.callk 10 [.ix (.var 0) (.con (.int 1))] [.tup [.con (.str "self"), .con (.str "parent"), .con (.str "group")]])))]
def b_is_masking : List SA := [
  .ret (.call 3 [.ix (.var 0) (.con (.int 0))])]
def b_is_handle : List SA := [
  .ret (.and (.call 2 [.ix (.var 0) (.con (.int 0))]) (.call 11 [.ix (.var 0) (.con (.int 1)), .var 1]))]
def b_is_grouping : List SA := [
  .ret (.and (.call 9 [.ix (.var 0) (.con (.int 0))]) (.callk 10 [.ix (.var 0) (.con (.int 1))] [.tup [.con (.str "new"), .con (.str "mine")]]))]
def b_is_front : List SA := [
  .ret (.call 9 [.ix (.var 0) (.con (.int 0))])]
def b_is_going : List SA := [
  .ret (.call 6 [.ix (.var 0) (.con (.int 0)), .var 1])]
def b_is_asking : List SA := [
  .ret (.and (.call 4 [.ix (.var 0) (.con (.int 0))]) (.call 6 [.ix (.var 0) (.con (.int 1)), .var 1]))]
def b_is_row : List SA := [
  .ifs (.or (.not (.blt .isinst [.var 0, .con (.ty "tuple")])) (.or (.cmp .eq (.blt .len [.var 0]) (.con (.int 0))) (.not (.blt .isinst [.ix (.var 0) (.con (.int 0)), .con (.ty "str")])))) [.ret (.con (.bl false))] [],
  .asg (.star 1 [.name 2, .name 3]) (.var 0),
  .ifs (.cmp .inn (.var 2) (.con (.tup [.str "fork", .str "pause", .str "read", .str "return", .str "session", .str "taker"]))) [.ret (.cmp .eq (.blt .len [.var 3]) (.con (.int 0)))] [],
  .ifs (.cin true [("exec", .tup [.int 1, .fn 12]), ("end", .tup [.int 1, .fn 13]), ("wait", .tup [.int 2, .fn 14]), ("send", .tup [.int 2, .fn 15]), ("mask", .tup [.int 1, .fn 16]), ("unmask", .tup [.int 1, .fn 16]), ("handle", .tup [.int 2, .fn 17]), ("group", .tup [.int 2, .fn 18]), ("front", .tup [.int 1, .fn 19]), ("say", .tup [.int 1, .fn 13]), ("goto", .tup [.int 1, .fn 20]), ("if", .tup [.int 2, .fn 21])] (.var 2)) [.ret (.con (.bl false))] [],
  .asg (.tup [.name 4, .name 5]) (.cget [("exec", .tup [.int 1, .fn 12]), ("end", .tup [.int 1, .fn 13]), ("wait", .tup [.int 2, .fn 14]), ("send", .tup [.int 2, .fn 15]), ("mask", .tup [.int 1, .fn 16]), ("unmask", .tup [.int 1, .fn 16]), ("handle", .tup [.int 2, .fn 17]), ("group", .tup [.int 2, .fn 18]), ("front", .tup [.int 1, .fn 19]), ("say", .tup [.int 1, .fn 13]), ("goto", .tup [.int 1, .fn 20]), ("if", .tup [.int 2, .fn 21])] (.var 2)),
  .ret (.and (.cmp .eq (.blt .len [.var 3]) (.var 4)) (.callv 5 [21, 12, 19, 20, 18, 17, 16, 13, 15, 14] [.var 3, .var 1]))]
def b__law_hand : List SA := [
  .asg (.name 1) (.con (.int 23)),
  .for_ (.name 2) .seq [.sl (.var 0) [] [.con (.int 63)]] [.asg (.name 1) (.bin .mod (.bin .add (.bin .add (.bin .mul (.var 1) (.con (.int 6364136223846793))) (.bin .mod (.var 2) (.con (.int 2305843009213693951)))) (.con (.int 31))) (.con (.int 2305843009213693951)))],
  .ret (.nlst [.comp true (.name 2) .seq [.sl (.var 0) [] [.con (.int 63)]] [.cmp .ge (.var 2) (.bin .pow (.con (.int 10)) (.con (.int 18)))] (.var 2), .var 1])]
def b__law_pick : List SA := [
  .while_ (.and (.cmp .ne (.ix (.var 0) (.con (.int 0))) (.lst [])) (.cmp .eq (.ix (.ix (.var 0) (.con (.int 0))) (.con (.int 0))) (.con (.int 0)))) [.expr (.mth .pop1 (.ix (.var 0) (.con (.int 0))) [.con (.int 0)])],
  .ifs (.cmp .ne (.ix (.var 0) (.con (.int 0))) (.lst [])) [.asg (.name 2) (.bin .mod (.ix (.ix (.var 0) (.con (.int 0))) (.con (.int 0))) (.var 1)), .setIx (.bin .fdiv (.ix (.ix (.var 0) (.con (.int 0))) (.con (.int 0))) (.var 1)) (.ix (.var 0) (.con (.int 0))) (.con (.int 0)), .ret (.var 2)] [],
  .setIx (.bin .mod (.bin .add (.bin .mul (.ix (.var 0) (.con (.int 1))) (.con (.int 3935559000370003))) (.con (.int 2691343689449507))) (.con (.int 2305843009213693951))) (.var 0) (.con (.int 1)),
  .asg (.name 3) (.bin .fdiv (.ix (.var 0) (.con (.int 1))) (.con (.int 65537))),
  .ret (.bin .mod (.bin .fdiv (.bin .mod (.bin .mul (.var 3) (.bin .add (.bin .mod (.var 3) (.con (.int 8191))) (.con (.int 3)))) (.con (.int 2305843009213693921))) (.con (.int 4099))) (.var 1))]
def b__law_of : List SA := [
  .ret (.ix (.var 1) (.call 24 [.var 0, .blt .len [.var 1]]))]
def b__law_marks : List SA := [
  .asg (.name 1) (.lst [.isx (.var 0) [("NoBook", false), ("NoEntry", false), ("NoHouse", false), ("NoLine", false), ("NoOne", false), ("NoScript", false), ("NoSession", false), ("NoText", false), ("NoTitle", true), ("NoTyped", false), ("TooMany", false)], .isx (.var 0) [("NoBook", false), ("NoEntry", false), ("NoHouse", false), ("NoLine", false), ("NoOne", true), ("NoScript", false), ("NoSession", false), ("NoText", false), ("NoTitle", false), ("NoTyped", false), ("TooMany", false)], .isx (.var 0) [("NoBook", false), ("NoEntry", false), ("NoHouse", false), ("NoLine", false), ("NoOne", false), ("NoScript", false), ("NoSession", true), ("NoText", false), ("NoTitle", false), ("NoTyped", false), ("TooMany", false)], .isx (.var 0) [("NoBook", false), ("NoEntry", false), ("NoHouse", false), ("NoLine", false), ("NoOne", false), ("NoScript", false), ("NoSession", false), ("NoText", true), ("NoTitle", false), ("NoTyped", false), ("TooMany", false)]]),
  .asg (.name 1) (.bin .add (.var 1) (.lst [.isx (.var 0) [("NoBook", true), ("NoEntry", false), ("NoHouse", false), ("NoLine", false), ("NoOne", false), ("NoScript", false), ("NoSession", false), ("NoText", false), ("NoTitle", false), ("NoTyped", false), ("TooMany", false)], .isx (.var 0) [("NoBook", false), ("NoEntry", false), ("NoHouse", false), ("NoLine", false), ("NoOne", false), ("NoScript", false), ("NoSession", false), ("NoText", false), ("NoTitle", false), ("NoTyped", true), ("TooMany", false)], .isx (.var 0) [("NoBook", false), ("NoEntry", true), ("NoHouse", false), ("NoLine", false), ("NoOne", false), ("NoScript", false), ("NoSession", false), ("NoText", false), ("NoTitle", false), ("NoTyped", false), ("TooMany", false)]])),
  .asg (.name 1) (.bin .add (.var 1) (.lst [.isx (.var 0) [("NoBook", false), ("NoEntry", false), ("NoHouse", false), ("NoLine", false), ("NoOne", false), ("NoScript", true), ("NoSession", false), ("NoText", false), ("NoTitle", false), ("NoTyped", false), ("TooMany", false)], .isx (.var 0) [("NoBook", false), ("NoEntry", false), ("NoHouse", false), ("NoLine", false), ("NoOne", false), ("NoScript", false), ("NoSession", false), ("NoText", false), ("NoTitle", false), ("NoTyped", false), ("TooMany", true)], .isx (.var 0) [("NoBook", false), ("NoEntry", false), ("NoHouse", false), ("NoLine", true), ("NoOne", false), ("NoScript", false), ("NoSession", false), ("NoText", false), ("NoTitle", false), ("NoTyped", false), ("TooMany", false)]])),
  .ret (.bin .add (.var 1) (.lst [.isx (.var 0) [("NoBook", false), ("NoEntry", false), ("NoHouse", true), ("NoLine", false), ("NoOne", false), ("NoScript", false), ("NoSession", false), ("NoText", false), ("NoTitle", false), ("NoTyped", false), ("TooMany", false)]]))]
def b__law_refusals_right : List SA := [
  .par 1 2 (.call 25 [.var 0, .lst [.con (.non), .con (.str "a"), .tup [.con (.int 0), .con (.int 1)], .lst [.con (.int 0)], .con (.bl true), .tup [.con (.str "x"), .tup []]]]) (.call 24 [.var 0, .bin .pow (.con (.int 10)) (.con (.int 9))]),
  .asg (.name 3) (.lst [.xnew "NoTitle" "title" [.var 1], .xnew "NoOne" "name" [.var 1], .xnew "NoSession" "name" [.var 1], .xnew "NoText" "row" [.var 2], .xnew "NoBook" "" [], .xnew "NoTyped" "" [], .xnew "NoEntry" "" [], .xnew "NoScript" "" []]),
  .asg (.name 3) (.bin .add (.var 3) (.lst [.xnew "TooMany" "" [], .xnew "NoLine" "" [], .xnew "NoHouse" "" []])),
  .ifs (.cmp .ne (.blt .repr [.lst [.xfld (.ix (.var 3) (.con (.int 0))) "title" ["NoTitle"], .xfld (.ix (.var 3) (.con (.int 1))) "name" ["NoOne", "NoSession"], .xfld (.ix (.var 3) (.con (.int 2))) "name" ["NoOne", "NoSession"], .xfld (.ix (.var 3) (.con (.int 3))) "row" ["NoText"]]]) (.blt .repr [.lst [.var 1, .var 1, .var 1, .var 2]])) [.ret (.con (.bl false))] [],
  .for_ (.tup [.name 4, .name 5]) .enum [.var 3] [.ifs (.or (.cmp .ne (.call 26 [.var 5]) (.comp false (.name 6) .range [.con (.int 11)] [] (.cmp .eq (.var 6) (.var 4)))) (.not (.isx (.var 5) [("NoBook", true), ("NoEntry", true), ("NoHouse", true), ("NoLine", true), ("NoOne", true), ("NoScript", true), ("NoSession", true), ("NoText", true), ("NoTitle", true), ("NoTyped", true), ("TooMany", true)]))) [.ret (.con (.bl false))] [], .ifs (.not (.isx (.var 5) [("NoBook", true), ("NoEntry", true), ("NoHouse", true), ("NoLine", true), ("NoOne", true), ("NoScript", true), ("NoSession", true), ("NoText", true), ("NoTitle", true), ("NoTyped", true), ("TooMany", true)])) [.ret (.con (.bl false))] []],
  .ret (.con (.bl true))]
def b__law_is : List SA := [
  .asg (.name 2) (.call 22 [.var 0, .con (.int 1)]),
  .ret (.and (.blt .isinst [.var 2, .con (.ty "bool")]) (.cmp .eq (.var 2) (.var 1)))]
def b_law : List SA := [
  .asg (.name 1) (.call 23 [.var 0]),
  .asg (.name 2) (.lst [.con (.str "kill"), .con (.str "halt"), .con (.str "on"), .con (.str "hang"), .con (.str "quit"), .con (.str "call"), .con (.str "kin"), .con (.str "rest"), .con (.str "reads")]),
  .ifs (.or (.cmp .ne (.blt .repr [.con (.tup [.str "kill", .str "halt", .str "on", .str "hang", .str "quit", .str "call", .str "kin", .str "rest", .str "reads"])]) (.blt .repr [.blt .tuple [.var 2]])) (.not (.call 27 [.var 1]))) [.ret (.con (.bl false))] [],
  .for_ (.tup [.name 3, .name 4]) .enum [.var 2] [.asg (.name 5) (.call 25 [.var 1, .lst [.bin .add (.var 4) (.con (.str "s")), .sl (.var 4) [.con (.int 1)] [], .mth .upper (.var 4) [], .bin .add (.con (.str " ")) (.var 4), .bin .add (.var 4) (.con (.str " ")), .con (.str ""), .tup [.var 4], .var 3]]), .ifs (.or (.not (.call 28 [.tup [.con (.str "send"), .var 4, .con (.str "self")], .con (.bl true)])) (.not (.call 28 [.tup [.con (.str "send"), .var 5, .con (.str "self")], .cmp .inn (.var 5) (.var 2)]))) [.ret (.con (.bl false))] [], .for_ (.name 6) .seq [.tup [.con (.str "mask"), .con (.str "unmask")]] [.ifs (.not (.call 28 [.tup [.var 6, .tup [.var 4]], .cmp .gt (.var 3) (.con (.int 1))])) [.ret (.con (.bl false))] [], .for_ (.tup [.name 7, .name 8]) .enum [.var 2] [.ifs (.not (.call 28 [.tup [.var 6, .tup [.var 4, .var 8]], .chain .lt .lt (.con (.int 1)) (.var 3) (.var 7)])) [.ret (.con (.bl false))] []]], .for_ (.name 9) .seq [.tup [.con (.str "plain"), .con (.str "ignore"), .tup [.con (.int 0), .tup []], .tup [.con (.int 0), .tup [.var 4]]]] [.ifs (.not (.call 28 [.tup [.con (.str "handle"), .var 4, .var 9], .cmp .gt (.var 3) (.con (.int 1))])) [.ret (.con (.bl false))] []]],
  .ret (.con (.bl true))]
def d_rising_signals : DefT := ⟨"rising_signals", "rising_signals", defArgs (top 3), defBody (top 3), defScope (top 3), ["some", "signal"], ["some"], [], none, ⟨1, 2, b_rising_signals⟩⟩
def d_is_signal : DefT := ⟨"is_signal", "is_signal", defArgs (top 4), defBody (top 4), defScope (top 4), ["thing"], ["thing"], [], none, ⟨1, 1, b_is_signal⟩⟩
def d_may_be_masked : DefT := ⟨"may_be_masked", "may_be_masked", defArgs (top 5), defBody (top 5), defScope (top 5), ["thing"], ["thing"], [], none, ⟨1, 1, b_may_be_masked⟩⟩
def d_are_maskable : DefT := ⟨"are_maskable", "are_maskable", defArgs (top 6), defBody (top 6), defScope (top 6), ["thing", "one"], ["thing"], [], none, ⟨1, 2, b_are_maskable⟩⟩
def d_is_whole : DefT := ⟨"is_whole", "is_whole", defArgs (top 8), defBody (top 8), defScope (top 8), ["thing"], ["thing"], [], none, ⟨1, 1, b_is_whole⟩⟩
def d_is_count : DefT := ⟨"is_count", "is_count", defArgs (top 9), defBody (top 9), defScope (top 9), ["thing"], ["thing"], [], none, ⟨1, 1, b_is_count⟩⟩
def d_is_below : DefT := ⟨"is_below", "is_below", defArgs (top 10), defBody (top 10), defScope (top 10), ["thing", "many"], ["thing", "many"], [], none, ⟨2, 2, b_is_below⟩⟩
def d_is_said : DefT := ⟨"is_said", "is_said", defArgs (top 16), defBody (top 16), defScope (top 16), ["thing"], ["thing"], [], none, ⟨1, 1, b_is_said⟩⟩
def d_is_title : DefT := ⟨"is_title", "is_title", defArgs (top 17), defBody (top 17), defScope (top 17), ["thing", "sign"], ["thing"], [], none, ⟨1, 2, b_is_title⟩⟩
def d_is_who : DefT := ⟨"is_who", "is_who", defArgs (top 18), defBody (top 18), defScope (top 18), ["thing"], ["thing"], [], none, ⟨1, 1, b_is_who⟩⟩
def d_is_one_of : DefT := ⟨"is_one_of", "is_one_of", defArgs (top 19), defBody (top 19), defScope (top 19), ["thing", "words"], ["thing", "words"], [], some (1, ["words"]), ⟨2, 2, b_is_one_of⟩⟩
def d_is_how : DefT := ⟨"is_how", "is_how", defArgs (top 20), defBody (top 20), defScope (top 20), ["thing", "size"], ["thing", "size"], [], none, ⟨2, 2, b_is_how⟩⟩
def d_is_exec : DefT := ⟨"is_exec", "is_exec", defArgs (top 21), defBody (top 21), defScope (top 21), ["parts", "size"], ["parts", "size"], [], none, ⟨2, 2, b_is_exec⟩⟩
def d_is_said_row : DefT := ⟨"is_said_row", "is_said_row", defArgs (top 22), defBody (top 22), defScope (top 22), ["parts", "size"], ["parts", "size"], [], none, ⟨2, 2, b_is_said_row⟩⟩
def d_is_wait : DefT := ⟨"is_wait", "is_wait", defArgs (top 23), defBody (top 23), defScope (top 23), ["parts", "size"], ["parts", "size"], [], none, ⟨2, 2, b_is_wait⟩⟩
def d_is_send : DefT := ⟨"is_send", "is_send", defArgs (top 24), defBody (top 24), defScope (top 24), ["parts", "size"], ["parts", "size"], [], none, ⟨2, 2, b_is_send⟩⟩
def d_is_masking : DefT := ⟨"is_masking", "is_masking", defArgs (top 25), defBody (top 25), defScope (top 25), ["parts", "size"], ["parts", "size"], [], none, ⟨2, 2, b_is_masking⟩⟩
def d_is_handle : DefT := ⟨"is_handle", "is_handle", defArgs (top 26), defBody (top 26), defScope (top 26), ["parts", "size"], ["parts", "size"], [], none, ⟨2, 2, b_is_handle⟩⟩
def d_is_grouping : DefT := ⟨"is_grouping", "is_grouping", defArgs (top 27), defBody (top 27), defScope (top 27), ["parts", "size"], ["parts", "size"], [], none, ⟨2, 2, b_is_grouping⟩⟩
def d_is_front : DefT := ⟨"is_front", "is_front", defArgs (top 28), defBody (top 28), defScope (top 28), ["parts", "size"], ["parts", "size"], [], none, ⟨2, 2, b_is_front⟩⟩
def d_is_going : DefT := ⟨"is_going", "is_going", defArgs (top 29), defBody (top 29), defScope (top 29), ["parts", "size"], ["parts", "size"], [], none, ⟨2, 2, b_is_going⟩⟩
def d_is_asking : DefT := ⟨"is_asking", "is_asking", defArgs (top 30), defBody (top 30), defScope (top 30), ["parts", "size"], ["parts", "size"], [], none, ⟨2, 2, b_is_asking⟩⟩
def d_is_row : DefT := ⟨"is_row", "is_row", defArgs (top 33), defBody (top 33), defScope (top 33), ["thing", "size", "word", "parts", "many", "looked"], ["thing", "size"], [], none, ⟨2, 6, b_is_row⟩⟩
def d__law_hand : DefT := ⟨"_law_hand", "_law_hand", defArgs (top 48), defBody (top 48), defScope (top 48), ["_law_script", "_law_seed", "_law_cell"], ["_law_script"], [⟨112, 11, 112, 94⟩, ⟨112, 12, 112, 82⟩], none, ⟨1, 3, b__law_hand⟩⟩
def d__law_pick : DefT := ⟨"_law_pick", "_law_pick", defArgs (top 49), defBody (top 49), defScope (top 49), ["_law_hand_here", "_law_many", "_law_digit", "_law_mixed"], ["_law_hand_here", "_law_many"], [], none, ⟨2, 4, b__law_pick⟩⟩
def d__law_of : DefT := ⟨"_law_of", "_law_of", defArgs (top 50), defBody (top 50), defScope (top 50), ["_law_hand_here", "_law_some"], ["_law_hand_here", "_law_some"], [], none, ⟨2, 2, b__law_of⟩⟩
def d__law_marks : DefT := ⟨"_law_marks", "_law_marks", defArgs (top 51), defBody (top 51), defScope (top 51), ["_law_one", "_law_marks_here"], ["_law_one"], [], none, ⟨1, 2, b__law_marks⟩⟩
def d__law_refusals_right : DefT := ⟨"_law_refusals_right", "_law_refusals_right", defArgs (top 52), defBody (top 52), defScope (top 52), ["_law_hand_here", "_law_thing", "_law_row", "_law_made", "_law_at", "_law_one", "_law_k"], ["_law_hand_here"], [], none, ⟨1, 7, b__law_refusals_right⟩⟩
def d__law_is : DefT := ⟨"_law_is", "_law_is", defArgs (top 53), defBody (top 53), defScope (top 53), ["_law_row", "_law_want", "_law_found"], ["_law_row", "_law_want"], [], none, ⟨2, 3, b__law_is⟩⟩
def d_law : DefT := ⟨"law", "law", defArgs (top 54), defBody (top 54), defScope (top 54), ["_law_script", "_law_hand_here", "_law_every", "_law_at", "_law_signal", "_law_odd", "_law_word", "_law_place", "_law_other", "_law_how"], ["_law_script"], [], none, ⟨1, 10, b_law⟩⟩
theorem s_rising_signals : FnScope d_rising_signals.N d_rising_signals.ps d_rising_signals.scope := ⟨rfl, rfl, rfl, by decide +kernel, rfl, by decide +kernel, by decide +kernel⟩
theorem k_rising_signals : BindT d_rising_signals := fun _ _ _ _ _ _ us hl => match us, hl with | [_], _ => rfl
theorem c_rising_signals : cSs (infoOf glob d_rising_signals) 100 d_rising_signals.body = some b_rising_signals := by kernel_rfl
theorem o_rising_signals : DefOk glob d_rising_signals := ⟨s_rising_signals, k_rising_signals, 100, c_rising_signals⟩
theorem s_is_signal : FnScope d_is_signal.N d_is_signal.ps d_is_signal.scope := ⟨rfl, rfl, rfl, by decide +kernel, rfl, by decide +kernel, by decide +kernel⟩
theorem k_is_signal : BindT d_is_signal := fun _ _ _ _ _ _ us hl => match us, hl with | [_], _ => rfl
theorem c_is_signal : cSs (infoOf glob d_is_signal) 100 d_is_signal.body = some b_is_signal := by kernel_rfl
theorem o_is_signal : DefOk glob d_is_signal := ⟨s_is_signal, k_is_signal, 100, c_is_signal⟩
theorem s_may_be_masked : FnScope d_may_be_masked.N d_may_be_masked.ps d_may_be_masked.scope := ⟨rfl, rfl, rfl, by decide +kernel, rfl, by decide +kernel, by decide +kernel⟩
theorem k_may_be_masked : BindT d_may_be_masked := fun _ _ _ _ _ _ us hl => match us, hl with | [_], _ => rfl
theorem c_may_be_masked : cSs (infoOf glob d_may_be_masked) 100 d_may_be_masked.body = some b_may_be_masked := by kernel_rfl
theorem o_may_be_masked : DefOk glob d_may_be_masked := ⟨s_may_be_masked, k_may_be_masked, 100, c_may_be_masked⟩
theorem s_are_maskable : FnScope d_are_maskable.N d_are_maskable.ps d_are_maskable.scope := ⟨rfl, rfl, rfl, by decide +kernel, rfl, by decide +kernel, by decide +kernel⟩
theorem k_are_maskable : BindT d_are_maskable := fun _ _ _ _ _ _ us hl => match us, hl with | [_], _ => rfl
theorem c_are_maskable : cSs (infoOf glob d_are_maskable) 100 d_are_maskable.body = some b_are_maskable := by kernel_rfl
theorem o_are_maskable : DefOk glob d_are_maskable := ⟨s_are_maskable, k_are_maskable, 100, c_are_maskable⟩
theorem s_is_whole : FnScope d_is_whole.N d_is_whole.ps d_is_whole.scope := ⟨rfl, rfl, rfl, by decide +kernel, rfl, by decide +kernel, by decide +kernel⟩
theorem k_is_whole : BindT d_is_whole := fun _ _ _ _ _ _ us hl => match us, hl with | [_], _ => rfl
theorem c_is_whole : cSs (infoOf glob d_is_whole) 100 d_is_whole.body = some b_is_whole := by kernel_rfl
theorem o_is_whole : DefOk glob d_is_whole := ⟨s_is_whole, k_is_whole, 100, c_is_whole⟩
theorem s_is_count : FnScope d_is_count.N d_is_count.ps d_is_count.scope := ⟨rfl, rfl, rfl, by decide +kernel, rfl, by decide +kernel, by decide +kernel⟩
theorem k_is_count : BindT d_is_count := fun _ _ _ _ _ _ us hl => match us, hl with | [_], _ => rfl
theorem c_is_count : cSs (infoOf glob d_is_count) 100 d_is_count.body = some b_is_count := by kernel_rfl
theorem o_is_count : DefOk glob d_is_count := ⟨s_is_count, k_is_count, 100, c_is_count⟩
theorem s_is_below : FnScope d_is_below.N d_is_below.ps d_is_below.scope := ⟨rfl, rfl, rfl, by decide +kernel, rfl, by decide +kernel, by decide +kernel⟩
theorem k_is_below : BindT d_is_below := fun _ _ _ _ _ _ us hl => match us, hl with | [_, _], _ => rfl
theorem c_is_below : cSs (infoOf glob d_is_below) 100 d_is_below.body = some b_is_below := by kernel_rfl
theorem o_is_below : DefOk glob d_is_below := ⟨s_is_below, k_is_below, 100, c_is_below⟩
theorem s_is_said : FnScope d_is_said.N d_is_said.ps d_is_said.scope := ⟨rfl, rfl, rfl, by decide +kernel, rfl, by decide +kernel, by decide +kernel⟩
theorem k_is_said : BindT d_is_said := fun _ _ _ _ _ _ us hl => match us, hl with | [_], _ => rfl
theorem c_is_said : cSs (infoOf glob d_is_said) 100 d_is_said.body = some b_is_said := by kernel_rfl
theorem o_is_said : DefOk glob d_is_said := ⟨s_is_said, k_is_said, 100, c_is_said⟩
theorem s_is_title : FnScope d_is_title.N d_is_title.ps d_is_title.scope := ⟨rfl, rfl, rfl, by decide +kernel, rfl, by decide +kernel, by decide +kernel⟩
theorem k_is_title : BindT d_is_title := fun _ _ _ _ _ _ us hl => match us, hl with | [_], _ => rfl
theorem c_is_title : cSs (infoOf glob d_is_title) 100 d_is_title.body = some b_is_title := by kernel_rfl
theorem o_is_title : DefOk glob d_is_title := ⟨s_is_title, k_is_title, 100, c_is_title⟩
theorem s_is_who : FnScope d_is_who.N d_is_who.ps d_is_who.scope := ⟨rfl, rfl, rfl, by decide +kernel, rfl, by decide +kernel, by decide +kernel⟩
theorem k_is_who : BindT d_is_who := fun _ _ _ _ _ _ us hl => match us, hl with | [_], _ => rfl
theorem c_is_who : cSs (infoOf glob d_is_who) 100 d_is_who.body = some b_is_who := by kernel_rfl
theorem o_is_who : DefOk glob d_is_who := ⟨s_is_who, k_is_who, 100, c_is_who⟩
theorem s_is_one_of : FnScope d_is_one_of.N d_is_one_of.ps d_is_one_of.scope := ⟨rfl, rfl, rfl, by decide +kernel, rfl, by decide +kernel, by decide +kernel⟩
theorem k_is_one_of : BindT d_is_one_of := fun _ _ _ _ _ _ us ws hl hl2 => match us, ws, hl, hl2 with | [_], [_], _, _ => rfl
theorem c_is_one_of : cSs (infoOf glob d_is_one_of) 100 d_is_one_of.body = some b_is_one_of := by kernel_rfl
theorem o_is_one_of : DefOk glob d_is_one_of := ⟨s_is_one_of, k_is_one_of, 100, c_is_one_of⟩
theorem s_is_how : FnScope d_is_how.N d_is_how.ps d_is_how.scope := ⟨rfl, rfl, rfl, by decide +kernel, rfl, by decide +kernel, by decide +kernel⟩
theorem k_is_how : BindT d_is_how := fun _ _ _ _ _ _ us hl => match us, hl with | [_, _], _ => rfl
theorem c_is_how : cSs (infoOf glob d_is_how) 100 d_is_how.body = some b_is_how := by kernel_rfl
theorem o_is_how : DefOk glob d_is_how := ⟨s_is_how, k_is_how, 100, c_is_how⟩
theorem s_is_exec : FnScope d_is_exec.N d_is_exec.ps d_is_exec.scope := ⟨rfl, rfl, rfl, by decide +kernel, rfl, by decide +kernel, by decide +kernel⟩
theorem k_is_exec : BindT d_is_exec := fun _ _ _ _ _ _ us hl => match us, hl with | [_, _], _ => rfl
theorem c_is_exec : cSs (infoOf glob d_is_exec) 100 d_is_exec.body = some b_is_exec := by kernel_rfl
theorem o_is_exec : DefOk glob d_is_exec := ⟨s_is_exec, k_is_exec, 100, c_is_exec⟩
theorem s_is_said_row : FnScope d_is_said_row.N d_is_said_row.ps d_is_said_row.scope := ⟨rfl, rfl, rfl, by decide +kernel, rfl, by decide +kernel, by decide +kernel⟩
theorem k_is_said_row : BindT d_is_said_row := fun _ _ _ _ _ _ us hl => match us, hl with | [_, _], _ => rfl
theorem c_is_said_row : cSs (infoOf glob d_is_said_row) 100 d_is_said_row.body = some b_is_said_row := by kernel_rfl
theorem o_is_said_row : DefOk glob d_is_said_row := ⟨s_is_said_row, k_is_said_row, 100, c_is_said_row⟩
theorem s_is_wait : FnScope d_is_wait.N d_is_wait.ps d_is_wait.scope := ⟨rfl, rfl, rfl, by decide +kernel, rfl, by decide +kernel, by decide +kernel⟩
theorem k_is_wait : BindT d_is_wait := fun _ _ _ _ _ _ us hl => match us, hl with | [_, _], _ => rfl
theorem c_is_wait : cSs (infoOf glob d_is_wait) 100 d_is_wait.body = some b_is_wait := by kernel_rfl
theorem o_is_wait : DefOk glob d_is_wait := ⟨s_is_wait, k_is_wait, 100, c_is_wait⟩
theorem s_is_send : FnScope d_is_send.N d_is_send.ps d_is_send.scope := ⟨rfl, rfl, rfl, by decide +kernel, rfl, by decide +kernel, by decide +kernel⟩
theorem k_is_send : BindT d_is_send := fun _ _ _ _ _ _ us hl => match us, hl with | [_, _], _ => rfl
theorem c_is_send : cSs (infoOf glob d_is_send) 100 d_is_send.body = some b_is_send := by kernel_rfl
theorem o_is_send : DefOk glob d_is_send := ⟨s_is_send, k_is_send, 100, c_is_send⟩
theorem s_is_masking : FnScope d_is_masking.N d_is_masking.ps d_is_masking.scope := ⟨rfl, rfl, rfl, by decide +kernel, rfl, by decide +kernel, by decide +kernel⟩
theorem k_is_masking : BindT d_is_masking := fun _ _ _ _ _ _ us hl => match us, hl with | [_, _], _ => rfl
theorem c_is_masking : cSs (infoOf glob d_is_masking) 100 d_is_masking.body = some b_is_masking := by kernel_rfl
theorem o_is_masking : DefOk glob d_is_masking := ⟨s_is_masking, k_is_masking, 100, c_is_masking⟩
theorem s_is_handle : FnScope d_is_handle.N d_is_handle.ps d_is_handle.scope := ⟨rfl, rfl, rfl, by decide +kernel, rfl, by decide +kernel, by decide +kernel⟩
theorem k_is_handle : BindT d_is_handle := fun _ _ _ _ _ _ us hl => match us, hl with | [_, _], _ => rfl
theorem c_is_handle : cSs (infoOf glob d_is_handle) 100 d_is_handle.body = some b_is_handle := by kernel_rfl
theorem o_is_handle : DefOk glob d_is_handle := ⟨s_is_handle, k_is_handle, 100, c_is_handle⟩
theorem s_is_grouping : FnScope d_is_grouping.N d_is_grouping.ps d_is_grouping.scope := ⟨rfl, rfl, rfl, by decide +kernel, rfl, by decide +kernel, by decide +kernel⟩
theorem k_is_grouping : BindT d_is_grouping := fun _ _ _ _ _ _ us hl => match us, hl with | [_, _], _ => rfl
theorem c_is_grouping : cSs (infoOf glob d_is_grouping) 100 d_is_grouping.body = some b_is_grouping := by kernel_rfl
theorem o_is_grouping : DefOk glob d_is_grouping := ⟨s_is_grouping, k_is_grouping, 100, c_is_grouping⟩
theorem s_is_front : FnScope d_is_front.N d_is_front.ps d_is_front.scope := ⟨rfl, rfl, rfl, by decide +kernel, rfl, by decide +kernel, by decide +kernel⟩
theorem k_is_front : BindT d_is_front := fun _ _ _ _ _ _ us hl => match us, hl with | [_, _], _ => rfl
theorem c_is_front : cSs (infoOf glob d_is_front) 100 d_is_front.body = some b_is_front := by kernel_rfl
theorem o_is_front : DefOk glob d_is_front := ⟨s_is_front, k_is_front, 100, c_is_front⟩
theorem s_is_going : FnScope d_is_going.N d_is_going.ps d_is_going.scope := ⟨rfl, rfl, rfl, by decide +kernel, rfl, by decide +kernel, by decide +kernel⟩
theorem k_is_going : BindT d_is_going := fun _ _ _ _ _ _ us hl => match us, hl with | [_, _], _ => rfl
theorem c_is_going : cSs (infoOf glob d_is_going) 100 d_is_going.body = some b_is_going := by kernel_rfl
theorem o_is_going : DefOk glob d_is_going := ⟨s_is_going, k_is_going, 100, c_is_going⟩
theorem s_is_asking : FnScope d_is_asking.N d_is_asking.ps d_is_asking.scope := ⟨rfl, rfl, rfl, by decide +kernel, rfl, by decide +kernel, by decide +kernel⟩
theorem k_is_asking : BindT d_is_asking := fun _ _ _ _ _ _ us hl => match us, hl with | [_, _], _ => rfl
theorem c_is_asking : cSs (infoOf glob d_is_asking) 100 d_is_asking.body = some b_is_asking := by kernel_rfl
theorem o_is_asking : DefOk glob d_is_asking := ⟨s_is_asking, k_is_asking, 100, c_is_asking⟩
theorem s_is_row : FnScope d_is_row.N d_is_row.ps d_is_row.scope := ⟨rfl, rfl, rfl, by decide +kernel, rfl, by decide +kernel, by decide +kernel⟩
theorem k_is_row : BindT d_is_row := fun _ _ _ _ _ _ us hl => match us, hl with | [_, _], _ => rfl
theorem c_is_row : cSs (infoOf glob d_is_row) 100 d_is_row.body = some b_is_row := by kernel_rfl
theorem o_is_row : DefOk glob d_is_row := ⟨s_is_row, k_is_row, 100, c_is_row⟩
theorem s__law_hand : FnScope d__law_hand.N d__law_hand.ps d__law_hand.scope := ⟨rfl, rfl, rfl, by decide +kernel, rfl, by decide +kernel, by decide +kernel⟩
theorem k__law_hand : BindT d__law_hand := fun _ _ _ _ _ _ us hl => match us, hl with | [_], _ => rfl
theorem c__law_hand : cSs (infoOf glob d__law_hand) 100 d__law_hand.body = some b__law_hand := by kernel_rfl
theorem o__law_hand : DefOk glob d__law_hand := ⟨s__law_hand, k__law_hand, 100, c__law_hand⟩
theorem s__law_pick : FnScope d__law_pick.N d__law_pick.ps d__law_pick.scope := ⟨rfl, rfl, rfl, by decide +kernel, rfl, by decide +kernel, by decide +kernel⟩
theorem k__law_pick : BindT d__law_pick := fun _ _ _ _ _ _ us hl => match us, hl with | [_, _], _ => rfl
theorem c__law_pick : cSs (infoOf glob d__law_pick) 100 d__law_pick.body = some b__law_pick := by kernel_rfl
theorem o__law_pick : DefOk glob d__law_pick := ⟨s__law_pick, k__law_pick, 100, c__law_pick⟩
theorem s__law_of : FnScope d__law_of.N d__law_of.ps d__law_of.scope := ⟨rfl, rfl, rfl, by decide +kernel, rfl, by decide +kernel, by decide +kernel⟩
theorem k__law_of : BindT d__law_of := fun _ _ _ _ _ _ us hl => match us, hl with | [_, _], _ => rfl
theorem c__law_of : cSs (infoOf glob d__law_of) 100 d__law_of.body = some b__law_of := by kernel_rfl
theorem o__law_of : DefOk glob d__law_of := ⟨s__law_of, k__law_of, 100, c__law_of⟩
theorem s__law_marks : FnScope d__law_marks.N d__law_marks.ps d__law_marks.scope := ⟨rfl, rfl, rfl, by decide +kernel, rfl, by decide +kernel, by decide +kernel⟩
theorem k__law_marks : BindT d__law_marks := fun _ _ _ _ _ _ us hl => match us, hl with | [_], _ => rfl
theorem c__law_marks : cSs (infoOf glob d__law_marks) 100 d__law_marks.body = some b__law_marks := by kernel_rfl
theorem o__law_marks : DefOk glob d__law_marks := ⟨s__law_marks, k__law_marks, 100, c__law_marks⟩
theorem s__law_refusals_right : FnScope d__law_refusals_right.N d__law_refusals_right.ps d__law_refusals_right.scope := ⟨rfl, rfl, rfl, by decide +kernel, rfl, by decide +kernel, by decide +kernel⟩
theorem k__law_refusals_right : BindT d__law_refusals_right := fun _ _ _ _ _ _ us hl => match us, hl with | [_], _ => rfl
theorem c__law_refusals_right : cSs (infoOf glob d__law_refusals_right) 100 d__law_refusals_right.body = some b__law_refusals_right := by kernel_rfl
theorem o__law_refusals_right : DefOk glob d__law_refusals_right := ⟨s__law_refusals_right, k__law_refusals_right, 100, c__law_refusals_right⟩
theorem s__law_is : FnScope d__law_is.N d__law_is.ps d__law_is.scope := ⟨rfl, rfl, rfl, by decide +kernel, rfl, by decide +kernel, by decide +kernel⟩
theorem k__law_is : BindT d__law_is := fun _ _ _ _ _ _ us hl => match us, hl with | [_, _], _ => rfl
theorem c__law_is : cSs (infoOf glob d__law_is) 100 d__law_is.body = some b__law_is := by kernel_rfl
theorem o__law_is : DefOk glob d__law_is := ⟨s__law_is, k__law_is, 100, c__law_is⟩
theorem s_law : FnScope d_law.N d_law.ps d_law.scope := ⟨rfl, rfl, rfl, by decide +kernel, rfl, by decide +kernel, by decide +kernel⟩
theorem k_law : BindT d_law := fun _ _ _ _ _ _ us hl => match us, hl with | [_], _ => rfl
theorem c_law : cSs (infoOf glob d_law) 100 d_law.body = some b_law := by kernel_rfl
theorem o_law : DefOk glob d_law := ⟨s_law, k_law, 100, c_law⟩
def ds : List DefT := [d_rising_signals, d_is_signal, d_may_be_masked, d_are_maskable, d_is_whole, d_is_count, d_is_below, d_is_said, d_is_title, d_is_who, d_is_one_of, d_is_how, d_is_exec, d_is_said_row, d_is_wait, d_is_send, d_is_masking, d_is_handle, d_is_grouping, d_is_front, d_is_going, d_is_asking, d_is_row, d__law_hand, d__law_pick, d__law_of, d__law_marks, d__law_refusals_right, d__law_is, d_law]
theorem ini_ok : ∀ d ∈ glob.ini, IniOk d := fun d h => by
  simp only [glob, List.mem_cons, List.not_mem_nil, or_false] at h
  rcases h with rfl | rfl | rfl | rfl
  · exact iniOk_NoOne
  · exact iniOk_NoSession
  · exact iniOk_NoText
  · exact iniOk_NoTitle
theorem tab_ok : tabOk glob ds = true := by decide +kernel
theorem def_ok : ∀ (i : Nat) (d : DefT), ds[i]? = some d → DefOk glob d
  | 0, _, h => by cases h; exact o_rising_signals
  | 1, _, h => by cases h; exact o_is_signal
  | 2, _, h => by cases h; exact o_may_be_masked
  | 3, _, h => by cases h; exact o_are_maskable
  | 4, _, h => by cases h; exact o_is_whole
  | 5, _, h => by cases h; exact o_is_count
  | 6, _, h => by cases h; exact o_is_below
  | 7, _, h => by cases h; exact o_is_said
  | 8, _, h => by cases h; exact o_is_title
  | 9, _, h => by cases h; exact o_is_who
  | 10, _, h => by cases h; exact o_is_one_of
  | 11, _, h => by cases h; exact o_is_how
  | 12, _, h => by cases h; exact o_is_exec
  | 13, _, h => by cases h; exact o_is_said_row
  | 14, _, h => by cases h; exact o_is_wait
  | 15, _, h => by cases h; exact o_is_send
  | 16, _, h => by cases h; exact o_is_masking
  | 17, _, h => by cases h; exact o_is_handle
  | 18, _, h => by cases h; exact o_is_grouping
  | 19, _, h => by cases h; exact o_is_front
  | 20, _, h => by cases h; exact o_is_going
  | 21, _, h => by cases h; exact o_is_asking
  | 22, _, h => by cases h; exact o_is_row
  | 23, _, h => by cases h; exact o__law_hand
  | 24, _, h => by cases h; exact o__law_pick
  | 25, _, h => by cases h; exact o__law_of
  | 26, _, h => by cases h; exact o__law_marks
  | 27, _, h => by cases h; exact o__law_refusals_right
  | 28, _, h => by cases h; exact o__law_is
  | 29, _, h => by cases h; exact o_law
  | n + 30, _, h => by cases h
end MP

set_option maxHeartbeats 0
namespace MP
open PySem L2

theorem ev_call {F : Fn} {env : Env} {S : Store} {f : Nat} {es : List E} : ev F (.call f es) env S = (evs F es env S).bind fun ds S1 => F f ds S1 := by simp only [ev]
theorem ev_blt {F : Fn} {env : Env} {S : Store} {b : Blt} {es : List E} : ev F (.blt b es) env S = (evs F es env S).bind fun ds S1 => opt (bltD b (ds.map (deref S1))) S1 := by simp only [ev]
theorem ev_not {F : Fn} {env : Env} {S : Store} {a : E} : ev F (.not a) env S = (ev F a env S).bind fun x S1 => match x with
    | .bl b => .ok (.bl (!b)) S1
    | _ => .bad := by rw [ev] <;> rfl
theorem ev_or {F : Fn} {env : Env} {S : Store} {a b : E} : ev F (.or a b) env S = (ev F a env S).bind fun x S1 => match x with
    | .bl false => ev F b env S1
    | .bl true => .ok (.bl true) S1
    | _ => .bad := by rw [ev] <;> rfl
theorem exs_append {F : Fn} : ∀ (a b : List SA) (env : Env) (S : Store), exs F (a ++ b) env S = (exs F a env S).then fun env' S' => exs F b env' S'
  | [], b, env, S => by simp only [List.nil_append, exs, Out.then]
  | x :: a, b, env, S => by
    simp only [List.cons_append, exs]
    cases ex F x env S <;> simp only [Out.then]
    exact exs_append a b _ _
/-! signals and refusals (k06) -/
abbrev T : List FD := ds.map (·.fd)
theorem T_pick : T[24]? = some ⟨2, 4, bPick⟩ := by rfl
theorem T_of : T[25]? = some ⟨2, 2, bOf 24⟩ := by rfl
theorem T_hand : T[23]? = some ⟨1, 3, bHand⟩ := by rfl
abbrev every9 : List D := [.str "kill", .str "halt", .str "on", .str "hang", .str "quit", .str "call", .str "kin", .str "rest", .str "reads"]
def bodyL : List SA := match (b_law.drop 3).headD .pass with
  | SA.for_ _ _ _ b => b
  | _ => []
def tailL : List SA := bodyL.drop 1
def oddE : List E := match bodyL with
  | SA.asg _ (E.call _ [_, E.lst es]) :: _ => es
  | _ => []
theorem bodyL_eq : bodyL = .asg (.name 5) (.call 25 [.var 1, .lst oddE]) :: tailL := by rfl
/-- the names behind a turn -/
abbrev envL (sc : D) (a3 a4 a5 a6 a7 a8 a9 : Option D) : Env := [some sc, some (.ref 1), some (.lst every9), a3, a4, a5, a6, a7, a8, a9]
def odd0 : List D := [.str "kills", .str "ill", .str "KILL", .str " kill", .str "kill ", .str "", .tup [.str "kill"], .int 0]
theorem odds0 (sc : D) (z5 z6 z7 z8 z9 : Option D) (S : Store) : evs (callAt T 39) [.var 1, .lst oddE] (envL sc (some (.int 0)) (some (.str "kill")) z5 z6 z7 z8 z9) S = .ok [.ref 1, .lst odd0] S := by kernel_rfl
theorem tail0_0 (sc : D) (z6 z7 z8 z9 : Option D) (S : Store) : exs (callAt T 39) tailL (envL sc (some (.int 0)) (some (.str "kill")) (some (.str "kills")) z6 z7 z8 z9) S = .nx (envL sc (some (.int 0)) (some (.str "kill")) (some (.str "kills")) (some (.str "unmask")) (some (.int 8)) (some (.str "reads")) (some (.tup [.int 0, .tup [.str "kill"]]))) S := by kernel_rfl
theorem tail0_1 (sc : D) (z6 z7 z8 z9 : Option D) (S : Store) : exs (callAt T 39) tailL (envL sc (some (.int 0)) (some (.str "kill")) (some (.str "ill")) z6 z7 z8 z9) S = .nx (envL sc (some (.int 0)) (some (.str "kill")) (some (.str "ill")) (some (.str "unmask")) (some (.int 8)) (some (.str "reads")) (some (.tup [.int 0, .tup [.str "kill"]]))) S := by kernel_rfl
theorem tail0_2 (sc : D) (z6 z7 z8 z9 : Option D) (S : Store) : exs (callAt T 39) tailL (envL sc (some (.int 0)) (some (.str "kill")) (some (.str "KILL")) z6 z7 z8 z9) S = .nx (envL sc (some (.int 0)) (some (.str "kill")) (some (.str "KILL")) (some (.str "unmask")) (some (.int 8)) (some (.str "reads")) (some (.tup [.int 0, .tup [.str "kill"]]))) S := by kernel_rfl
theorem tail0_3 (sc : D) (z6 z7 z8 z9 : Option D) (S : Store) : exs (callAt T 39) tailL (envL sc (some (.int 0)) (some (.str "kill")) (some (.str " kill")) z6 z7 z8 z9) S = .nx (envL sc (some (.int 0)) (some (.str "kill")) (some (.str " kill")) (some (.str "unmask")) (some (.int 8)) (some (.str "reads")) (some (.tup [.int 0, .tup [.str "kill"]]))) S := by kernel_rfl
theorem tail0_4 (sc : D) (z6 z7 z8 z9 : Option D) (S : Store) : exs (callAt T 39) tailL (envL sc (some (.int 0)) (some (.str "kill")) (some (.str "kill ")) z6 z7 z8 z9) S = .nx (envL sc (some (.int 0)) (some (.str "kill")) (some (.str "kill ")) (some (.str "unmask")) (some (.int 8)) (some (.str "reads")) (some (.tup [.int 0, .tup [.str "kill"]]))) S := by kernel_rfl
theorem tail0_5 (sc : D) (z6 z7 z8 z9 : Option D) (S : Store) : exs (callAt T 39) tailL (envL sc (some (.int 0)) (some (.str "kill")) (some (.str "")) z6 z7 z8 z9) S = .nx (envL sc (some (.int 0)) (some (.str "kill")) (some (.str "")) (some (.str "unmask")) (some (.int 8)) (some (.str "reads")) (some (.tup [.int 0, .tup [.str "kill"]]))) S := by kernel_rfl
theorem tail0_6 (sc : D) (z6 z7 z8 z9 : Option D) (S : Store) : exs (callAt T 39) tailL (envL sc (some (.int 0)) (some (.str "kill")) (some (.tup [.str "kill"])) z6 z7 z8 z9) S = .nx (envL sc (some (.int 0)) (some (.str "kill")) (some (.tup [.str "kill"])) (some (.str "unmask")) (some (.int 8)) (some (.str "reads")) (some (.tup [.int 0, .tup [.str "kill"]]))) S := by kernel_rfl
theorem tail0_7 (sc : D) (z6 z7 z8 z9 : Option D) (S : Store) : exs (callAt T 39) tailL (envL sc (some (.int 0)) (some (.str "kill")) (some (.int 0)) z6 z7 z8 z9) S = .nx (envL sc (some (.int 0)) (some (.str "kill")) (some (.int 0)) (some (.str "unmask")) (some (.int 8)) (some (.str "reads")) (some (.tup [.int 0, .tup [.str "kill"]]))) S := by kernel_rfl
theorem turn0 (sc : D) (z3 z4 z5 z6 z7 z8 z9 : Option D) (S : Store) (H : HandOk S 1 0) : ∃ y3 y4 y5 y6 y7 y8 y9 S', turnF (callAt T 39) (.tup [.name 3, .name 4]) bodyL (.tup [.int 0, .str "kill"]) (envL sc z3 z4 z5 z6 z7 z8 z9) S = .nx (envL sc y3 y4 y5 y6 y7 y8 y9) S' ∧ HandOk S' 1 0 := by
  obtain ⟨x, S', e, hx, H', _⟩ := of_lst (n := 37) T_pick T_of H (xs := odd0) (by decide) (by decide)
  have t : turnF (callAt T 39) (.tup [.name 3, .name 4]) bodyL (.tup [.int 0, .str "kill"]) (envL sc z3 z4 z5 z6 z7 z8 z9) S = exs (callAt T 39) tailL (envL sc (some (.int 0)) (some (.str "kill")) (some x) z6 z7 z8 z9) S' := by
    have b : bindP (.tup [.name 3, .name 4]) (.tup [.int 0, .str "kill"]) (envL sc z3 z4 z5 z6 z7 z8 z9) = some (envL sc (some (.int 0)) (some (.str "kill")) z5 z6 z7 z8 z9) := by rfl
    have a : ex (callAt T 39) (.asg (.name 5) (.call 25 [.var 1, .lst oddE])) (envL sc (some (.int 0)) (some (.str "kill")) z5 z6 z7 z8 z9) S = .nx (envL sc (some (.int 0)) (some (.str "kill")) (some x) z6 z7 z8 z9) S' := by
      simp only [ex, ev_call, odds0, Res.bind_ok, e, Out.of]
      rfl
    unfold turnF
    rw [b, bodyL_eq]
    simp only [exs, a, Out.then]
  rw [t]
  simp only [odd0, List.mem_cons, List.not_mem_nil, or_false] at hx
  rcases hx with rfl | rfl | rfl | rfl | rfl | rfl | rfl | rfl
  · exact ⟨_, _, _, _, _, _, _, S', tail0_0 sc z6 z7 z8 z9 S', H'⟩
  · exact ⟨_, _, _, _, _, _, _, S', tail0_1 sc z6 z7 z8 z9 S', H'⟩
  · exact ⟨_, _, _, _, _, _, _, S', tail0_2 sc z6 z7 z8 z9 S', H'⟩
  · exact ⟨_, _, _, _, _, _, _, S', tail0_3 sc z6 z7 z8 z9 S', H'⟩
  · exact ⟨_, _, _, _, _, _, _, S', tail0_4 sc z6 z7 z8 z9 S', H'⟩
  · exact ⟨_, _, _, _, _, _, _, S', tail0_5 sc z6 z7 z8 z9 S', H'⟩
  · exact ⟨_, _, _, _, _, _, _, S', tail0_6 sc z6 z7 z8 z9 S', H'⟩
  · exact ⟨_, _, _, _, _, _, _, S', tail0_7 sc z6 z7 z8 z9 S', H'⟩
def odd1 : List D := [.str "halts", .str "alt", .str "HALT", .str " halt", .str "halt ", .str "", .tup [.str "halt"], .int 1]
theorem odds1 (sc : D) (z5 z6 z7 z8 z9 : Option D) (S : Store) : evs (callAt T 39) [.var 1, .lst oddE] (envL sc (some (.int 1)) (some (.str "halt")) z5 z6 z7 z8 z9) S = .ok [.ref 1, .lst odd1] S := by kernel_rfl
theorem tail1_0 (sc : D) (z6 z7 z8 z9 : Option D) (S : Store) : exs (callAt T 39) tailL (envL sc (some (.int 1)) (some (.str "halt")) (some (.str "halts")) z6 z7 z8 z9) S = .nx (envL sc (some (.int 1)) (some (.str "halt")) (some (.str "halts")) (some (.str "unmask")) (some (.int 8)) (some (.str "reads")) (some (.tup [.int 0, .tup [.str "halt"]]))) S := by kernel_rfl
theorem tail1_1 (sc : D) (z6 z7 z8 z9 : Option D) (S : Store) : exs (callAt T 39) tailL (envL sc (some (.int 1)) (some (.str "halt")) (some (.str "alt")) z6 z7 z8 z9) S = .nx (envL sc (some (.int 1)) (some (.str "halt")) (some (.str "alt")) (some (.str "unmask")) (some (.int 8)) (some (.str "reads")) (some (.tup [.int 0, .tup [.str "halt"]]))) S := by kernel_rfl
theorem tail1_2 (sc : D) (z6 z7 z8 z9 : Option D) (S : Store) : exs (callAt T 39) tailL (envL sc (some (.int 1)) (some (.str "halt")) (some (.str "HALT")) z6 z7 z8 z9) S = .nx (envL sc (some (.int 1)) (some (.str "halt")) (some (.str "HALT")) (some (.str "unmask")) (some (.int 8)) (some (.str "reads")) (some (.tup [.int 0, .tup [.str "halt"]]))) S := by kernel_rfl
theorem tail1_3 (sc : D) (z6 z7 z8 z9 : Option D) (S : Store) : exs (callAt T 39) tailL (envL sc (some (.int 1)) (some (.str "halt")) (some (.str " halt")) z6 z7 z8 z9) S = .nx (envL sc (some (.int 1)) (some (.str "halt")) (some (.str " halt")) (some (.str "unmask")) (some (.int 8)) (some (.str "reads")) (some (.tup [.int 0, .tup [.str "halt"]]))) S := by kernel_rfl
theorem tail1_4 (sc : D) (z6 z7 z8 z9 : Option D) (S : Store) : exs (callAt T 39) tailL (envL sc (some (.int 1)) (some (.str "halt")) (some (.str "halt ")) z6 z7 z8 z9) S = .nx (envL sc (some (.int 1)) (some (.str "halt")) (some (.str "halt ")) (some (.str "unmask")) (some (.int 8)) (some (.str "reads")) (some (.tup [.int 0, .tup [.str "halt"]]))) S := by kernel_rfl
theorem tail1_5 (sc : D) (z6 z7 z8 z9 : Option D) (S : Store) : exs (callAt T 39) tailL (envL sc (some (.int 1)) (some (.str "halt")) (some (.str "")) z6 z7 z8 z9) S = .nx (envL sc (some (.int 1)) (some (.str "halt")) (some (.str "")) (some (.str "unmask")) (some (.int 8)) (some (.str "reads")) (some (.tup [.int 0, .tup [.str "halt"]]))) S := by kernel_rfl
theorem tail1_6 (sc : D) (z6 z7 z8 z9 : Option D) (S : Store) : exs (callAt T 39) tailL (envL sc (some (.int 1)) (some (.str "halt")) (some (.tup [.str "halt"])) z6 z7 z8 z9) S = .nx (envL sc (some (.int 1)) (some (.str "halt")) (some (.tup [.str "halt"])) (some (.str "unmask")) (some (.int 8)) (some (.str "reads")) (some (.tup [.int 0, .tup [.str "halt"]]))) S := by kernel_rfl
theorem tail1_7 (sc : D) (z6 z7 z8 z9 : Option D) (S : Store) : exs (callAt T 39) tailL (envL sc (some (.int 1)) (some (.str "halt")) (some (.int 1)) z6 z7 z8 z9) S = .nx (envL sc (some (.int 1)) (some (.str "halt")) (some (.int 1)) (some (.str "unmask")) (some (.int 8)) (some (.str "reads")) (some (.tup [.int 0, .tup [.str "halt"]]))) S := by kernel_rfl
theorem turn1 (sc : D) (z3 z4 z5 z6 z7 z8 z9 : Option D) (S : Store) (H : HandOk S 1 0) : ∃ y3 y4 y5 y6 y7 y8 y9 S', turnF (callAt T 39) (.tup [.name 3, .name 4]) bodyL (.tup [.int 1, .str "halt"]) (envL sc z3 z4 z5 z6 z7 z8 z9) S = .nx (envL sc y3 y4 y5 y6 y7 y8 y9) S' ∧ HandOk S' 1 0 := by
  obtain ⟨x, S', e, hx, H', _⟩ := of_lst (n := 37) T_pick T_of H (xs := odd1) (by decide) (by decide)
  have t : turnF (callAt T 39) (.tup [.name 3, .name 4]) bodyL (.tup [.int 1, .str "halt"]) (envL sc z3 z4 z5 z6 z7 z8 z9) S = exs (callAt T 39) tailL (envL sc (some (.int 1)) (some (.str "halt")) (some x) z6 z7 z8 z9) S' := by
    have b : bindP (.tup [.name 3, .name 4]) (.tup [.int 1, .str "halt"]) (envL sc z3 z4 z5 z6 z7 z8 z9) = some (envL sc (some (.int 1)) (some (.str "halt")) z5 z6 z7 z8 z9) := by rfl
    have a : ex (callAt T 39) (.asg (.name 5) (.call 25 [.var 1, .lst oddE])) (envL sc (some (.int 1)) (some (.str "halt")) z5 z6 z7 z8 z9) S = .nx (envL sc (some (.int 1)) (some (.str "halt")) (some x) z6 z7 z8 z9) S' := by
      simp only [ex, ev_call, odds1, Res.bind_ok, e, Out.of]
      rfl
    unfold turnF
    rw [b, bodyL_eq]
    simp only [exs, a, Out.then]
  rw [t]
  simp only [odd1, List.mem_cons, List.not_mem_nil, or_false] at hx
  rcases hx with rfl | rfl | rfl | rfl | rfl | rfl | rfl | rfl
  · exact ⟨_, _, _, _, _, _, _, S', tail1_0 sc z6 z7 z8 z9 S', H'⟩
  · exact ⟨_, _, _, _, _, _, _, S', tail1_1 sc z6 z7 z8 z9 S', H'⟩
  · exact ⟨_, _, _, _, _, _, _, S', tail1_2 sc z6 z7 z8 z9 S', H'⟩
  · exact ⟨_, _, _, _, _, _, _, S', tail1_3 sc z6 z7 z8 z9 S', H'⟩
  · exact ⟨_, _, _, _, _, _, _, S', tail1_4 sc z6 z7 z8 z9 S', H'⟩
  · exact ⟨_, _, _, _, _, _, _, S', tail1_5 sc z6 z7 z8 z9 S', H'⟩
  · exact ⟨_, _, _, _, _, _, _, S', tail1_6 sc z6 z7 z8 z9 S', H'⟩
  · exact ⟨_, _, _, _, _, _, _, S', tail1_7 sc z6 z7 z8 z9 S', H'⟩
def odd2 : List D := [.str "ons", .str "n", .str "ON", .str " on", .str "on ", .str "", .tup [.str "on"], .int 2]
theorem odds2 (sc : D) (z5 z6 z7 z8 z9 : Option D) (S : Store) : evs (callAt T 39) [.var 1, .lst oddE] (envL sc (some (.int 2)) (some (.str "on")) z5 z6 z7 z8 z9) S = .ok [.ref 1, .lst odd2] S := by kernel_rfl
theorem tail2_0 (sc : D) (z6 z7 z8 z9 : Option D) (S : Store) : exs (callAt T 39) tailL (envL sc (some (.int 2)) (some (.str "on")) (some (.str "ons")) z6 z7 z8 z9) S = .nx (envL sc (some (.int 2)) (some (.str "on")) (some (.str "ons")) (some (.str "unmask")) (some (.int 8)) (some (.str "reads")) (some (.tup [.int 0, .tup [.str "on"]]))) S := by kernel_rfl
theorem tail2_1 (sc : D) (z6 z7 z8 z9 : Option D) (S : Store) : exs (callAt T 39) tailL (envL sc (some (.int 2)) (some (.str "on")) (some (.str "n")) z6 z7 z8 z9) S = .nx (envL sc (some (.int 2)) (some (.str "on")) (some (.str "n")) (some (.str "unmask")) (some (.int 8)) (some (.str "reads")) (some (.tup [.int 0, .tup [.str "on"]]))) S := by kernel_rfl
theorem tail2_2 (sc : D) (z6 z7 z8 z9 : Option D) (S : Store) : exs (callAt T 39) tailL (envL sc (some (.int 2)) (some (.str "on")) (some (.str "ON")) z6 z7 z8 z9) S = .nx (envL sc (some (.int 2)) (some (.str "on")) (some (.str "ON")) (some (.str "unmask")) (some (.int 8)) (some (.str "reads")) (some (.tup [.int 0, .tup [.str "on"]]))) S := by kernel_rfl
theorem tail2_3 (sc : D) (z6 z7 z8 z9 : Option D) (S : Store) : exs (callAt T 39) tailL (envL sc (some (.int 2)) (some (.str "on")) (some (.str " on")) z6 z7 z8 z9) S = .nx (envL sc (some (.int 2)) (some (.str "on")) (some (.str " on")) (some (.str "unmask")) (some (.int 8)) (some (.str "reads")) (some (.tup [.int 0, .tup [.str "on"]]))) S := by kernel_rfl
theorem tail2_4 (sc : D) (z6 z7 z8 z9 : Option D) (S : Store) : exs (callAt T 39) tailL (envL sc (some (.int 2)) (some (.str "on")) (some (.str "on ")) z6 z7 z8 z9) S = .nx (envL sc (some (.int 2)) (some (.str "on")) (some (.str "on ")) (some (.str "unmask")) (some (.int 8)) (some (.str "reads")) (some (.tup [.int 0, .tup [.str "on"]]))) S := by kernel_rfl
theorem tail2_5 (sc : D) (z6 z7 z8 z9 : Option D) (S : Store) : exs (callAt T 39) tailL (envL sc (some (.int 2)) (some (.str "on")) (some (.str "")) z6 z7 z8 z9) S = .nx (envL sc (some (.int 2)) (some (.str "on")) (some (.str "")) (some (.str "unmask")) (some (.int 8)) (some (.str "reads")) (some (.tup [.int 0, .tup [.str "on"]]))) S := by kernel_rfl
theorem tail2_6 (sc : D) (z6 z7 z8 z9 : Option D) (S : Store) : exs (callAt T 39) tailL (envL sc (some (.int 2)) (some (.str "on")) (some (.tup [.str "on"])) z6 z7 z8 z9) S = .nx (envL sc (some (.int 2)) (some (.str "on")) (some (.tup [.str "on"])) (some (.str "unmask")) (some (.int 8)) (some (.str "reads")) (some (.tup [.int 0, .tup [.str "on"]]))) S := by kernel_rfl
theorem tail2_7 (sc : D) (z6 z7 z8 z9 : Option D) (S : Store) : exs (callAt T 39) tailL (envL sc (some (.int 2)) (some (.str "on")) (some (.int 2)) z6 z7 z8 z9) S = .nx (envL sc (some (.int 2)) (some (.str "on")) (some (.int 2)) (some (.str "unmask")) (some (.int 8)) (some (.str "reads")) (some (.tup [.int 0, .tup [.str "on"]]))) S := by kernel_rfl
theorem turn2 (sc : D) (z3 z4 z5 z6 z7 z8 z9 : Option D) (S : Store) (H : HandOk S 1 0) : ∃ y3 y4 y5 y6 y7 y8 y9 S', turnF (callAt T 39) (.tup [.name 3, .name 4]) bodyL (.tup [.int 2, .str "on"]) (envL sc z3 z4 z5 z6 z7 z8 z9) S = .nx (envL sc y3 y4 y5 y6 y7 y8 y9) S' ∧ HandOk S' 1 0 := by
  obtain ⟨x, S', e, hx, H', _⟩ := of_lst (n := 37) T_pick T_of H (xs := odd2) (by decide) (by decide)
  have t : turnF (callAt T 39) (.tup [.name 3, .name 4]) bodyL (.tup [.int 2, .str "on"]) (envL sc z3 z4 z5 z6 z7 z8 z9) S = exs (callAt T 39) tailL (envL sc (some (.int 2)) (some (.str "on")) (some x) z6 z7 z8 z9) S' := by
    have b : bindP (.tup [.name 3, .name 4]) (.tup [.int 2, .str "on"]) (envL sc z3 z4 z5 z6 z7 z8 z9) = some (envL sc (some (.int 2)) (some (.str "on")) z5 z6 z7 z8 z9) := by rfl
    have a : ex (callAt T 39) (.asg (.name 5) (.call 25 [.var 1, .lst oddE])) (envL sc (some (.int 2)) (some (.str "on")) z5 z6 z7 z8 z9) S = .nx (envL sc (some (.int 2)) (some (.str "on")) (some x) z6 z7 z8 z9) S' := by
      simp only [ex, ev_call, odds2, Res.bind_ok, e, Out.of]
      rfl
    unfold turnF
    rw [b, bodyL_eq]
    simp only [exs, a, Out.then]
  rw [t]
  simp only [odd2, List.mem_cons, List.not_mem_nil, or_false] at hx
  rcases hx with rfl | rfl | rfl | rfl | rfl | rfl | rfl | rfl
  · exact ⟨_, _, _, _, _, _, _, S', tail2_0 sc z6 z7 z8 z9 S', H'⟩
  · exact ⟨_, _, _, _, _, _, _, S', tail2_1 sc z6 z7 z8 z9 S', H'⟩
  · exact ⟨_, _, _, _, _, _, _, S', tail2_2 sc z6 z7 z8 z9 S', H'⟩
  · exact ⟨_, _, _, _, _, _, _, S', tail2_3 sc z6 z7 z8 z9 S', H'⟩
  · exact ⟨_, _, _, _, _, _, _, S', tail2_4 sc z6 z7 z8 z9 S', H'⟩
  · exact ⟨_, _, _, _, _, _, _, S', tail2_5 sc z6 z7 z8 z9 S', H'⟩
  · exact ⟨_, _, _, _, _, _, _, S', tail2_6 sc z6 z7 z8 z9 S', H'⟩
  · exact ⟨_, _, _, _, _, _, _, S', tail2_7 sc z6 z7 z8 z9 S', H'⟩
def odd3 : List D := [.str "hangs", .str "ang", .str "HANG", .str " hang", .str "hang ", .str "", .tup [.str "hang"], .int 3]
theorem odds3 (sc : D) (z5 z6 z7 z8 z9 : Option D) (S : Store) : evs (callAt T 39) [.var 1, .lst oddE] (envL sc (some (.int 3)) (some (.str "hang")) z5 z6 z7 z8 z9) S = .ok [.ref 1, .lst odd3] S := by kernel_rfl
theorem tail3_0 (sc : D) (z6 z7 z8 z9 : Option D) (S : Store) : exs (callAt T 39) tailL (envL sc (some (.int 3)) (some (.str "hang")) (some (.str "hangs")) z6 z7 z8 z9) S = .nx (envL sc (some (.int 3)) (some (.str "hang")) (some (.str "hangs")) (some (.str "unmask")) (some (.int 8)) (some (.str "reads")) (some (.tup [.int 0, .tup [.str "hang"]]))) S := by kernel_rfl
theorem tail3_1 (sc : D) (z6 z7 z8 z9 : Option D) (S : Store) : exs (callAt T 39) tailL (envL sc (some (.int 3)) (some (.str "hang")) (some (.str "ang")) z6 z7 z8 z9) S = .nx (envL sc (some (.int 3)) (some (.str "hang")) (some (.str "ang")) (some (.str "unmask")) (some (.int 8)) (some (.str "reads")) (some (.tup [.int 0, .tup [.str "hang"]]))) S := by kernel_rfl
theorem tail3_2 (sc : D) (z6 z7 z8 z9 : Option D) (S : Store) : exs (callAt T 39) tailL (envL sc (some (.int 3)) (some (.str "hang")) (some (.str "HANG")) z6 z7 z8 z9) S = .nx (envL sc (some (.int 3)) (some (.str "hang")) (some (.str "HANG")) (some (.str "unmask")) (some (.int 8)) (some (.str "reads")) (some (.tup [.int 0, .tup [.str "hang"]]))) S := by kernel_rfl
theorem tail3_3 (sc : D) (z6 z7 z8 z9 : Option D) (S : Store) : exs (callAt T 39) tailL (envL sc (some (.int 3)) (some (.str "hang")) (some (.str " hang")) z6 z7 z8 z9) S = .nx (envL sc (some (.int 3)) (some (.str "hang")) (some (.str " hang")) (some (.str "unmask")) (some (.int 8)) (some (.str "reads")) (some (.tup [.int 0, .tup [.str "hang"]]))) S := by kernel_rfl
theorem tail3_4 (sc : D) (z6 z7 z8 z9 : Option D) (S : Store) : exs (callAt T 39) tailL (envL sc (some (.int 3)) (some (.str "hang")) (some (.str "hang ")) z6 z7 z8 z9) S = .nx (envL sc (some (.int 3)) (some (.str "hang")) (some (.str "hang ")) (some (.str "unmask")) (some (.int 8)) (some (.str "reads")) (some (.tup [.int 0, .tup [.str "hang"]]))) S := by kernel_rfl
theorem tail3_5 (sc : D) (z6 z7 z8 z9 : Option D) (S : Store) : exs (callAt T 39) tailL (envL sc (some (.int 3)) (some (.str "hang")) (some (.str "")) z6 z7 z8 z9) S = .nx (envL sc (some (.int 3)) (some (.str "hang")) (some (.str "")) (some (.str "unmask")) (some (.int 8)) (some (.str "reads")) (some (.tup [.int 0, .tup [.str "hang"]]))) S := by kernel_rfl
theorem tail3_6 (sc : D) (z6 z7 z8 z9 : Option D) (S : Store) : exs (callAt T 39) tailL (envL sc (some (.int 3)) (some (.str "hang")) (some (.tup [.str "hang"])) z6 z7 z8 z9) S = .nx (envL sc (some (.int 3)) (some (.str "hang")) (some (.tup [.str "hang"])) (some (.str "unmask")) (some (.int 8)) (some (.str "reads")) (some (.tup [.int 0, .tup [.str "hang"]]))) S := by kernel_rfl
theorem tail3_7 (sc : D) (z6 z7 z8 z9 : Option D) (S : Store) : exs (callAt T 39) tailL (envL sc (some (.int 3)) (some (.str "hang")) (some (.int 3)) z6 z7 z8 z9) S = .nx (envL sc (some (.int 3)) (some (.str "hang")) (some (.int 3)) (some (.str "unmask")) (some (.int 8)) (some (.str "reads")) (some (.tup [.int 0, .tup [.str "hang"]]))) S := by kernel_rfl
theorem turn3 (sc : D) (z3 z4 z5 z6 z7 z8 z9 : Option D) (S : Store) (H : HandOk S 1 0) : ∃ y3 y4 y5 y6 y7 y8 y9 S', turnF (callAt T 39) (.tup [.name 3, .name 4]) bodyL (.tup [.int 3, .str "hang"]) (envL sc z3 z4 z5 z6 z7 z8 z9) S = .nx (envL sc y3 y4 y5 y6 y7 y8 y9) S' ∧ HandOk S' 1 0 := by
  obtain ⟨x, S', e, hx, H', _⟩ := of_lst (n := 37) T_pick T_of H (xs := odd3) (by decide) (by decide)
  have t : turnF (callAt T 39) (.tup [.name 3, .name 4]) bodyL (.tup [.int 3, .str "hang"]) (envL sc z3 z4 z5 z6 z7 z8 z9) S = exs (callAt T 39) tailL (envL sc (some (.int 3)) (some (.str "hang")) (some x) z6 z7 z8 z9) S' := by
    have b : bindP (.tup [.name 3, .name 4]) (.tup [.int 3, .str "hang"]) (envL sc z3 z4 z5 z6 z7 z8 z9) = some (envL sc (some (.int 3)) (some (.str "hang")) z5 z6 z7 z8 z9) := by rfl
    have a : ex (callAt T 39) (.asg (.name 5) (.call 25 [.var 1, .lst oddE])) (envL sc (some (.int 3)) (some (.str "hang")) z5 z6 z7 z8 z9) S = .nx (envL sc (some (.int 3)) (some (.str "hang")) (some x) z6 z7 z8 z9) S' := by
      simp only [ex, ev_call, odds3, Res.bind_ok, e, Out.of]
      rfl
    unfold turnF
    rw [b, bodyL_eq]
    simp only [exs, a, Out.then]
  rw [t]
  simp only [odd3, List.mem_cons, List.not_mem_nil, or_false] at hx
  rcases hx with rfl | rfl | rfl | rfl | rfl | rfl | rfl | rfl
  · exact ⟨_, _, _, _, _, _, _, S', tail3_0 sc z6 z7 z8 z9 S', H'⟩
  · exact ⟨_, _, _, _, _, _, _, S', tail3_1 sc z6 z7 z8 z9 S', H'⟩
  · exact ⟨_, _, _, _, _, _, _, S', tail3_2 sc z6 z7 z8 z9 S', H'⟩
  · exact ⟨_, _, _, _, _, _, _, S', tail3_3 sc z6 z7 z8 z9 S', H'⟩
  · exact ⟨_, _, _, _, _, _, _, S', tail3_4 sc z6 z7 z8 z9 S', H'⟩
  · exact ⟨_, _, _, _, _, _, _, S', tail3_5 sc z6 z7 z8 z9 S', H'⟩
  · exact ⟨_, _, _, _, _, _, _, S', tail3_6 sc z6 z7 z8 z9 S', H'⟩
  · exact ⟨_, _, _, _, _, _, _, S', tail3_7 sc z6 z7 z8 z9 S', H'⟩
def odd4 : List D := [.str "quits", .str "uit", .str "QUIT", .str " quit", .str "quit ", .str "", .tup [.str "quit"], .int 4]
theorem odds4 (sc : D) (z5 z6 z7 z8 z9 : Option D) (S : Store) : evs (callAt T 39) [.var 1, .lst oddE] (envL sc (some (.int 4)) (some (.str "quit")) z5 z6 z7 z8 z9) S = .ok [.ref 1, .lst odd4] S := by kernel_rfl
theorem tail4_0 (sc : D) (z6 z7 z8 z9 : Option D) (S : Store) : exs (callAt T 39) tailL (envL sc (some (.int 4)) (some (.str "quit")) (some (.str "quits")) z6 z7 z8 z9) S = .nx (envL sc (some (.int 4)) (some (.str "quit")) (some (.str "quits")) (some (.str "unmask")) (some (.int 8)) (some (.str "reads")) (some (.tup [.int 0, .tup [.str "quit"]]))) S := by kernel_rfl
theorem tail4_1 (sc : D) (z6 z7 z8 z9 : Option D) (S : Store) : exs (callAt T 39) tailL (envL sc (some (.int 4)) (some (.str "quit")) (some (.str "uit")) z6 z7 z8 z9) S = .nx (envL sc (some (.int 4)) (some (.str "quit")) (some (.str "uit")) (some (.str "unmask")) (some (.int 8)) (some (.str "reads")) (some (.tup [.int 0, .tup [.str "quit"]]))) S := by kernel_rfl
theorem tail4_2 (sc : D) (z6 z7 z8 z9 : Option D) (S : Store) : exs (callAt T 39) tailL (envL sc (some (.int 4)) (some (.str "quit")) (some (.str "QUIT")) z6 z7 z8 z9) S = .nx (envL sc (some (.int 4)) (some (.str "quit")) (some (.str "QUIT")) (some (.str "unmask")) (some (.int 8)) (some (.str "reads")) (some (.tup [.int 0, .tup [.str "quit"]]))) S := by kernel_rfl
theorem tail4_3 (sc : D) (z6 z7 z8 z9 : Option D) (S : Store) : exs (callAt T 39) tailL (envL sc (some (.int 4)) (some (.str "quit")) (some (.str " quit")) z6 z7 z8 z9) S = .nx (envL sc (some (.int 4)) (some (.str "quit")) (some (.str " quit")) (some (.str "unmask")) (some (.int 8)) (some (.str "reads")) (some (.tup [.int 0, .tup [.str "quit"]]))) S := by kernel_rfl
theorem tail4_4 (sc : D) (z6 z7 z8 z9 : Option D) (S : Store) : exs (callAt T 39) tailL (envL sc (some (.int 4)) (some (.str "quit")) (some (.str "quit ")) z6 z7 z8 z9) S = .nx (envL sc (some (.int 4)) (some (.str "quit")) (some (.str "quit ")) (some (.str "unmask")) (some (.int 8)) (some (.str "reads")) (some (.tup [.int 0, .tup [.str "quit"]]))) S := by kernel_rfl
theorem tail4_5 (sc : D) (z6 z7 z8 z9 : Option D) (S : Store) : exs (callAt T 39) tailL (envL sc (some (.int 4)) (some (.str "quit")) (some (.str "")) z6 z7 z8 z9) S = .nx (envL sc (some (.int 4)) (some (.str "quit")) (some (.str "")) (some (.str "unmask")) (some (.int 8)) (some (.str "reads")) (some (.tup [.int 0, .tup [.str "quit"]]))) S := by kernel_rfl
theorem tail4_6 (sc : D) (z6 z7 z8 z9 : Option D) (S : Store) : exs (callAt T 39) tailL (envL sc (some (.int 4)) (some (.str "quit")) (some (.tup [.str "quit"])) z6 z7 z8 z9) S = .nx (envL sc (some (.int 4)) (some (.str "quit")) (some (.tup [.str "quit"])) (some (.str "unmask")) (some (.int 8)) (some (.str "reads")) (some (.tup [.int 0, .tup [.str "quit"]]))) S := by kernel_rfl
theorem tail4_7 (sc : D) (z6 z7 z8 z9 : Option D) (S : Store) : exs (callAt T 39) tailL (envL sc (some (.int 4)) (some (.str "quit")) (some (.int 4)) z6 z7 z8 z9) S = .nx (envL sc (some (.int 4)) (some (.str "quit")) (some (.int 4)) (some (.str "unmask")) (some (.int 8)) (some (.str "reads")) (some (.tup [.int 0, .tup [.str "quit"]]))) S := by kernel_rfl
theorem turn4 (sc : D) (z3 z4 z5 z6 z7 z8 z9 : Option D) (S : Store) (H : HandOk S 1 0) : ∃ y3 y4 y5 y6 y7 y8 y9 S', turnF (callAt T 39) (.tup [.name 3, .name 4]) bodyL (.tup [.int 4, .str "quit"]) (envL sc z3 z4 z5 z6 z7 z8 z9) S = .nx (envL sc y3 y4 y5 y6 y7 y8 y9) S' ∧ HandOk S' 1 0 := by
  obtain ⟨x, S', e, hx, H', _⟩ := of_lst (n := 37) T_pick T_of H (xs := odd4) (by decide) (by decide)
  have t : turnF (callAt T 39) (.tup [.name 3, .name 4]) bodyL (.tup [.int 4, .str "quit"]) (envL sc z3 z4 z5 z6 z7 z8 z9) S = exs (callAt T 39) tailL (envL sc (some (.int 4)) (some (.str "quit")) (some x) z6 z7 z8 z9) S' := by
    have b : bindP (.tup [.name 3, .name 4]) (.tup [.int 4, .str "quit"]) (envL sc z3 z4 z5 z6 z7 z8 z9) = some (envL sc (some (.int 4)) (some (.str "quit")) z5 z6 z7 z8 z9) := by rfl
    have a : ex (callAt T 39) (.asg (.name 5) (.call 25 [.var 1, .lst oddE])) (envL sc (some (.int 4)) (some (.str "quit")) z5 z6 z7 z8 z9) S = .nx (envL sc (some (.int 4)) (some (.str "quit")) (some x) z6 z7 z8 z9) S' := by
      simp only [ex, ev_call, odds4, Res.bind_ok, e, Out.of]
      rfl
    unfold turnF
    rw [b, bodyL_eq]
    simp only [exs, a, Out.then]
  rw [t]
  simp only [odd4, List.mem_cons, List.not_mem_nil, or_false] at hx
  rcases hx with rfl | rfl | rfl | rfl | rfl | rfl | rfl | rfl
  · exact ⟨_, _, _, _, _, _, _, S', tail4_0 sc z6 z7 z8 z9 S', H'⟩
  · exact ⟨_, _, _, _, _, _, _, S', tail4_1 sc z6 z7 z8 z9 S', H'⟩
  · exact ⟨_, _, _, _, _, _, _, S', tail4_2 sc z6 z7 z8 z9 S', H'⟩
  · exact ⟨_, _, _, _, _, _, _, S', tail4_3 sc z6 z7 z8 z9 S', H'⟩
  · exact ⟨_, _, _, _, _, _, _, S', tail4_4 sc z6 z7 z8 z9 S', H'⟩
  · exact ⟨_, _, _, _, _, _, _, S', tail4_5 sc z6 z7 z8 z9 S', H'⟩
  · exact ⟨_, _, _, _, _, _, _, S', tail4_6 sc z6 z7 z8 z9 S', H'⟩
  · exact ⟨_, _, _, _, _, _, _, S', tail4_7 sc z6 z7 z8 z9 S', H'⟩
def odd5 : List D := [.str "calls", .str "all", .str "CALL", .str " call", .str "call ", .str "", .tup [.str "call"], .int 5]
theorem odds5 (sc : D) (z5 z6 z7 z8 z9 : Option D) (S : Store) : evs (callAt T 39) [.var 1, .lst oddE] (envL sc (some (.int 5)) (some (.str "call")) z5 z6 z7 z8 z9) S = .ok [.ref 1, .lst odd5] S := by kernel_rfl
theorem tail5_0 (sc : D) (z6 z7 z8 z9 : Option D) (S : Store) : exs (callAt T 39) tailL (envL sc (some (.int 5)) (some (.str "call")) (some (.str "calls")) z6 z7 z8 z9) S = .nx (envL sc (some (.int 5)) (some (.str "call")) (some (.str "calls")) (some (.str "unmask")) (some (.int 8)) (some (.str "reads")) (some (.tup [.int 0, .tup [.str "call"]]))) S := by kernel_rfl
theorem tail5_1 (sc : D) (z6 z7 z8 z9 : Option D) (S : Store) : exs (callAt T 39) tailL (envL sc (some (.int 5)) (some (.str "call")) (some (.str "all")) z6 z7 z8 z9) S = .nx (envL sc (some (.int 5)) (some (.str "call")) (some (.str "all")) (some (.str "unmask")) (some (.int 8)) (some (.str "reads")) (some (.tup [.int 0, .tup [.str "call"]]))) S := by kernel_rfl
theorem tail5_2 (sc : D) (z6 z7 z8 z9 : Option D) (S : Store) : exs (callAt T 39) tailL (envL sc (some (.int 5)) (some (.str "call")) (some (.str "CALL")) z6 z7 z8 z9) S = .nx (envL sc (some (.int 5)) (some (.str "call")) (some (.str "CALL")) (some (.str "unmask")) (some (.int 8)) (some (.str "reads")) (some (.tup [.int 0, .tup [.str "call"]]))) S := by kernel_rfl
theorem tail5_3 (sc : D) (z6 z7 z8 z9 : Option D) (S : Store) : exs (callAt T 39) tailL (envL sc (some (.int 5)) (some (.str "call")) (some (.str " call")) z6 z7 z8 z9) S = .nx (envL sc (some (.int 5)) (some (.str "call")) (some (.str " call")) (some (.str "unmask")) (some (.int 8)) (some (.str "reads")) (some (.tup [.int 0, .tup [.str "call"]]))) S := by kernel_rfl
theorem tail5_4 (sc : D) (z6 z7 z8 z9 : Option D) (S : Store) : exs (callAt T 39) tailL (envL sc (some (.int 5)) (some (.str "call")) (some (.str "call ")) z6 z7 z8 z9) S = .nx (envL sc (some (.int 5)) (some (.str "call")) (some (.str "call ")) (some (.str "unmask")) (some (.int 8)) (some (.str "reads")) (some (.tup [.int 0, .tup [.str "call"]]))) S := by kernel_rfl
theorem tail5_5 (sc : D) (z6 z7 z8 z9 : Option D) (S : Store) : exs (callAt T 39) tailL (envL sc (some (.int 5)) (some (.str "call")) (some (.str "")) z6 z7 z8 z9) S = .nx (envL sc (some (.int 5)) (some (.str "call")) (some (.str "")) (some (.str "unmask")) (some (.int 8)) (some (.str "reads")) (some (.tup [.int 0, .tup [.str "call"]]))) S := by kernel_rfl
theorem tail5_6 (sc : D) (z6 z7 z8 z9 : Option D) (S : Store) : exs (callAt T 39) tailL (envL sc (some (.int 5)) (some (.str "call")) (some (.tup [.str "call"])) z6 z7 z8 z9) S = .nx (envL sc (some (.int 5)) (some (.str "call")) (some (.tup [.str "call"])) (some (.str "unmask")) (some (.int 8)) (some (.str "reads")) (some (.tup [.int 0, .tup [.str "call"]]))) S := by kernel_rfl
theorem tail5_7 (sc : D) (z6 z7 z8 z9 : Option D) (S : Store) : exs (callAt T 39) tailL (envL sc (some (.int 5)) (some (.str "call")) (some (.int 5)) z6 z7 z8 z9) S = .nx (envL sc (some (.int 5)) (some (.str "call")) (some (.int 5)) (some (.str "unmask")) (some (.int 8)) (some (.str "reads")) (some (.tup [.int 0, .tup [.str "call"]]))) S := by kernel_rfl
theorem turn5 (sc : D) (z3 z4 z5 z6 z7 z8 z9 : Option D) (S : Store) (H : HandOk S 1 0) : ∃ y3 y4 y5 y6 y7 y8 y9 S', turnF (callAt T 39) (.tup [.name 3, .name 4]) bodyL (.tup [.int 5, .str "call"]) (envL sc z3 z4 z5 z6 z7 z8 z9) S = .nx (envL sc y3 y4 y5 y6 y7 y8 y9) S' ∧ HandOk S' 1 0 := by
  obtain ⟨x, S', e, hx, H', _⟩ := of_lst (n := 37) T_pick T_of H (xs := odd5) (by decide) (by decide)
  have t : turnF (callAt T 39) (.tup [.name 3, .name 4]) bodyL (.tup [.int 5, .str "call"]) (envL sc z3 z4 z5 z6 z7 z8 z9) S = exs (callAt T 39) tailL (envL sc (some (.int 5)) (some (.str "call")) (some x) z6 z7 z8 z9) S' := by
    have b : bindP (.tup [.name 3, .name 4]) (.tup [.int 5, .str "call"]) (envL sc z3 z4 z5 z6 z7 z8 z9) = some (envL sc (some (.int 5)) (some (.str "call")) z5 z6 z7 z8 z9) := by rfl
    have a : ex (callAt T 39) (.asg (.name 5) (.call 25 [.var 1, .lst oddE])) (envL sc (some (.int 5)) (some (.str "call")) z5 z6 z7 z8 z9) S = .nx (envL sc (some (.int 5)) (some (.str "call")) (some x) z6 z7 z8 z9) S' := by
      simp only [ex, ev_call, odds5, Res.bind_ok, e, Out.of]
      rfl
    unfold turnF
    rw [b, bodyL_eq]
    simp only [exs, a, Out.then]
  rw [t]
  simp only [odd5, List.mem_cons, List.not_mem_nil, or_false] at hx
  rcases hx with rfl | rfl | rfl | rfl | rfl | rfl | rfl | rfl
  · exact ⟨_, _, _, _, _, _, _, S', tail5_0 sc z6 z7 z8 z9 S', H'⟩
  · exact ⟨_, _, _, _, _, _, _, S', tail5_1 sc z6 z7 z8 z9 S', H'⟩
  · exact ⟨_, _, _, _, _, _, _, S', tail5_2 sc z6 z7 z8 z9 S', H'⟩
  · exact ⟨_, _, _, _, _, _, _, S', tail5_3 sc z6 z7 z8 z9 S', H'⟩
  · exact ⟨_, _, _, _, _, _, _, S', tail5_4 sc z6 z7 z8 z9 S', H'⟩
  · exact ⟨_, _, _, _, _, _, _, S', tail5_5 sc z6 z7 z8 z9 S', H'⟩
  · exact ⟨_, _, _, _, _, _, _, S', tail5_6 sc z6 z7 z8 z9 S', H'⟩
  · exact ⟨_, _, _, _, _, _, _, S', tail5_7 sc z6 z7 z8 z9 S', H'⟩
def odd6 : List D := [.str "kins", .str "in", .str "KIN", .str " kin", .str "kin ", .str "", .tup [.str "kin"], .int 6]
theorem odds6 (sc : D) (z5 z6 z7 z8 z9 : Option D) (S : Store) : evs (callAt T 39) [.var 1, .lst oddE] (envL sc (some (.int 6)) (some (.str "kin")) z5 z6 z7 z8 z9) S = .ok [.ref 1, .lst odd6] S := by kernel_rfl
theorem tail6_0 (sc : D) (z6 z7 z8 z9 : Option D) (S : Store) : exs (callAt T 39) tailL (envL sc (some (.int 6)) (some (.str "kin")) (some (.str "kins")) z6 z7 z8 z9) S = .nx (envL sc (some (.int 6)) (some (.str "kin")) (some (.str "kins")) (some (.str "unmask")) (some (.int 8)) (some (.str "reads")) (some (.tup [.int 0, .tup [.str "kin"]]))) S := by kernel_rfl
theorem tail6_1 (sc : D) (z6 z7 z8 z9 : Option D) (S : Store) : exs (callAt T 39) tailL (envL sc (some (.int 6)) (some (.str "kin")) (some (.str "in")) z6 z7 z8 z9) S = .nx (envL sc (some (.int 6)) (some (.str "kin")) (some (.str "in")) (some (.str "unmask")) (some (.int 8)) (some (.str "reads")) (some (.tup [.int 0, .tup [.str "kin"]]))) S := by kernel_rfl
theorem tail6_2 (sc : D) (z6 z7 z8 z9 : Option D) (S : Store) : exs (callAt T 39) tailL (envL sc (some (.int 6)) (some (.str "kin")) (some (.str "KIN")) z6 z7 z8 z9) S = .nx (envL sc (some (.int 6)) (some (.str "kin")) (some (.str "KIN")) (some (.str "unmask")) (some (.int 8)) (some (.str "reads")) (some (.tup [.int 0, .tup [.str "kin"]]))) S := by kernel_rfl
theorem tail6_3 (sc : D) (z6 z7 z8 z9 : Option D) (S : Store) : exs (callAt T 39) tailL (envL sc (some (.int 6)) (some (.str "kin")) (some (.str " kin")) z6 z7 z8 z9) S = .nx (envL sc (some (.int 6)) (some (.str "kin")) (some (.str " kin")) (some (.str "unmask")) (some (.int 8)) (some (.str "reads")) (some (.tup [.int 0, .tup [.str "kin"]]))) S := by kernel_rfl
theorem tail6_4 (sc : D) (z6 z7 z8 z9 : Option D) (S : Store) : exs (callAt T 39) tailL (envL sc (some (.int 6)) (some (.str "kin")) (some (.str "kin ")) z6 z7 z8 z9) S = .nx (envL sc (some (.int 6)) (some (.str "kin")) (some (.str "kin ")) (some (.str "unmask")) (some (.int 8)) (some (.str "reads")) (some (.tup [.int 0, .tup [.str "kin"]]))) S := by kernel_rfl
theorem tail6_5 (sc : D) (z6 z7 z8 z9 : Option D) (S : Store) : exs (callAt T 39) tailL (envL sc (some (.int 6)) (some (.str "kin")) (some (.str "")) z6 z7 z8 z9) S = .nx (envL sc (some (.int 6)) (some (.str "kin")) (some (.str "")) (some (.str "unmask")) (some (.int 8)) (some (.str "reads")) (some (.tup [.int 0, .tup [.str "kin"]]))) S := by kernel_rfl
theorem tail6_6 (sc : D) (z6 z7 z8 z9 : Option D) (S : Store) : exs (callAt T 39) tailL (envL sc (some (.int 6)) (some (.str "kin")) (some (.tup [.str "kin"])) z6 z7 z8 z9) S = .nx (envL sc (some (.int 6)) (some (.str "kin")) (some (.tup [.str "kin"])) (some (.str "unmask")) (some (.int 8)) (some (.str "reads")) (some (.tup [.int 0, .tup [.str "kin"]]))) S := by kernel_rfl
theorem tail6_7 (sc : D) (z6 z7 z8 z9 : Option D) (S : Store) : exs (callAt T 39) tailL (envL sc (some (.int 6)) (some (.str "kin")) (some (.int 6)) z6 z7 z8 z9) S = .nx (envL sc (some (.int 6)) (some (.str "kin")) (some (.int 6)) (some (.str "unmask")) (some (.int 8)) (some (.str "reads")) (some (.tup [.int 0, .tup [.str "kin"]]))) S := by kernel_rfl
theorem turn6 (sc : D) (z3 z4 z5 z6 z7 z8 z9 : Option D) (S : Store) (H : HandOk S 1 0) : ∃ y3 y4 y5 y6 y7 y8 y9 S', turnF (callAt T 39) (.tup [.name 3, .name 4]) bodyL (.tup [.int 6, .str "kin"]) (envL sc z3 z4 z5 z6 z7 z8 z9) S = .nx (envL sc y3 y4 y5 y6 y7 y8 y9) S' ∧ HandOk S' 1 0 := by
  obtain ⟨x, S', e, hx, H', _⟩ := of_lst (n := 37) T_pick T_of H (xs := odd6) (by decide) (by decide)
  have t : turnF (callAt T 39) (.tup [.name 3, .name 4]) bodyL (.tup [.int 6, .str "kin"]) (envL sc z3 z4 z5 z6 z7 z8 z9) S = exs (callAt T 39) tailL (envL sc (some (.int 6)) (some (.str "kin")) (some x) z6 z7 z8 z9) S' := by
    have b : bindP (.tup [.name 3, .name 4]) (.tup [.int 6, .str "kin"]) (envL sc z3 z4 z5 z6 z7 z8 z9) = some (envL sc (some (.int 6)) (some (.str "kin")) z5 z6 z7 z8 z9) := by rfl
    have a : ex (callAt T 39) (.asg (.name 5) (.call 25 [.var 1, .lst oddE])) (envL sc (some (.int 6)) (some (.str "kin")) z5 z6 z7 z8 z9) S = .nx (envL sc (some (.int 6)) (some (.str "kin")) (some x) z6 z7 z8 z9) S' := by
      simp only [ex, ev_call, odds6, Res.bind_ok, e, Out.of]
      rfl
    unfold turnF
    rw [b, bodyL_eq]
    simp only [exs, a, Out.then]
  rw [t]
  simp only [odd6, List.mem_cons, List.not_mem_nil, or_false] at hx
  rcases hx with rfl | rfl | rfl | rfl | rfl | rfl | rfl | rfl
  · exact ⟨_, _, _, _, _, _, _, S', tail6_0 sc z6 z7 z8 z9 S', H'⟩
  · exact ⟨_, _, _, _, _, _, _, S', tail6_1 sc z6 z7 z8 z9 S', H'⟩
  · exact ⟨_, _, _, _, _, _, _, S', tail6_2 sc z6 z7 z8 z9 S', H'⟩
  · exact ⟨_, _, _, _, _, _, _, S', tail6_3 sc z6 z7 z8 z9 S', H'⟩
  · exact ⟨_, _, _, _, _, _, _, S', tail6_4 sc z6 z7 z8 z9 S', H'⟩
  · exact ⟨_, _, _, _, _, _, _, S', tail6_5 sc z6 z7 z8 z9 S', H'⟩
  · exact ⟨_, _, _, _, _, _, _, S', tail6_6 sc z6 z7 z8 z9 S', H'⟩
  · exact ⟨_, _, _, _, _, _, _, S', tail6_7 sc z6 z7 z8 z9 S', H'⟩
def odd7 : List D := [.str "rests", .str "est", .str "REST", .str " rest", .str "rest ", .str "", .tup [.str "rest"], .int 7]
theorem odds7 (sc : D) (z5 z6 z7 z8 z9 : Option D) (S : Store) : evs (callAt T 39) [.var 1, .lst oddE] (envL sc (some (.int 7)) (some (.str "rest")) z5 z6 z7 z8 z9) S = .ok [.ref 1, .lst odd7] S := by kernel_rfl
theorem tail7_0 (sc : D) (z6 z7 z8 z9 : Option D) (S : Store) : exs (callAt T 39) tailL (envL sc (some (.int 7)) (some (.str "rest")) (some (.str "rests")) z6 z7 z8 z9) S = .nx (envL sc (some (.int 7)) (some (.str "rest")) (some (.str "rests")) (some (.str "unmask")) (some (.int 8)) (some (.str "reads")) (some (.tup [.int 0, .tup [.str "rest"]]))) S := by kernel_rfl
theorem tail7_1 (sc : D) (z6 z7 z8 z9 : Option D) (S : Store) : exs (callAt T 39) tailL (envL sc (some (.int 7)) (some (.str "rest")) (some (.str "est")) z6 z7 z8 z9) S = .nx (envL sc (some (.int 7)) (some (.str "rest")) (some (.str "est")) (some (.str "unmask")) (some (.int 8)) (some (.str "reads")) (some (.tup [.int 0, .tup [.str "rest"]]))) S := by kernel_rfl
theorem tail7_2 (sc : D) (z6 z7 z8 z9 : Option D) (S : Store) : exs (callAt T 39) tailL (envL sc (some (.int 7)) (some (.str "rest")) (some (.str "REST")) z6 z7 z8 z9) S = .nx (envL sc (some (.int 7)) (some (.str "rest")) (some (.str "REST")) (some (.str "unmask")) (some (.int 8)) (some (.str "reads")) (some (.tup [.int 0, .tup [.str "rest"]]))) S := by kernel_rfl
theorem tail7_3 (sc : D) (z6 z7 z8 z9 : Option D) (S : Store) : exs (callAt T 39) tailL (envL sc (some (.int 7)) (some (.str "rest")) (some (.str " rest")) z6 z7 z8 z9) S = .nx (envL sc (some (.int 7)) (some (.str "rest")) (some (.str " rest")) (some (.str "unmask")) (some (.int 8)) (some (.str "reads")) (some (.tup [.int 0, .tup [.str "rest"]]))) S := by kernel_rfl
theorem tail7_4 (sc : D) (z6 z7 z8 z9 : Option D) (S : Store) : exs (callAt T 39) tailL (envL sc (some (.int 7)) (some (.str "rest")) (some (.str "rest ")) z6 z7 z8 z9) S = .nx (envL sc (some (.int 7)) (some (.str "rest")) (some (.str "rest ")) (some (.str "unmask")) (some (.int 8)) (some (.str "reads")) (some (.tup [.int 0, .tup [.str "rest"]]))) S := by kernel_rfl
theorem tail7_5 (sc : D) (z6 z7 z8 z9 : Option D) (S : Store) : exs (callAt T 39) tailL (envL sc (some (.int 7)) (some (.str "rest")) (some (.str "")) z6 z7 z8 z9) S = .nx (envL sc (some (.int 7)) (some (.str "rest")) (some (.str "")) (some (.str "unmask")) (some (.int 8)) (some (.str "reads")) (some (.tup [.int 0, .tup [.str "rest"]]))) S := by kernel_rfl
theorem tail7_6 (sc : D) (z6 z7 z8 z9 : Option D) (S : Store) : exs (callAt T 39) tailL (envL sc (some (.int 7)) (some (.str "rest")) (some (.tup [.str "rest"])) z6 z7 z8 z9) S = .nx (envL sc (some (.int 7)) (some (.str "rest")) (some (.tup [.str "rest"])) (some (.str "unmask")) (some (.int 8)) (some (.str "reads")) (some (.tup [.int 0, .tup [.str "rest"]]))) S := by kernel_rfl
theorem tail7_7 (sc : D) (z6 z7 z8 z9 : Option D) (S : Store) : exs (callAt T 39) tailL (envL sc (some (.int 7)) (some (.str "rest")) (some (.int 7)) z6 z7 z8 z9) S = .nx (envL sc (some (.int 7)) (some (.str "rest")) (some (.int 7)) (some (.str "unmask")) (some (.int 8)) (some (.str "reads")) (some (.tup [.int 0, .tup [.str "rest"]]))) S := by kernel_rfl
theorem turn7 (sc : D) (z3 z4 z5 z6 z7 z8 z9 : Option D) (S : Store) (H : HandOk S 1 0) : ∃ y3 y4 y5 y6 y7 y8 y9 S', turnF (callAt T 39) (.tup [.name 3, .name 4]) bodyL (.tup [.int 7, .str "rest"]) (envL sc z3 z4 z5 z6 z7 z8 z9) S = .nx (envL sc y3 y4 y5 y6 y7 y8 y9) S' ∧ HandOk S' 1 0 := by
  obtain ⟨x, S', e, hx, H', _⟩ := of_lst (n := 37) T_pick T_of H (xs := odd7) (by decide) (by decide)
  have t : turnF (callAt T 39) (.tup [.name 3, .name 4]) bodyL (.tup [.int 7, .str "rest"]) (envL sc z3 z4 z5 z6 z7 z8 z9) S = exs (callAt T 39) tailL (envL sc (some (.int 7)) (some (.str "rest")) (some x) z6 z7 z8 z9) S' := by
    have b : bindP (.tup [.name 3, .name 4]) (.tup [.int 7, .str "rest"]) (envL sc z3 z4 z5 z6 z7 z8 z9) = some (envL sc (some (.int 7)) (some (.str "rest")) z5 z6 z7 z8 z9) := by rfl
    have a : ex (callAt T 39) (.asg (.name 5) (.call 25 [.var 1, .lst oddE])) (envL sc (some (.int 7)) (some (.str "rest")) z5 z6 z7 z8 z9) S = .nx (envL sc (some (.int 7)) (some (.str "rest")) (some x) z6 z7 z8 z9) S' := by
      simp only [ex, ev_call, odds7, Res.bind_ok, e, Out.of]
      rfl
    unfold turnF
    rw [b, bodyL_eq]
    simp only [exs, a, Out.then]
  rw [t]
  simp only [odd7, List.mem_cons, List.not_mem_nil, or_false] at hx
  rcases hx with rfl | rfl | rfl | rfl | rfl | rfl | rfl | rfl
  · exact ⟨_, _, _, _, _, _, _, S', tail7_0 sc z6 z7 z8 z9 S', H'⟩
  · exact ⟨_, _, _, _, _, _, _, S', tail7_1 sc z6 z7 z8 z9 S', H'⟩
  · exact ⟨_, _, _, _, _, _, _, S', tail7_2 sc z6 z7 z8 z9 S', H'⟩
  · exact ⟨_, _, _, _, _, _, _, S', tail7_3 sc z6 z7 z8 z9 S', H'⟩
  · exact ⟨_, _, _, _, _, _, _, S', tail7_4 sc z6 z7 z8 z9 S', H'⟩
  · exact ⟨_, _, _, _, _, _, _, S', tail7_5 sc z6 z7 z8 z9 S', H'⟩
  · exact ⟨_, _, _, _, _, _, _, S', tail7_6 sc z6 z7 z8 z9 S', H'⟩
  · exact ⟨_, _, _, _, _, _, _, S', tail7_7 sc z6 z7 z8 z9 S', H'⟩
def odd8 : List D := [.str "readss", .str "eads", .str "READS", .str " reads", .str "reads ", .str "", .tup [.str "reads"], .int 8]
theorem odds8 (sc : D) (z5 z6 z7 z8 z9 : Option D) (S : Store) : evs (callAt T 39) [.var 1, .lst oddE] (envL sc (some (.int 8)) (some (.str "reads")) z5 z6 z7 z8 z9) S = .ok [.ref 1, .lst odd8] S := by kernel_rfl
theorem tail8_0 (sc : D) (z6 z7 z8 z9 : Option D) (S : Store) : exs (callAt T 39) tailL (envL sc (some (.int 8)) (some (.str "reads")) (some (.str "readss")) z6 z7 z8 z9) S = .nx (envL sc (some (.int 8)) (some (.str "reads")) (some (.str "readss")) (some (.str "unmask")) (some (.int 8)) (some (.str "reads")) (some (.tup [.int 0, .tup [.str "reads"]]))) S := by kernel_rfl
theorem tail8_1 (sc : D) (z6 z7 z8 z9 : Option D) (S : Store) : exs (callAt T 39) tailL (envL sc (some (.int 8)) (some (.str "reads")) (some (.str "eads")) z6 z7 z8 z9) S = .nx (envL sc (some (.int 8)) (some (.str "reads")) (some (.str "eads")) (some (.str "unmask")) (some (.int 8)) (some (.str "reads")) (some (.tup [.int 0, .tup [.str "reads"]]))) S := by kernel_rfl
theorem tail8_2 (sc : D) (z6 z7 z8 z9 : Option D) (S : Store) : exs (callAt T 39) tailL (envL sc (some (.int 8)) (some (.str "reads")) (some (.str "READS")) z6 z7 z8 z9) S = .nx (envL sc (some (.int 8)) (some (.str "reads")) (some (.str "READS")) (some (.str "unmask")) (some (.int 8)) (some (.str "reads")) (some (.tup [.int 0, .tup [.str "reads"]]))) S := by kernel_rfl
theorem tail8_3 (sc : D) (z6 z7 z8 z9 : Option D) (S : Store) : exs (callAt T 39) tailL (envL sc (some (.int 8)) (some (.str "reads")) (some (.str " reads")) z6 z7 z8 z9) S = .nx (envL sc (some (.int 8)) (some (.str "reads")) (some (.str " reads")) (some (.str "unmask")) (some (.int 8)) (some (.str "reads")) (some (.tup [.int 0, .tup [.str "reads"]]))) S := by kernel_rfl
theorem tail8_4 (sc : D) (z6 z7 z8 z9 : Option D) (S : Store) : exs (callAt T 39) tailL (envL sc (some (.int 8)) (some (.str "reads")) (some (.str "reads ")) z6 z7 z8 z9) S = .nx (envL sc (some (.int 8)) (some (.str "reads")) (some (.str "reads ")) (some (.str "unmask")) (some (.int 8)) (some (.str "reads")) (some (.tup [.int 0, .tup [.str "reads"]]))) S := by kernel_rfl
theorem tail8_5 (sc : D) (z6 z7 z8 z9 : Option D) (S : Store) : exs (callAt T 39) tailL (envL sc (some (.int 8)) (some (.str "reads")) (some (.str "")) z6 z7 z8 z9) S = .nx (envL sc (some (.int 8)) (some (.str "reads")) (some (.str "")) (some (.str "unmask")) (some (.int 8)) (some (.str "reads")) (some (.tup [.int 0, .tup [.str "reads"]]))) S := by kernel_rfl
theorem tail8_6 (sc : D) (z6 z7 z8 z9 : Option D) (S : Store) : exs (callAt T 39) tailL (envL sc (some (.int 8)) (some (.str "reads")) (some (.tup [.str "reads"])) z6 z7 z8 z9) S = .nx (envL sc (some (.int 8)) (some (.str "reads")) (some (.tup [.str "reads"])) (some (.str "unmask")) (some (.int 8)) (some (.str "reads")) (some (.tup [.int 0, .tup [.str "reads"]]))) S := by kernel_rfl
theorem tail8_7 (sc : D) (z6 z7 z8 z9 : Option D) (S : Store) : exs (callAt T 39) tailL (envL sc (some (.int 8)) (some (.str "reads")) (some (.int 8)) z6 z7 z8 z9) S = .nx (envL sc (some (.int 8)) (some (.str "reads")) (some (.int 8)) (some (.str "unmask")) (some (.int 8)) (some (.str "reads")) (some (.tup [.int 0, .tup [.str "reads"]]))) S := by kernel_rfl
theorem turn8 (sc : D) (z3 z4 z5 z6 z7 z8 z9 : Option D) (S : Store) (H : HandOk S 1 0) : ∃ y3 y4 y5 y6 y7 y8 y9 S', turnF (callAt T 39) (.tup [.name 3, .name 4]) bodyL (.tup [.int 8, .str "reads"]) (envL sc z3 z4 z5 z6 z7 z8 z9) S = .nx (envL sc y3 y4 y5 y6 y7 y8 y9) S' ∧ HandOk S' 1 0 := by
  obtain ⟨x, S', e, hx, H', _⟩ := of_lst (n := 37) T_pick T_of H (xs := odd8) (by decide) (by decide)
  have t : turnF (callAt T 39) (.tup [.name 3, .name 4]) bodyL (.tup [.int 8, .str "reads"]) (envL sc z3 z4 z5 z6 z7 z8 z9) S = exs (callAt T 39) tailL (envL sc (some (.int 8)) (some (.str "reads")) (some x) z6 z7 z8 z9) S' := by
    have b : bindP (.tup [.name 3, .name 4]) (.tup [.int 8, .str "reads"]) (envL sc z3 z4 z5 z6 z7 z8 z9) = some (envL sc (some (.int 8)) (some (.str "reads")) z5 z6 z7 z8 z9) := by rfl
    have a : ex (callAt T 39) (.asg (.name 5) (.call 25 [.var 1, .lst oddE])) (envL sc (some (.int 8)) (some (.str "reads")) z5 z6 z7 z8 z9) S = .nx (envL sc (some (.int 8)) (some (.str "reads")) (some x) z6 z7 z8 z9) S' := by
      simp only [ex, ev_call, odds8, Res.bind_ok, e, Out.of]
      rfl
    unfold turnF
    rw [b, bodyL_eq]
    simp only [exs, a, Out.then]
  rw [t]
  simp only [odd8, List.mem_cons, List.not_mem_nil, or_false] at hx
  rcases hx with rfl | rfl | rfl | rfl | rfl | rfl | rfl | rfl
  · exact ⟨_, _, _, _, _, _, _, S', tail8_0 sc z6 z7 z8 z9 S', H'⟩
  · exact ⟨_, _, _, _, _, _, _, S', tail8_1 sc z6 z7 z8 z9 S', H'⟩
  · exact ⟨_, _, _, _, _, _, _, S', tail8_2 sc z6 z7 z8 z9 S', H'⟩
  · exact ⟨_, _, _, _, _, _, _, S', tail8_3 sc z6 z7 z8 z9 S', H'⟩
  · exact ⟨_, _, _, _, _, _, _, S', tail8_4 sc z6 z7 z8 z9 S', H'⟩
  · exact ⟨_, _, _, _, _, _, _, S', tail8_5 sc z6 z7 z8 z9 S', H'⟩
  · exact ⟨_, _, _, _, _, _, _, S', tail8_6 sc z6 z7 z8 z9 S', H'⟩
  · exact ⟨_, _, _, _, _, _, _, S', tail8_7 sc z6 z7 z8 z9 S', H'⟩
theorem loop9 (sc : D) (S0 : Store) (H0 : HandOk S0 1 0) : ∃ env S', loopF (turnF (callAt T 39) (.tup [.name 3, .name 4]) bodyL) (((List.range every9.length).zip every9).map fun p => .tup [.int (p.1 : Nat), p.2]) (envL sc none none none none none none none) S0 = .nx env S' := by
  have e : (((List.range every9.length).zip every9).map fun p => D.tup [.int (p.1 : Nat), p.2]) = [.tup [.int 0, .str "kill"], .tup [.int 1, .str "halt"], .tup [.int 2, .str "on"], .tup [.int 3, .str "hang"], .tup [.int 4, .str "quit"], .tup [.int 5, .str "call"], .tup [.int 6, .str "kin"], .tup [.int 7, .str "rest"], .tup [.int 8, .str "reads"]] := by rfl
  rw [e]
  obtain ⟨y3_0, y4_0, y5_0, y6_0, y7_0, y8_0, y9_0, S1, t0, H1⟩ := turn0 sc none none none none none none none S0 H0
  obtain ⟨y3_1, y4_1, y5_1, y6_1, y7_1, y8_1, y9_1, S2, t1, H2⟩ := turn1 sc y3_0 y4_0 y5_0 y6_0 y7_0 y8_0 y9_0 S1 H1
  obtain ⟨y3_2, y4_2, y5_2, y6_2, y7_2, y8_2, y9_2, S3, t2, H3⟩ := turn2 sc y3_1 y4_1 y5_1 y6_1 y7_1 y8_1 y9_1 S2 H2
  obtain ⟨y3_3, y4_3, y5_3, y6_3, y7_3, y8_3, y9_3, S4, t3, H4⟩ := turn3 sc y3_2 y4_2 y5_2 y6_2 y7_2 y8_2 y9_2 S3 H3
  obtain ⟨y3_4, y4_4, y5_4, y6_4, y7_4, y8_4, y9_4, S5, t4, H5⟩ := turn4 sc y3_3 y4_3 y5_3 y6_3 y7_3 y8_3 y9_3 S4 H4
  obtain ⟨y3_5, y4_5, y5_5, y6_5, y7_5, y8_5, y9_5, S6, t5, H6⟩ := turn5 sc y3_4 y4_4 y5_4 y6_4 y7_4 y8_4 y9_4 S5 H5
  obtain ⟨y3_6, y4_6, y5_6, y6_6, y7_6, y8_6, y9_6, S7, t6, H7⟩ := turn6 sc y3_5 y4_5 y5_5 y6_5 y7_5 y8_5 y9_5 S6 H6
  obtain ⟨y3_7, y4_7, y5_7, y6_7, y7_7, y8_7, y9_7, S8, t7, H8⟩ := turn7 sc y3_6 y4_6 y5_6 y6_6 y7_6 y8_6 y9_6 S7 H7
  obtain ⟨y3_8, y4_8, y5_8, y6_8, y7_8, y8_8, y9_8, S9, t8, H9⟩ := turn8 sc y3_7 y4_7 y5_7 y6_7 y7_7 y8_7 y9_7 S8 H8
  exact ⟨envL sc y3_8 y4_8 y5_8 y6_8 y7_8 y8_8 y9_8, S9, by simp only [loopF, t0, t1, t2, t3, t4, t5, t6, t7, t8]⟩
/-! refusals made by hand -/
abbrev thing6 : List D := [.non, .str "a", .tup [.int 0, .int 1], .lst [.int 0], .bl true, .tup [.str "x", .tup []]]
abbrev envR (x : D) (i : Int) : Env := [some (.ref 1), some x, some (.int i), none, none, none, none]
def restR : List SA := b__law_refusals_right.drop 1
theorem restR_eq : b__law_refusals_right = .par 1 2 (.call 25 [.var 0, .lst [.con (.non), .con (.str "a"), .tup [.con (.int 0), .con (.int 1)], .lst [.con (.int 0)], .con (.bl true), .tup [.con (.str "x"), .tup []]]]) (.call 24 [.var 0, .bin .pow (.con (.int 10)) (.con (.int 9))]) :: restR := by rfl
abbrev made11 (x : D) (i : Int) : List D := [.exn "NoTitle" "title" [x], .exn "NoOne" "name" [x], .exn "NoSession" "name" [x], .exn "NoText" "row" [.int i], .exn "NoBook" "" [], .exn "NoTyped" "" [], .exn "NoEntry" "" [], .exn "NoScript" "" [], .exn "TooMany" "" [], .exn "NoLine" "" [], .exn "NoHouse" "" []]
abbrev envM (x : D) (i : Int) : Env := [some (.ref 1), some x, some (.int i), some (.lst (made11 x i)), none, none, none]
theorem made_ok (x : D) (i : Int) (S : Store) : exs (callAt T 38) restR (envR x i) S = exs (callAt T 38) (restR.drop 2) (envM x i) S := by
  have e : restR = restR.take 2 ++ restR.drop 2 := (List.take_append_drop 2 restR).symm
  have h : exs (callAt T 38) (restR.take 2) (envR x i) S = .nx (envM x i) S := by kernel_rfl
  rw [e, exs_append, h]
  rfl
theorem shown_made {x : D} (hx : x ∈ thing6) {i : Int} (h0 : 0 ≤ i) (h1 : i < 1000000000) : ∃ z, shownD (.lst [x, x, x, .int i]) = some z := by
  have key : ∀ x ∈ thing6, shB 1000000000 10 x = true ∧ dep x ≤ 2 ∧ wt x ≤ 20000 := by decide +kernel
  obtain ⟨k1, k2, k3⟩ := key x hx
  have ki : shB 1000000000 10 (.int i) = true := by
    simp only [shB, decide_eq_true_iff]
    omega
  have hi : i.natAbs ≤ 1000000000 := by omega
  obtain ⟨z, hz, _⟩ := shownD_of (M := 1000000000) (L := 10) (d := .lst [x, x, x, .int i]) (by decide) (by simp only [shB, shsB, k1, decide_eq_true hi]; rfl) (by simp only [dep, deps]; omega) (by simp only [wt, wts]; omega)
  exact ⟨z, hz⟩
def ifR : SA := (restR.drop 2).headD .pass
def loopR : List SA := restR.drop 3
theorem rest_eq : restR.drop 2 = ifR :: loopR := by rfl
theorem ifR_eq : ifR = .ifs (.cmp .ne (.blt .repr [.lst [.xfld (.ix (.var 3) (.con (.int 0))) "title" ["NoTitle"], .xfld (.ix (.var 3) (.con (.int 1))) "name" ["NoOne", "NoSession"], .xfld (.ix (.var 3) (.con (.int 2))) "name" ["NoOne", "NoSession"], .xfld (.ix (.var 3) (.con (.int 3))) "row" ["NoText"]]]) (.blt .repr [.lst [.var 1, .var 1, .var 1, .var 2]])) [.ret (.con (.bl false))] [] := by rfl
theorem refusals_ok {S : Store} (H : HandOk S 1 0) : ∃ S', callAt T 39 27 [.ref 1] S = .ok (.bl true) S' ∧ HandOk S' 1 0 := by
  obtain ⟨x, S1, e1, hx, H1, _⟩ := of_lst (n := 36) T_pick T_of H (xs := thing6) (by decide) (by decide)
  obtain ⟨i, S2, e2, h0, h1, H2, _⟩ := pick_ok (n := 37) T_pick H1 (k := 1000000000) (by decide) (by decide)
  refine ⟨S2, ?_, H2⟩
  obtain ⟨z, hz⟩ := shown_made hx h0 h1
  rw [callAt_at (d := ⟨1, 7, b__law_refusals_right⟩) rfl rfl]
  have a : ex (callAt T 38) (.par 1 2 (.call 25 [.var 0, .lst [.con (.non), .con (.str "a"), .tup [.con (.int 0), .con (.int 1)], .lst [.con (.int 0)], .con (.bl true), .tup [.con (.str "x"), .tup []]]]) (.call 24 [.var 0, .bin .pow (.con (.int 10)) (.con (.int 9))])) (startE [.ref 1] 7) S = .nx (envR x i) S2 := by
    have a1 : evs (callAt T 38) [.var 0, .lst [.con (.non), .con (.str "a"), .tup [.con (.int 0), .con (.int 1)], .lst [.con (.int 0)], .con (.bl true), .tup [.con (.str "x"), .tup []]]] (startE [.ref 1] 7) S = .ok [.ref 1, .lst thing6] S := by kernel_rfl
    have a2 : evs (callAt T 38) [.var 0, .bin .pow (.con (.int 10)) (.con (.int 9))] (startE [.ref 1] 7) S1 = .ok [.ref 1, .int 1000000000] S1 := by kernel_rfl
    simp only [ex, ev_call, a1, a2, Res.bind_ok, e1, e2, Out.of]
    rfl
  have b : exs (callAt T 38) b__law_refusals_right (startE [.ref 1] 7) S = exs (callAt T 38) restR (envR x i) S2 := by
    rw [restR_eq]
    simp only [exs, a, Out.then]
  have r1 : evs (callAt T 38) [.lst [.xfld (.ix (.var 3) (.con (.int 0))) "title" ["NoTitle"], .xfld (.ix (.var 3) (.con (.int 1))) "name" ["NoOne", "NoSession"], .xfld (.ix (.var 3) (.con (.int 2))) "name" ["NoOne", "NoSession"], .xfld (.ix (.var 3) (.con (.int 3))) "row" ["NoText"]]] (envM x i) S2 = .ok [.lst [x, x, x, .int i]] S2 := by kernel_rfl
  have r2 : evs (callAt T 38) [.lst [.var 1, .var 1, .var 1, .var 2]] (envM x i) S2 = .ok [.lst [x, x, x, .int i]] S2 := by kernel_rfl
  have c : ex (callAt T 38) ifR (envM x i) S2 = .nx (envM x i) S2 := by
    have q : bltD .repr [.lst [x, x, x, .int i]] = some (.str z) := by
      show (shownD (.lst [x, x, x, .int i])).map D.str = _
      rw [hz]; rfl
    have q2 : cmpD .ne (.str z) (.str z) = some false := by
      simp only [cmpD, eqD, beq_self_eq_true]
      rfl
    have v1 : ev (callAt T 38) (.blt .repr [.lst [.xfld (.ix (.var 3) (.con (.int 0))) "title" ["NoTitle"], .xfld (.ix (.var 3) (.con (.int 1))) "name" ["NoOne", "NoSession"], .xfld (.ix (.var 3) (.con (.int 2))) "name" ["NoOne", "NoSession"], .xfld (.ix (.var 3) (.con (.int 3))) "row" ["NoText"]]]) (envM x i) S2 = .ok (.str z) S2 := by
      rw [ev_blt, r1]
      exact congrArg (fun o => opt o S2) q
    have v2 : ev (callAt T 38) (.blt .repr [.lst [.var 1, .var 1, .var 1, .var 2]]) (envM x i) S2 = .ok (.str z) S2 := by
      rw [ev_blt, r2]
      exact congrArg (fun o => opt o S2) q
    rw [ifR_eq]
    generalize E.blt .repr [.lst [.var 1, .var 1, .var 1, .var 2]] = g2 at v2 ⊢
    generalize E.blt .repr [.lst [.xfld (.ix (.var 3) (.con (.int 0))) "title" ["NoTitle"], .xfld (.ix (.var 3) (.con (.int 1))) "name" ["NoOne", "NoSession"], .xfld (.ix (.var 3) (.con (.int 2))) "name" ["NoOne", "NoSession"], .xfld (.ix (.var 3) (.con (.int 3))) "row" ["NoText"]]] = g1 at v1 ⊢
    simp only [ex, ev, v1, v2, Res.bind_ok, deref, q2, Option.map_some, opt, Out.of, exs]
  have l : exs (callAt T 38) loopR (envM x i) S2 = .rt (.bl true) S2 := by kernel_rfl
  rw [show exs (callAt T 38) b__law_refusals_right (startE [.ref 1] 7) S = .rt (.bl true) S2 by
    rw [b, made_ok, rest_eq]
    simp only [exs, c, Out.then]
    exact l]
theorem plain (ns : List Int) (hn : ns.length ≤ 63) : ∃ S, callAt (ds.map (·.fd)) 40 29 [.scr ns] [] = .ok (.bl true) S := by
  obtain ⟨S1, e1, H1, _⟩ := hand_ok (n := 38) T_hand ns hn
  obtain ⟨S2, e2, H2⟩ := refusals_ok H1
  obtain ⟨env, S3, e3⟩ := loop9 (.scr ns) S2 H2
  refine ⟨S3, ?_⟩
  have lawE : b_law = [.asg (.name 1) (.call 23 [.var 0]), (b_law.drop 1).headD .pass, (b_law.drop 2).headD .pass, .for_ (.tup [.name 3, .name 4]) .enum [.var 2] bodyL, .ret (.con (.bl true))] := by rfl
  have s1 : ex (callAt T 39) (.asg (.name 1) (.call 23 [.var 0])) (startE [.scr ns] 10) [] = .nx [some (.scr ns), some (.ref 1), none, none, none, none, none, none, none, none] S1 := by
    have a1 : evs (callAt T 39) [.var 0] (startE [.scr ns] 10) [] = .ok [.scr ns] [] := by kernel_rfl
    simp only [ex, ev_call, a1, Res.bind_ok, e1, Out.of]
    rfl
  have s2 : ex (callAt T 39) ((b_law.drop 1).headD .pass) [some (.scr ns), some (.ref 1), none, none, none, none, none, none, none, none] S1 = .nx (envL (.scr ns) none none none none none none none) S1 := by kernel_rfl
  have s3 : ex (callAt T 39) ((b_law.drop 2).headD .pass) (envL (.scr ns) none none none none none none none) S1 = .nx (envL (.scr ns) none none none none none none none) S2 := by
    have k : (b_law.drop 2).headD .pass = .ifs (.or (.cmp .ne (.blt .repr [.con (.tup every9)]) (.blt .repr [.blt .tuple [.var 2]])) (.not (.call 27 [.var 1]))) [.ret (.con (.bl false))] [] := by rfl
    rw [k]
    have c1 : ev (callAt T 39) (.cmp .ne (.blt .repr [.con (.tup every9)]) (.blt .repr [.blt .tuple [.var 2]])) (envL (.scr ns) none none none none none none none) S1 = .ok (.bl false) S1 := by kernel_rfl
    generalize E.cmp .ne (.blt .repr [.con (.tup every9)]) (.blt .repr [.blt .tuple [.var 2]]) = g at c1 ⊢
    have a1 : evs (callAt T 39) [.var 1] (envL (.scr ns) none none none none none none none) S1 = .ok [.ref 1] S1 := by kernel_rfl
    simp only [ex, ev_or, ev_not, ev_call, c1, a1, e2, Res.bind_ok, Out.of, exs]
    rfl
  have s4 : ex (callAt T 39) (.for_ (.tup [.name 3, .name 4]) .enum [.var 2] bodyL) (envL (.scr ns) none none none none none none none) S2 = .nx env S3 := by
    rw [ex_for]
    have a1 : evs (callAt T 39) [.var 2] (envL (.scr ns) none none none none none none none) S2 = .ok [.lst every9] S2 := by kernel_rfl
    rw [a1]
    exact e3
  rw [callAt_at (d := ⟨1, 10, b_law⟩) rfl rfl]
  have all : exs (callAt T 39) b_law (startE [.scr ns] 10) [] = .rt (.bl true) S3 := by
    rw [lawE]
    simp only [exs, s1, s2, s3, s4, Out.then]
    rfl
  rw [show exs (callAt (ds.map (·.fd)) 39) b_law (startE [.scr ns] 10) [] = .rt (.bl true) S3 from all]

end MP

set_option maxHeartbeats 0
namespace MP
open PySem PySem.W PySem.Calls PyProof.Rows
abbrev RR : OpenRow := OpenLaw.row PySem.Challenge.rw_kinsignals_k06_signals_and_refusals
abbrev qv : Program := view RR.prog [54]
def names0 : List PySem.Str := ["SIGNALS", "SURE", "rising_signals", "is_signal", "may_be_masked", "are_maskable", "is_whole", "is_count", "is_below", "MANY_SAID", "MOST_LETTERS", "LETTERS", "SELF", "is_said", "is_title", "is_who", "is_one_of", "is_how", "is_exec", "is_said_row", "is_wait", "is_send", "is_masking", "is_handle", "is_grouping", "is_front", "is_going", "is_asking", "BARE", "FORMS"]
def names1 : List PySem.Str := ["is_row", "KinError", "NoBook", "NoTitle", "NoTyped", "NoEntry", "NoOne", "NoSession", "NoScript", "TooMany", "NoText", "NoLine", "NoHouse", "_law_hand", "_law_pick", "_law_of", "_law_marks", "_law_refusals_right", "_law_is"]
def names : List PySem.Str := names0 ++ names1
theorem run_false (w : World) : HandSHeadRun.RunEq RR qv (hookN 2 glob ds) (obN 2 glob ds) 12000 names (w.withFollow "special-get-raises" false) := by
  intro os
  kernel_rfl
theorem run_true (w : World) : HandSHeadRun.RunEq RR qv (hookN 2 glob ds) (obN 2 glob ds) 12000 names (w.withFollow "special-get-raises" true) := by
  intro os
  kernel_rfl
theorem run (w : World) : HandSHeadRun.RunEq RR qv (hookN 2 glob ds) (obN 2 glob ds) 12000 names w := byRow2 "special-get-raises" run_false run_true w
end MP

set_option maxHeartbeats 0
open PySem PySem.W PySem.Calls PyProof.Rows
theorem PySem.Challenge.cw_kinsignals_k06_signals_and_refusals_holds : PySem.Challenge.rw_kinsignals_k06_signals_and_refusals.Holds := by
  w_on; o_law
  refine HandSHeadRun.head_any (r := MP.RR) (q := MP.qv) (H := MP.hookN 2 MP.glob MP.ds) (ob := MP.obN 2 MP.glob MP.ds) (M := 12000) (loose := MP.names) (d := HandSHeadRun.topDef MP.RR.prog 54) (kwd := []) (MP.obN_eq 2 MP.glob MP.ds)
    (by kernel_rfl) (fun s => by kernel_rfl) MP.run (by kernel_rfl) (by kernel_rfl) (by kernel_rfl) (by rfl) (by first | assumption | decide +kernel) (by decide +kernel) ⟨rfl, rfl, rfl, rfl, rfl, by decide +kernel⟩ ?hw ?hc
  case hw => w_witness2
  case hc =>
    exact MP.law_end (m := 5) (l := PySem.Challenge.rw_kinsignals_k06_signals_and_refusals) (n := 40) (i := 29) (dt := MP.d_law) (x := "_law_script") rfl (by kernel_rfl) ⟨rfl, by decide, by decide⟩ (by kernel_rfl) rfl rfl rfl MP.tab_ok MP.def_ok MP.ini_ok MP.plain
