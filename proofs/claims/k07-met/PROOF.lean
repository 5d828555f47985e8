import PyProof.Rows.All
import Wide.All
import OpenK.AllK
import Wide.FinOn
import PyProof.EqAt
import PyProof.EqKinds
import PyProof.TupleCall
import HandS.ForMost
import HandS.ForExc
import HandS.ExcIs
import HandS.IsInst
import HandS.TupAny
import HandS.Conv
import HandS.CallSlots
import HandS.Deep
import HandS.More
import HandS.Rev
import HandS.Zip
import HandS.Iter
import KE.KDictKeyed
import HandS.TupLen
import PySem.Challenge.RW_liveswap_k07_met
set_option Elab.async false
set_option linter.all false
set_option maxRecDepth 100000
set_option maxHeartbeats 4000000
/-! Dv, part A: a small language of data (values are trees), its evaluator, and a checker that holds a piece of the program's syntax against it. -/
namespace Dv
open PySem

abbrev D := PyData

inductive Kd | shr | brw | frs
  deriving DecidableEq
inductive EO | ok (k : Kd) (d : D) | ex (c : Str)
abbrev Ev := List (Option (Bool × D))
inductive SO | nx (st : Ev) | rt (k : Kd) (d : D) | ex (c : Str)

inductive BOp | add | sub | mul | fdiv | mod | pow
  deriving DecidableEq
inductive COp | eq | ne | lt | le | gt | ge | is | isn | mem | nmem
  deriving DecidableEq
inductive TyN | int | bool | str | list | tuple | dict
  deriving DecidableEq
inductive B1 | len | int | str | tup | lst | all
  deriving DecidableEq

inductive E where
  | var (i : Nat)
  | non
  | bl (b : Bool)
  | int (i : Int)
  | str (s : Str)
  | glb (x : Str) (i : Int)
  | bin (op : BOp) (a b : E)
  | neg (a : E)
  | cmp (op : COp) (a b : E)
  | chn (o p : COp) (a b c : E)
  | and (es : List E)
  | or (es : List E)
  | not (a : E)
  | ife (c a b : E)
  | idx (a i : E)
  | slc (a : E) (lo hi : Option E)
  | tup (es : List E)
  | lst (es : List E)
  | dic
  | fn (f : B1) (a : E)
  | isi (a : E) (t : TyN)
  | isis (a : E) (ts : List TyN)
  | lrg (a : E)
  | lset (a : E)
  | dicT
  | call (f : Str) (es : List E)
  | callAt (fs : List Str) (i : E) (es : List E)
  | cmpL (x : E) (i : Nat) (src : E) (ifs : List E)
  | cmpR (x : E) (i : Nat) (n : E) (ifs : List E)

/-- what a suite may ask of its exception, and what it makes of that -/
inductive HX where
  | isE (c : Str)
  | isV
  | isEs (cs : List Str)
  | var (j : Nat)
  | not (a : HX)
  | and3 (a b c : HX)
  | rep (s : Str) (a : HX)
  | add (a b : HX)
inductive HV | b (x : Bool) | l (xs : List Str)
/-- own classes: each under SwapError -/
def isSub (c d : Str) : Bool := (c == d) || (d == ("SwapError" : Str))
def evH (c : Str) (env : List (Nat × HV)) : HX → Option HV
  | .isE d => some (.b (isSub c d))
  | .isV => some (.b true)
  | .isEs ds => some (.b (ds.any (isSub c)))
  | .var j => env.lookup j
  | .not a => match evH c env a with
    | some (.b x) => some (.b (!x))
    | _ => none
  | .and3 x y z => match evH c env x, evH c env y, evH c env z with
    | some (.b p), some (.b q), some (.b r) => some (.b (p && (q && r)))
    | _, _, _ => none
  | .rep s a => match evH c env a with
    | some (.b x) => some (.l (if x = true then [s] else []))
    | _ => none
  | .add a b => match evH c env a, evH c env b with
    | some (.l xs), some (.l ys) => if xs.length + ys.length ≤ 1000 then some (.l (xs ++ ys)) else none
    | _, _ => none
def evHs (c : Str) : List (Nat × HV) → List (Nat × HX) → HX → Option HV
  | env, [], r => evH c env r
  | env, (j, h) :: hs, r => match evH c env h with
    | some v => evHs c ((j, v) :: env) hs r
    | none => none
inductive S where
  | set (i : Nat) (e : E)
  | setT (is : List Nat) (e : E)
  | setI (i : Nat) (k e : E)
  | dput (i : Nat) (k e : E)
  | app (i : Nat) (e : E)
  | ins (i : Nat) (k e : E)
  | ext (i : Nat) (e : E)
  | clr (i : Nat)
  | frz (i : Nat)
  | ite (c : E) (a b : List S)
  | for (i : Nat) (src : E) (b : List S)
  | forR (i : Nat) (n : E) (b : List S)
  | forT (is : List Nat) (src : E) (b : List S)
  | whl (c : E) (b : List S)
  | ret (e : E)
  | retN
  | exp (e : E)
  | rai (c : Str)
  | tryC (i : Nat) (e : E) (cs : List Str) (hs : List (Nat × HX)) (r : HX)

/-! ### what the pieces are worth -/
def lim : Nat := 100000
def isNone : D → Bool
  | .none => true
  | _ => false
def flat : D → Bool
  | .none => true | .bool _ => true | .int _ => true | .str _ => true
  | _ => false
def scalar : D → Bool := flat
/-- dicts with whole numbers as keys -/
def keyIs (i : Int) : D → Bool
  | .int k => decide (k = i)
  | _ => false
def isIntD : D → Bool
  | .int _ => true
  | _ => false
def realD (kvs : List (D × D)) : Bool := kvs.all fun kv => isIntD kv.1
def dgetI (kvs : List (D × D)) (i : Int) : Option D := (kvs.find? fun kv => keyIs i kv.1).map (·.2)
def dputI (kvs : List (D × D)) (i : Int) (v : D) : List (D × D) := if (kvs.any fun kv => keyIs i kv.1) = true then kvs.map (fun kv => if keyIs i kv.1 = true then (kv.1, v) else kv) else kvs ++ [(.int i, v)]
/-- dicts whose keys are tuples: marked by a first entry -/
def tkD (kvs : List (D × D)) : D := .dict ((.bool true, .none) :: kvs)
def tkOf : List (D × D) → Option (List (D × D))
  | (.bool true, .none) :: r => some r
  | _ => none
mutual
def kOf : D → Option NestedKey
  | .int i => some (.num i)
  | .tuple xs => (kOfs xs).map .tup
  | .none => none | .bool _ => none | .str _ => none | .list _ => none | .dict _ => none
def kOfs : List D → Option (List NestedKey)
  | [] => some []
  | x :: xs => match kOf x, kOfs xs with
    | some k, some ks => some (k :: ks)
    | _, _ => none
end
/-- a tuple that may be a key -/
def tkey (xs : List D) : Option NestedKey := match kOfs xs with
  | some ks => if (NestedKey.tup ks).depth ≤ 8 then some (.tup ks) else none
  | none => none
def tget (kvs : List (D × D)) (k : NestedKey) : Option D := (kvs.find? fun kv => decide (kOf kv.1 = some k)).map (·.2)
def tput (kvs : List (D × D)) (kd : D) (k : NestedKey) (v : D) : List (D × D) :=
  if (tget kvs k).isSome = true then kvs.map (fun kv => if kOf kv.1 = some k then (kv.1, v) else kv) else kvs ++ [(kd, v)]
def intsOf : List D → Option (List Int)
  | [] => some []
  | .int i :: r => (intsOf r).map (i :: ·)
  | _ :: _ => none
/-- len(set(..)) of whole numbers -/
def lsetD : D → Option EO
  | .list xs => match intsOf xs with
    | some ns => if ns.length ≤ 4000 then some (.ok .shr (.int ((ns.foldl PyProof.Rows.step_dedup []).length : Nat))) else none
    | none => none
  | _ => none
/-- how two ints go -/
def binD : BOp → D → D → Option EO
  | .add, .int i, .int j => some (.ok .shr (.int (i + j)))
  | .add, .tuple xs, .tuple ys => if xs.length + ys.length ≤ lim then some (.ok .shr (.tuple (xs ++ ys))) else none
  | .add, .list xs, .list ys => if xs.length + ys.length ≤ lim then some (.ok .frs (.list (xs ++ ys))) else none
  | .sub, .int i, .int j => some (.ok .shr (.int (i - j)))
  | .mul, .int i, .int j => if (-(2 ^ 64) < i ∧ i < 2 ^ 64) ∨ (-(2 ^ 64) < j ∧ j < 2 ^ 64) then some (.ok .shr (.int (i * j))) else none
  | .mul, .list xs, .int k => if k ≤ 1000 ∧ -1000 ≤ k ∧ xs.length * k.toNat ≤ lim then some (.ok .frs (.list (List.replicate k.toNat xs).flatten)) else none
  | .fdiv, .int i, .int j => if 0 < j ∧ j < 1073741824 then some (.ok .shr (.int (i / j))) else none
  | .mod, .int i, .int j => if 0 < j then some (.ok .shr (.int (i % j))) else none
  | .pow, .int i, .int j => if 0 ≤ j ∧ j ≤ 1000000 ∧ i.natAbs < 2 ^ 64 then some (.ok .shr (.int (i ^ j.toNat))) else none
  | _, _, _ => none
def cmpD : COp → D → D → Option Bool
  | .lt, .int i, .int j => some (decide (i < j))
  | .le, .int i, .int j => some (decide (i ≤ j))
  | .gt, .int i, .int j => some (decide (j < i))
  | .ge, .int i, .int j => some (decide (j ≤ i))
  | .eq, x, y => if SeqAt.shaped x = true ∧ SeqAt.shaped y = true then some (PyData.eqv x y) else none
  | .ne, x, y => if SeqAt.shaped x = true ∧ SeqAt.shaped y = true then some (!PyData.eqv x y) else none
  | .is, x, .none => some (isNone x)
  | .isn, x, .none => some (!isNone x)
  | .mem, x, .list ys => if SeqAt.shaped x = true ∧ SeqAt.shaped (.list ys) = true then some (ys.any fun z => PyData.eqv z x) else none
  | .nmem, x, .list ys => if SeqAt.shaped x = true ∧ SeqAt.shaped (.list ys) = true then some (!ys.any fun z => PyData.eqv z x) else none
  | .mem, x, .tuple ys => if flat x = true ∧ ys.all flat = true then some (ys.any fun z => PyData.eqv z x) else none
  | .nmem, x, .tuple ys => if flat x = true ∧ ys.all flat = true then some (!ys.any fun z => PyData.eqv z x) else none
  | .mem, .int i, .dict kvs => if realD kvs = true then some (dgetI kvs i).isSome else none
  | .nmem, .int i, .dict kvs => if realD kvs = true then some (!(dgetI kvs i).isSome) else none
  | .mem, .tuple xs, .dict kvs => match tkOf kvs, tkey xs with
    | some r, some k => some (tget r k).isSome
    | _, _ => none
  | .nmem, .tuple xs, .dict kvs => match tkOf kvs, tkey xs with
    | some r, some k => some (!(tget r k).isSome)
    | _, _ => none
  | _, _, _ => none
def tyD : D → TyN
  | .bool _ => .bool | .int _ => .int | .str _ => .str | .list _ => .list | .tuple _ => .tuple | .dict _ => .dict | .none => .dict
/-- whose type is asked: anything but the law's own list -/
def okTy : D → Bool
  | .dict (_ :: _) => false
  | _ => true
/-- isinstance -/
def isInst (d : D) (t : TyN) : Bool :=
  match d, t with
  | .bool _, .bool => true | .bool _, .int => true | .int _, .int => true | .str _, .str => true
  | .list _, .list => true | .tuple _, .tuple => true | .dict _, .dict => true
  | _, _ => false
def bools : List D → Option (List Bool)
  | [] => some []
  | .bool b :: r => (bools r).map (b :: ·)
  | _ :: _ => none
/-- the law's own list -/
def scrOf : List (D × D) → Option (List D)
  | (.none, .list xs) :: r => if r.isEmpty = true then some xs else none
  | _ => none
def fnD : B1 → D → Option EO
  | .len, .list xs => some (.ok .shr (.int xs.length))
  | .len, .tuple xs => some (.ok .shr (.int xs.length))
  | .len, .dict kvs => match scrOf kvs with
    | some xs => some (.ok .shr (.int xs.length))
    | none => (tkOf kvs).map fun r => .ok .shr (.int r.length)
  | .int, .int i => some (.ok .shr (.int i))
  | .int, .bool b => some (.ok .shr (.int (if b = true then 1 else 0)))
  | .str, .int i => if i.natAbs < 2 ^ 64 then some (.ok .shr (.str (toString i))) else none
  | .tup, .list xs => some (.ok .shr (.tuple xs))
  | .tup, .tuple xs => some (.ok .shr (.tuple xs))
  | .lst, .list xs => some (.ok .frs (.list xs))
  | .lst, .tuple xs => some (.ok .frs (.list xs))
  | .all, .list xs => (bools xs).map fun bs => .ok .shr (.bool (bs.all id))
  | _, _ => none
def idxD : D → D → Option D
  | .list xs, .int i => L2.atI xs i
  | .tuple xs, .int i => L2.atI xs i
  | .dict kvs, .int i => match scrOf kvs with
    | some xs => L2.atI xs i
    | none => if realD kvs = true then dgetI kvs i else none
  | .dict kvs, .tuple xs => match tkOf kvs, tkey xs with
    | some r, some k => tget r k
    | _, _ => none
  | _, _ => none
def cutD (xs : List D) (lo hi : Option Int) : List D := (xs.drop (HT.sIx xs.length 0 lo)).take (HT.sIx xs.length xs.length hi - HT.sIx xs.length 0 lo)
def slcD : D → Option Int → Option Int → Option EO
  | .list xs, lo, hi => some (.ok .frs (.list (cutD xs lo hi)))
  | .tuple xs, lo, hi => some (.ok .shr (.tuple (cutD xs lo hi)))
  | .dict kvs, lo, hi => (scrOf kvs).map fun xs => .ok .frs (.list (cutD xs lo hi))
  | _, _, _ => none
def rngD (n : Nat) : List D := (List.range n).map fun (k : Nat) => .int (k : Int)
def itemsD : D → Option (List D)
  | .list xs => some xs
  | .tuple xs => some xs
  | _ => none

/-! ### the evaluator -/
def bindV (r : Option EO) (f : Kd → D → Option EO) : Option EO :=
  match r with
  | some (.ok k d) => f k d
  | some (.ex c) => some (.ex c)
  | none => none
inductive AO | ok (xs : List (Kd × D)) | ex (c : Str)
def bindA (r : Option AO) (f : List (Kd × D) → Option EO) : Option EO :=
  match r with
  | some (.ok xs) => f xs
  | some (.ex c) => some (.ex c)
  | none => none
/-- one more at the front -/
def consA (r : Option EO) (f : Option AO) : Option AO :=
  match r with
  | some (.ok k d) =>
    match f with
    | some (.ok xs) => some (.ok ((k, d) :: xs))
    | some (.ex c) => some (.ex c)
    | none => none
  | some (.ex c) => some (.ex c)
  | none => none
def noBrw (xs : List (Kd × D)) : Bool := xs.all fun x => decide (x.1 ≠ .brw)
def okCall (xs : List (Kd × D)) (r : Option EO) : Option EO :=
  if noBrw xs = true then r else
  match r with
  | some (.ok .shr d) => if scalar d = true then some (.ok .shr d) else none
  | some (.ex c) => some (.ex c)
  | _ => none
/-- a test's answer -/
def boolV (r : Option EO) (f : Bool → Option EO) : Option EO :=
  match r with
  | some (.ok .shr (.bool b)) => f b
  | some (.ex c) => some (.ex c)
  | _ => none
def optI (r : Option (Option EO)) (f : Option Int → Option EO) : Option EO :=
  match r with
  | none => f none
  | some (some (.ok .shr (.int i))) => f (some i)
  | some (some (.ex c)) => some (.ex c)
  | some _ => none
/-- a comprehension's turns -/
def compGo (tt : D → Option Bool) (te : D → Option D) : List D → Option (List D)
  | [] => some []
  | d :: ds =>
    match tt d with
    | some true =>
      match te d with
      | some y => (compGo tt te ds).map (y :: ·)
      | none => none
    | some false => compGo tt te ds
    | none => none
def asD (r : Option EO) : Option D :=
  match r with
  | some (.ok .shr d) => some d
  | some (.ok .frs d) => some d
  | _ => none
def asB (r : Option EO) : Option Bool :=
  match r with
  | some (.ok .shr (.bool b)) => some b
  | _ => none
def tests (rs : List (Option EO)) : Option Bool :=
  match rs with
  | [] => some true
  | [r] => asB r
  | _ => none
def sized (o : Option (List D)) : Option EO :=
  match o with
  | some ys => if ys.length ≤ lim then some (.ok .frs (.list ys)) else none
  | none => none

section
variable (Φ : Str → List D → Option EO)
mutual
def evE : E → Ev → Option EO
  | .var i, st => match st[i]? with
    | some (some (true, d)) => some (.ok .brw d)
    | some (some (false, d)) => some (.ok .shr d)
    | _ => none
  | .non, _ => some (.ok .shr .none)
  | .bl b, _ => some (.ok .shr (.bool b))
  | .int i, _ => some (.ok .shr (.int i))
  | .str s, _ => some (.ok .shr (.str s))
  | .glb _ i, _ => some (.ok .shr (.int i))
  | .bin op a b, st => bindV (evE a st) fun _ x => bindV (evE b st) fun _ y => binD op x y
  | .neg a, st => bindV (evE a st) fun _ x => match x with | .int i => some (.ok .shr (.int (-i))) | _ => none
  | .cmp op a b, st => bindV (evE a st) fun _ x => bindV (evE b st) fun _ y => (cmpD op x y).map fun b => .ok .shr (.bool b)
  | .chn o p a b c, st => bindV (evE a st) fun _ x => bindV (evE b st) fun _ y =>
      match cmpD o x y with
      | some true => bindV (evE c st) fun _ z => (cmpD p y z).map fun b => .ok .shr (.bool b)
      | some false => some (.ok .shr (.bool false))
      | none => none
  | .and es, st => evAnd es st
  | .or es, st => evOr es st
  | .not a, st => boolV (evE a st) fun b => some (.ok .shr (.bool (!b)))
  | .ife c a b, st => boolV (evE c st) fun t => if t = true then evE a st else evE b st
  | .idx a i, st => bindV (evE a st) fun _ x => bindV (evE i st) fun _ y => (idxD x y).map fun d => .ok .shr d
  | .slc a lo hi, st => bindV (evE a st) fun _ x => optI (evO lo st) fun l => optI (evO hi st) fun h => slcD x l h
  | .tup es, st => bindA (evL es st) fun xs => if noBrw xs = true ∧ xs.length ≤ lim then some (.ok .shr (.tuple (xs.map (·.2)))) else none
  | .lst es, st => bindA (evL es st) fun xs => if noBrw xs = true ∧ xs.length ≤ lim then some (.ok .frs (.list (xs.map (·.2)))) else none
  | .dic, _ => some (.ok .frs (.dict []))
  | .dicT, _ => some (.ok .frs (tkD []))
  | .lset a, st => bindV (evE a st) fun _ x => lsetD x
  | .fn f a, st => bindV (evE a st) fun _ x => fnD f x
  | .isi a t, st => bindV (evE a st) fun _ x => if okTy x = true then some (.ok .shr (.bool (isInst x t))) else none
  | .isis a ts, st => bindV (evE a st) fun _ x => if okTy x = true ∧ ts.length ≤ lim then some (.ok .shr (.bool (ts.any fun t => isInst x t))) else none
  | .lrg a, st => bindV (evE a st) fun _ x => match x with
    | .int n => if n ≤ 1000000 ∧ -1000000 ≤ n then some (.ok .frs (.list (rngD n.toNat))) else none
    | _ => none
  | .call f es, st => match evL es st with
    | some (.ok xs) => okCall xs (Φ f (xs.map (·.2)))
    | _ => none
  | .callAt fs i es, st => match evE i st with
    | some (.ok _ (.int j)) => match L2.atI fs j with
      | some f => match evL es st with
        | some (.ok xs) => if noBrw xs = true ∧ fs.length ≤ lim ∧ (fs.all fun g => (Φ g (xs.map (·.2))).isSome) = true then Φ f (xs.map (·.2)) else none
        | _ => none
      | none => none
    | _ => none
  | .cmpL x i src ifs, st => bindV (evE src st) fun _ d => match itemsD d with
    | some ds => sized (compGo (fun d => tests (evB ifs (st.set i (some (false, d))))) (fun d => asD (evE x (st.set i (some (false, d))))) ds)
    | none => none
  | .cmpR x i n ifs, st => bindV (evE n st) fun _ d => match d with
    | .int n => if n ≤ 1000000 ∧ -1000000 ≤ n then sized (compGo (fun d => tests (evB ifs (st.set i (some (false, d))))) (fun d => asD (evE x (st.set i (some (false, d))))) (rngD n.toNat)) else none
    | _ => none
def evL : List E → Ev → Option AO
  | [], _ => some (.ok [])
  | e :: es, st => consA (evE e st) (evL es st)
def evB : List E → Ev → List (Option EO)
  | [], _ => []
  | e :: es, st => evE e st :: evB es st
def evAnd : List E → Ev → Option EO
  | [], _ => none
  | [e], st => evE e st
  | e :: e2 :: es, st => boolV (evE e st) fun b => if b = true then evAnd (e2 :: es) st else some (.ok .shr (.bool false))
def evOr : List E → Ev → Option EO
  | [], _ => none
  | [e], st => evE e st
  | e :: e2 :: es, st => boolV (evE e st) fun b => if b = true then some (.ok .shr (.bool true)) else evOr (e2 :: es) st
def evO : Option E → Ev → Option (Option EO)
  | none, _ => none
  | some e, st => some (evE e st)
end
end

/-! ### statements -/
def setV (st : Ev) (i : Nat) (k : Kd) (d : D) : Option SO :=
  match k with
  | .shr => some (.nx (st.set i (some (false, d))))
  | .frs => some (.nx (st.set i (some (true, d))))
  | .brw => none
def onV (r : Option EO) (f : Kd → D → Option SO) : Option SO :=
  match r with
  | some (.ok k d) => f k d
  | some (.ex c) => some (.ex c)
  | none => none
def onB (r : Option EO) (f : Bool → Option SO) : Option SO :=
  match r with
  | some (.ok .shr (.bool b)) => f b
  | some (.ex c) => some (.ex c)
  | _ => none
def setAll : List Nat → List D → Ev → Option Ev
  | [], [], st => some st
  | i :: is, d :: ds, st => setAll is ds (st.set i (some (false, d)))
  | _, _, _ => none
/-- what a slot's own list becomes -/
def onOwn (st : Ev) (i : Nat) (f : List D → Option (List D)) : Option SO :=
  match st[i]? with
  | some (some (true, .list ds)) => (f ds).map fun ys => .nx (st.set i (some (true, .list ys)))
  | _ => none
/-- the slot holds a list of its own -/
def guardO (st : Ev) (i : Nat) (r : Option SO) : Option SO :=
  match st[i]? with
  | some (some (true, .list _)) => r
  | _ => none
def guardD (st : Ev) (i : Nat) (r : Option SO) : Option SO :=
  match st[i]? with
  | some (some (true, .dict _)) => r
  | _ => none
def thenS (r : Option SO) (f : Ev → Option SO) : Option SO :=
  match r with
  | some (.nx st) => f st
  | o => o
def forGo (f : D → Ev → Option SO) : List D → Ev → Option SO
  | [], st => some (.nx st)
  | d :: ds, st => thenS (f d st) (forGo f ds)
def hvSO : HV → SO
  | .b x => .rt .shr (.bool x)
  | .l xs => .rt .frs (.list (xs.map PyData.str))
def whlGo (c : Ev → Option EO) (f : Ev → Option SO) : Nat → Ev → Option SO
  | 0, _ => none
  | n + 1, st => onB (c st) fun b => if b = true then thenS (f st) (whlGo c f n) else some (.nx st)

section
variable (Φ : Str → List D → Option EO) (fu : Nat)
mutual
def evS : S → Ev → Option SO
  | .set i e, st => onV (evE Φ e st) fun k d => setV st i k d
  | .setT is e, st => onV (evE Φ e st) fun k d => match k, d with
    | .shr, .tuple ds => (setAll is ds st).map .nx
    | _, _ => none
  | .setI i k e, st => guardO st i (onV (evE Φ e st) fun ke d => if ke = .brw then none else onV (evE Φ k st) fun _ j => match j with
    | .int j => onOwn st i fun ds => (L2.ixN ds.length j).map fun m => ds.set m d
    | _ => none)
  | .dput i k e, st => guardD st i (onV (evE Φ e st) fun ke d => if ke = .brw then none else onV (evE Φ k st) fun _ j => match j, st[i]? with
    | .int j, some (some (true, .dict kvs)) => if kvs.length < lim ∧ realD kvs = true then some (.nx (st.set i (some (true, .dict (dputI kvs j d))))) else none
    | .tuple xs, some (some (true, .dict kvs)) => match tkOf kvs, tkey xs with
      | some r, some k => if r.length < lim then some (.nx (st.set i (some (true, tkD (tput r (.tuple xs) k d))))) else none
      | _, _ => none
    | _, _ => none)
  | .app i e, st => guardO st i (onV (evE Φ e st) fun k d => if k = .brw then none else onOwn st i fun ds => if ds.length < lim then some (ds ++ [d]) else none)
  | .ins i k e, st => guardO st i (onV (evE Φ k st) fun _ j => onV (evE Φ e st) fun ke d => if ke = .brw then none else match j with
    | .int j => if 0 ≤ j ∧ j < 2 ^ 62 then onOwn st i fun ds => if ds.length < lim then some (ds.take j.toNat ++ [d] ++ ds.drop j.toNat) else none else none
    | _ => none)
  | .ext i e, st => guardO st i (onV (evE Φ e st) fun k d => if k = .brw then none else match d with
    | .list ys => onOwn st i fun ds => if ds.length + ys.length ≤ lim then some (ds ++ ys) else none
    | _ => none)
  | .clr i, st => onOwn st i fun _ => some []
  | .frz i, st => match st[i]? with
    | some (some (_, d)) => some (.nx (st.set i (some (false, d))))
    | _ => none
  | .ite c a b, st => onB (evE Φ c st) fun t => if t = true then evSs a st else evSs b st
  | .for i src b, st => onV (evE Φ src st) fun k d => if k = .brw then none else match itemsD d with
    | some ds => forGo (fun d st => evSs b (st.set i (some (false, d)))) ds st
    | none => none
  | .forR i n b, st => onV (evE Φ n st) fun _ d => match d with
    | .int n => if n ≤ 1000000 ∧ -1000000 ≤ n then forGo (fun d st => evSs b (st.set i (some (false, d)))) (rngD n.toNat) st else none
    | _ => none
  | .forT is src b, st => onV (evE Φ src st) fun k d => if k = .brw then none else match itemsD d with
    | some ds => forGo (fun d st => match d with
      | .tuple xs => match setAll is xs st with
        | some st => evSs b st
        | none => none
      | _ => none) ds st
    | none => none
  | .whl c b, st => whlGo (evE Φ c) (evSs b) fu st
  | .ret e, st => onV (evE Φ e st) fun k d => if k = .brw then (match e with | .var _ => some (.rt .frs d) | _ => none) else some (.rt k d)
  | .retN, _ => some (.rt .shr .none)
  | .exp e, st => onV (evE Φ e st) fun _ _ => some (.nx st)
  | .rai c, _ => some (.ex c)
  | .tryC _ e cs hs r, st => match evE Φ e st with
    | some (.ok _ _) => some (.nx st)
    | some (.ex c) => if c ∈ cs then (evHs c [] hs r).map hvSO else none
    | none => none
def evSs : List S → Ev → Option SO
  | [], st => some (.nx st)
  | s :: ss, st => thenS (evS s st) (evSs ss)
end
end

/-! ### defs -/
structure DefI where
  np : Nat
  nm : List Str
  body : List S
def start (d : DefI) (ds : List D) : Ev := ds.map (fun x => some (false, x)) ++ List.replicate (d.nm.length - ds.length) none
def outcome (r : Option SO) : Option EO :=
  match r with
  | some (.nx _) => some (.ok .shr .none)
  | some (.rt .brw _) => none
  | some (.rt k d) => some (.ok k d)
  | some (.ex c) => some (.ex c)
  | none => none
def runD (Φ : Str → List D → Option EO) (fu : Nat) (d : DefI) (ds : List D) : Option EO :=
  if ds.length = d.np then outcome (evSs Φ fu d.body (start d ds)) else none
/-- a table of defs, called n deep -/
def run (tab : List (Str × DefI)) (fu : Nat) : Nat → Str → List D → Option EO
  | 0, _, _ => none
  | n + 1, f, ds => match tab.lookup f with
    | some d => runD (run tab fu n) fu d ds
    | none => none

/-! ### the checker -/
def visB (sc : Scope) (x : Str) : Bool := match sc.names.lookup x with
  | some .local => true | some .cell => true | some .free => true
  | _ => false
def locB (sc : Scope) (x : Str) : Bool := match sc.names.lookup x with
  | some .local => true | some .cell => true
  | _ => false
def glB (sc : Scope) (x : Str) : Bool := decide (sc.names.lookup x = some .globalImplicit)
def plainName (x : Str) : Bool := !(x == ("__debug__" : Str)) && !(x == ("__classdict__" : Str)) && !(x == ("__name__" : Str))
def rdB (N : List Str) (sc : Scope) (x : Str) (i : Nat) : Bool := decide (N[i]? = some x) && visB sc x && plainName x
def wrB (N : List Str) (sc : Scope) (x : Str) (i : Nat) : Bool := decide (N[i]? = some x) && locB sc x
def bopB : Operator → BOp → Bool
  | .Add, .add => true | .Sub, .sub => true | .Mult, .mul => true | .FloorDiv, .fdiv => true | .Mod, .mod => true | .Pow, .pow => true
  | _, _ => false
def copB : CmpOp → COp → Bool
  | .Eq, .eq => true | .NotEq, .ne => true | .Lt, .lt => true | .LtE, .le => true | .Gt, .gt => true | .GtE, .ge => true | .Is, .is => true | .IsNot, .isn => true
  | .In, .mem => true | .NotIn, .nmem => true
  | _, _ => false
def tyName : TyN → String
  | .int => "int" | .bool => "bool" | .str => "str" | .list => "list" | .tuple => "tuple" | .dict => "dict"
def b1Name : B1 → String
  | .len => "len" | .int => "int" | .str => "str" | .tup => "tuple" | .lst => "list" | .all => "all"
def isC : Expr → Const → Bool
  | .Constant c _ _, k => decide (c = k)
  | _, _ => false
/-- a name of the top: a built-in or a def -/
def isG (sc : Scope) (e : Expr) (x : Str) : Bool := match e with
  | .Name y _ => decide (y = x) && glB sc y && plainName y
  | _ => false
def isTys (sc : Scope) : List Expr → List TyN → Bool
  | [], [] => true
  | e :: es, t :: ts => isG sc e (Str.ofString (tyName t)) && isTys sc es ts
  | _, _ => false
/-- not a literal set: so `in` and a loop's iterable are plain -/
def notSet : Expr → Bool
  | .Set _ _ _ => false
  | _ => true

/-- the names' places, the top's constants -/
structure Cc where
  N : List Str
  cs : List (Str × Int)
  hc : List Str
  ht : List Str
/-- names of defs -/
def isFs (sc : Scope) : List Str → List Expr → Bool
  | [], [] => true
  | f :: fs, e :: es => isG sc e f && isFs sc fs es
  | _, _ => false
mutual
def mE (c : Cc) (sc : Scope) : E → Expr → Bool
  | .var i, .Name x _ => rdB c.N sc x i
  | .non, .Constant .none _ _ => true
  | .bl b, .Constant (.bool b') _ _ => b == b'
  | .int i, .Constant (.int j) _ _ => decide (i = j)
  | .str s, .Constant (.str t) _ _ => decide (s = t)
  | .glb x i, .Name y _ => decide (x = y) && glB sc y && plainName y && decide ((x, i) ∈ c.cs)
  | .bin op a b, .BinOp e o f _ => bopB o op && mE c sc a e && mE c sc b f
  | .neg a, .UnaryOp .USub e _ => mE c sc a e
  | .cmp op a b, .Compare e [o] [f] _ => copB o op && mE c sc a e && mE c sc b f
  | .chn o p a b d, .Compare e [o', p'] [f, g] _ => copB o' o && copB p' p && mE c sc a e && mE c sc b f && mE c sc d g
  | .and es, .BoolOp .And vs _ => mL c sc es vs
  | .or es, .BoolOp .Or vs _ => mL c sc es vs
  | .not a, .UnaryOp .Not e _ => mE c sc a e
  | .ife d a b, .IfExp ce ae be _ => mE c sc d ce && mE c sc a ae && mE c sc b be
  | .slc a lo hi, .Subscript e (.Slice l h none _) _ => mE c sc a e && mO c sc lo l && mO c sc hi h
  | .idx a i, .Subscript e j _ => mE c sc a e && mE c sc i j
  | .tup es, .Tuple vs _ _ => mL c sc es vs
  | .lst es, .List vs _ => mL c sc es vs
  | .dic, .Dict [] [] _ => true
  | .fn f a, .Call g [e] [] _ => isG sc g (Str.ofString (b1Name f)) && mE c sc a e
  | .isi a t, .Call g [e, f] [] _ => isG sc g "isinstance" && mE c sc a e && isG sc f (Str.ofString (tyName t))
  | .isis a ts, .Call g [e, .Tuple fs _ _] [] _ => isG sc g "isinstance" && mE c sc a e && isTys sc fs ts
  | .dicT, .Dict [] [] _ => true
  | .lset a, .Call g [.Call h [e] [] _] [] _ => isG sc g "len" && isG sc h "set" && mE c sc a e
  | .lrg a, .Call g [.Call h [e] [] _] [] _ => isG sc g "list" && isG sc h "range" && mE c sc a e
  | .call f es, .Call g (v :: vs) [] _ => isG sc g f && mL c sc es (v :: vs)
  | .callAt fs i es, .Call (.Subscript (.List ns _) j _) (v :: vs) [] _ => isFs sc fs ns && mE c sc i j && mL c sc es (v :: vs)
  | .cmpR x i n ifs, .ListComp elt [⟨.Name y _, .Call g [it] [] _, cs, 0⟩] scope _ => isG sc g "range" && mE c sc n it && L2.blkC c.N sc scope [(y, i)] && locB scope y && mE c (L2.relS scope sc) x elt && mL c (L2.relS scope sc) ifs cs && decide (ifs.length ≤ 1)
  | .cmpL x i src ifs, .ListComp elt [⟨.Name y _, it, cs, 0⟩] scope _ => mE c sc src it && L2.blkC c.N sc scope [(y, i)] && locB scope y && mE c (L2.relS scope sc) x elt && mL c (L2.relS scope sc) ifs cs && decide (ifs.length ≤ 1)
  | _, _ => false
def mL (c : Cc) (sc : Scope) : List E → List Expr → Bool
  | [], [] => true
  | e :: es, v :: vs => mE c sc e v && mL c sc es vs
  | _, _ => false
def mO (c : Cc) (sc : Scope) : Option E → Option Expr → Bool
  | none, none => true
  | some e, some v => mE c sc e v
  | _, _ => false
end
/-- no comprehension (its value may be swapped into its target), no tuple -/
def noComp : Expr → Bool
  | .ListComp _ _ _ _ => false
  | .SetComp _ _ _ _ => false
  | .DictComp _ _ _ _ _ => false
  | _ => true
def noTup : Expr → Bool
  | .Tuple _ _ _ => false
  | e => noComp e
def namesB (N : List Str) (sc : Scope) : List Nat → List Expr → Bool
  | [], [] => true
  | i :: is, .Name x _ :: es => wrB N sc x i && namesB N sc is es
  | _, _ => false
/-- the name's own list, and a method of it -/
def recv (c : Cc) (sc : Scope) (i : Nat) (m : Str) : Expr → Pos → Bool
  | .Attribute (.Name x _) n apos, pos => rdB c.N sc x i && decide (n = m) && (apos.endLine == pos.line)
  | _, _ => false
/-- a class of its own that a suite may name -/
def isN (c : Cc) (sc : Scope) (d : Str) : Expr → Bool
  | .Name y _ => decide (y = d) && glB sc y && plainName y && decide (d ∈ c.ht)
  | _ => false
def isNs (c : Cc) (sc : Scope) : List Str → List Expr → Bool
  | [], [] => true
  | d :: ds, e :: es => isN c sc d e && isNs c sc ds es
  | _, _ => false
def mH (c : Cc) (sc : Scope) (i : Nat) : HX → Expr → Bool
  | .isE d, .Call g [.Name x _, k] [] _ => isG sc g "isinstance" && rdB c.N sc x i && isN c sc d k
  | .isV, .Call g [.Name x _, k] [] _ => isG sc g "isinstance" && rdB c.N sc x i && isG sc k "ValueError"
  | .isEs ds, .Call g [.Name x _, .Tuple ks _ _] [] _ => isG sc g "isinstance" && rdB c.N sc x i && isNs c sc ds ks && decide (ds.length ≤ 1000)
  | .var j, .Name x _ => rdB c.N sc x j
  | .not a, .UnaryOp .Not e _ => mH c sc i a e
  | .and3 x y z, .BoolOp .And [a, b, d] _ => mH c sc i x a && mH c sc i y b && mH c sc i z d
  | .rep s a, .BinOp (.List [.Constant (.str t) _ _] _) .Mult (.Call g [e] [] _) _ => decide (s = t) && isG sc g "int" && mH c sc i a e
  | .add a b, .BinOp e .Add f _ => mH c sc i a e && mH c sc i b f
  | _, _ => false
def mHs (c : Cc) (sc : Scope) (i : Nat) : List (Nat × HX) → HX → List Stmt → Bool
  | [], r, [.Return (some e) _] => mH c sc i r e
  | (j, h) :: hs, r, .Assign [.Name x _] v _ :: ss => wrB c.N sc x j && decide (j ≠ i) && noComp v && mH c sc i h v && mHs c sc i hs r ss
  | _, _, _ => false
mutual
def mS (c : Cc) (sc : Scope) : S → Stmt → Bool
  | .set i e, .Assign [.Name x px] v _ => wrB c.N sc x i && mE c sc e v && (noComp v ||
      (match v with
      | .ListComp _ _ scope vp => decide (sc.names.lookup x = some .local) && (px.line == vp.line) && !(scope.names.any fun (n, k) => n == x && (k == .local || k == .cell))
      | _ => false))
  | .setT is e, .Assign [.Tuple ts _ _] v _ => namesB c.N sc is ts && mE c sc e v && noTup v
  | .setI i k e, .Assign [.Subscript (.Name x _) j _] v _ => rdB c.N sc x i && mE c sc k j && mE c sc e v && noComp v
  | .dput i k e, .Assign [.Subscript (.Name x _) j _] v _ => rdB c.N sc x i && mE c sc k j && mE c sc e v && noComp v
  | .app i e, .Expr (.Call f [a] [] p) _ => recv c sc i "append" f p && mE c sc e a
  | .ins i k e, .Expr (.Call f [b, a] [] p) _ => recv c sc i "insert" f p && mE c sc k b && mE c sc e a
  | .ext i e, .Expr (.Call f [a] [] p) _ => recv c sc i "extend" f p && mE c sc e a
  | .clr i, .Expr (.Call f [] [] p) _ => recv c sc i "clear" f p
  | .ite d a b, .If t x y _ => mE c sc d t && mSs c sc a x && mSs c sc b y
  | .for i src b, .For (.Name x _) it body [] _ => wrB c.N sc x i && mE c sc src it && mSs c sc b body
  | .forR i n b, .For (.Name x _) (.Call g [it] [] _) body [] _ => wrB c.N sc x i && isG sc g "range" && mE c sc n it && mSs c sc b body
  | .forT is src b, .For (.Tuple ts _ _) it body [] _ => namesB c.N sc is ts && mE c sc src it && mSs c sc b body
  | .whl d b, .While t body [] _ => mE c sc d t && mSs c sc b body
  | .ret e, .Return (some v) _ => mE c sc e v
  | .retN, .Return none _ => true
  | .exp e, .Expr v _ => mE c sc e v && noComp v
  | .rai x, .Raise (some (.Call f [.Constant (.str _) _ _] [] _)) none _ => isG sc f x
  | .tryC i e cs hs r, .Try [.Expr v _] [.ExceptHandler (some (.Name y _)) (some n) suite _] [] [] _ =>
    mE c sc e v && noComp v && decide (y = ("SwapError" : Str)) && glB sc y && decide (("SwapError" : Str) ∈ c.ht) && decide (c.N[i]? = some n) && decide (sc.names.lookup n = some .local) && cs.all (fun d => decide (d ∈ c.hc)) && mHs c sc i hs r suite
  | _, _ => false
def mSs (c : Cc) (sc : Scope) : List S → List Stmt → Bool
  | [], [] => true
  | .frz _ :: ss, sts => mSs c sc ss sts
  | s :: ss, st :: sts => mS c sc s st && mSs c sc ss sts
  | _, _ => false
end
end Dv

/-! Dv, part B0: dicts whose keys are tuples, as things of the heap. -/
namespace Dv
open PySem PySem.Spec PyProof.Rows L2

mutual
def h0 : NestedKey → Int
  | .none => 0
  | .num i => hashInt i
  | .text _ => 0
  | .tup ks => reduceHash (Builtin.Tuple.tupleHashOf (h0s ks))
def h0s : List NestedKey → List Int
  | [] => []
  | k :: ks => h0 k :: h0s ks
end
mutual
def noText : NestedKey → Bool
  | .none => false
  | .num _ => true
  | .text _ => false
  | .tup ks => noTexts ks
def noTexts : List NestedKey → Bool
  | [] => true
  | k :: ks => noText k && noTexts ks
end
mutual
theorem h0_eq (w : World) : ∀ k : NestedKey, noText k = true → k.hash w = h0 k
  | .none, h => by simp [noText] at h
  | .num i, _ => rfl
  | .text _, h => by simp [noText] at h
  | .tup ks, h => by
    rw [noText] at h
    rw [NestedKey.hash, h0, h0s_eq w ks h]
theorem h0s_eq (w : World) : ∀ ks : List NestedKey, noTexts ks = true → NestedKey.hashes w ks = h0s ks
  | [], _ => rfl
  | k :: ks, h => by
    rw [noTexts, Bool.and_eq_true] at h
    rw [NestedKey.hashes, h0s, h0_eq w k h.1, h0s_eq w ks h.2]
end
mutual
theorem kOf_text : ∀ (d : D) (k : NestedKey), kOf d = some k → noText k = true
  | .int i, k, h => by simp only [kOf, Option.some.injEq] at h; subst h; rfl
  | .tuple xs, k, h => by
    simp only [kOf, Option.map_eq_some_iff] at h
    obtain ⟨ks, h1, rfl⟩ := h
    exact kOfs_text xs ks h1
  | .none, k, h => by simp [kOf] at h
  | .bool _, k, h => by simp [kOf] at h
  | .str _, k, h => by simp [kOf] at h
  | .list _, k, h => by simp [kOf] at h
  | .dict _, k, h => by simp [kOf] at h
theorem kOfs_text : ∀ (ds : List D) (ks : List NestedKey), kOfs ds = some ks → noTexts ks = true
  | [], ks, h => by simp only [kOfs, Option.some.injEq] at h; subst h; rfl
  | d :: ds, ks, h => by
    rw [kOfs] at h
    split at h
    · rename_i k ks' h1 h2
      cases h
      rw [noTexts, kOf_text d k h1, kOfs_text ds ks' h2]
      rfl
    · cases h
end
theorem tkey_all {xs : List D} {k : NestedKey} (h : tkey xs = some k) : kOf (.tuple xs) = some k ∧ k.depth ≤ 8 := by
  unfold tkey at h
  split at h
  · rename_i ks e
    split at h
    · rename_i hd
      cases h
      exact ⟨by rw [kOf, e]; rfl, hd⟩
    · cases h
  · cases h
abbrev Kx := NestedKey × Addr × Value
/-- at a stands a dict with these entries -/
def kxP (a : Addr) (xs : List Kx) (h : Heap) : Prop :=
  ∃ o es ep, h.get? a = some o ∧ o.ExactDict ∧ o.data = .dict es ep ∧ es.toList = xs.map (fun x => (⟨h0 x.1, .ref x.2.1, x.2.2⟩ : DictEntry)) ∧ (xs.map (·.1)).Nodup ∧
    (a == sysModules) = false ∧ xs.length ≤ sizeLine ∧ ∀ x ∈ xs, noText x.1 = true ∧ x.1.depth ≤ 8
def kxO (a : Addr) (xs : List Kx) : HO := .ext (kxP a xs)
section
variable {P : Program} {w : World} {H : Hp} {h : Heap} {a : Addr} {xs : List Kx}
theorem kxO_ok (k : kxP a xs h) : ObjOk P w H h a (kxO a xs) := by
  refine ⟨k, ?_, fun h1 h2 p q => ?_⟩
  · obtain ⟨o, _, _, e, _⟩ := k
    exact ⟨o, e⟩
  · obtain ⟨o, es, ep, e, r⟩ := p
    exact ⟨o, es, ep, q o e, r⟩
theorem kxO_of (k : ObjOk P w H h a (kxO a xs)) : kxP a xs h := k.1
theorem kx_entries : ∀ {xs : List Kx}, (∀ x ∈ xs, noText x.1 = true ∧ x.1.depth ≤ 8) → xs.map (fun x => (⟨h0 x.1, .ref x.2.1, x.2.2⟩ : DictEntry)) = xs.map (entryOfKey (nestedKind P w))
  | [], _ => rfl
  | x :: xs, h => by
    rw [List.map_cons, List.map_cons, kx_entries fun y hy => h y (List.mem_cons_of_mem _ hy)]
    congr 1
    have := h0_eq w x.1 (h x (List.mem_cons_self ..)).1
    show (⟨h0 x.1, .ref x.2.1, x.2.2⟩ : DictEntry) = ⟨x.1.hash w, .ref x.2.1, x.2.2⟩
    rw [this]
theorem kx_dict (k : kxP a xs h) (hk : ∀ x ∈ xs, NestedIs h x.1 (.ref x.2.1)) : h.DictOfH (nestedKind P w) a xs := by
  obtain ⟨o, es, ep, h1, h2, h3, h4, h5, _, _, h6⟩ := k
  exact ⟨o, es, ep, h1, h2, h3, h4.trans (kx_entries h6), fun x hx => ⟨hk x hx, (h6 x hx).2⟩, h5⟩
theorem kx_back (k : h.DictOfH (nestedKind P w) a xs) (hs : (a == sysModules) = false) (hl : xs.length ≤ sizeLine) (h6 : ∀ x ∈ xs, noText x.1 = true ∧ x.1.depth ≤ 8) : kxP a xs h := by
  obtain ⟨o, es, ep, h1, h2, h3, h4, _, h5⟩ := k
  exact ⟨o, es, ep, h1, h2, h3, h4.trans (kx_entries h6).symm, h5, hs, hl, h6⟩
end
end Dv

/-! Dv, part B: how data lies in the heap; the state's relation; readings as wishes. -/
namespace Dv
open PySem PySem.Spec PyProof.Rows L2

/-! ### data in a heap -/
/-- the law's own list of numbers, told apart from all others: it is read alone -/
def scrD (ns : List Int) : D := .dict [(.none, .list (ns.map PyData.int))]
mutual
inductive Rp (κ : PySem.W.Frag) (F : Hp) : V → D → Prop
  | non : Rp κ F .non .none
  | bl (b : Bool) : Rp κ F (.bl b) (.bool b)
  | int (i : Int) : Rp κ F (.int i) (.int i)
  | str (x : Str) : Rp κ F (.str x) (.str x)
  | lst {a : Addr} {xs : List V} {ds : List D} : F a = some (.lst xs) → Rps κ F xs ds → Rp κ F (.ref a) (.list ds)
  | tup {a : Addr} {xs : List V} {ds : List D} : F a = some (.tup xs) → Rps κ F xs ds → Rp κ F (.ref a) (.tuple ds)
  | dic {a : Addr} {ks : List (Key × V)} {kvs : List (D × D)} : F a = some (.dK ks) → Rpk κ F ks kvs → Rp κ F (.ref a) (.dict kvs)
  | scr {a : Addr} {ns : List Int} : SqL κ F a (ns.map V.int) → Rp κ F (.ref a) (scrD ns)
  | tk {a : Addr} {xs : List Kx} {kvs : List (D × D)} : F a = some (kxO a xs) → Rpx κ F xs kvs → Rp κ F (.ref a) (tkD kvs)
inductive Rpx (κ : PySem.W.Frag) (F : Hp) : List Kx → List (D × D) → Prop
  | nil : Rpx κ F [] []
  | cons {nk : NestedKey} {ka : Addr} {val : Value} {v : V} {kd d : D} {xs : List Kx} {kvs : List (D × D)} : kOf kd = some nk → nk.depth ≤ 8 → Rp κ F (.ref ka) kd → RelV v val → Rp κ F v d → Rpx κ F xs kvs → Rpx κ F ((nk, ka, val) :: xs) ((kd, d) :: kvs)
inductive Rps (κ : PySem.W.Frag) (F : Hp) : List V → List D → Prop
  | nil : Rps κ F [] []
  | cons {v : V} {vs : List V} {d : D} {ds : List D} : Rp κ F v d → Rps κ F vs ds → Rps κ F (v :: vs) (d :: ds)
inductive Rpk (κ : PySem.W.Frag) (F : Hp) : List (Key × V) → List (D × D) → Prop
  | nil : Rpk κ F [] []
  | cons {k : Int} {v : V} {ks : List (Key × V)} {d : D} {kvs : List (D × D)} : Rp κ F v d → Rpk κ F ks kvs → Rpk κ F ((.inl k, v) :: ks) ((.int k, d) :: kvs)
end
def Sub (F H : Hp) : Prop := ∀ a o, F a = some o → H a = some o
theorem Sub.refl (F : Hp) : Sub F F := fun _ _ h => h
theorem Sub.trans {F G H : Hp} (a : Sub F G) (b : Sub G H) : Sub F H := fun x o h => b x o (a x o h)
theorem Sub.rd {F H : Hp} (h : Sub F H) {a : Addr} {u : HO} (r : Rd F a u) : Rd H a u := by
  rcases r with r | ⟨o, r⟩
  · exact .inl (h _ _ r)
  · exact .inr ⟨o, h _ _ r⟩
theorem Sub.sq {κ : PySem.W.Frag} {F H : Hp} (h : Sub F H) {a : Addr} {xs : List V} (r : SqL κ F a xs) : SqL κ H a xs := by
  rcases r with r | r
  · exact .inl (h.rd r)
  · exact .inr r
theorem Sub.none {F H : Hp} (h : Sub F H) {a : Addr} (n : H a = Option.none) : F a = Option.none := by
  cases q : F a with
  | none => rfl
  | some o => rw [h a o q] at n; cases n
mutual
theorem Rp.mono' {κ : PySem.W.Frag} {F H : Hp} (s : Sub F H) : ∀ {v : V} {d : D}, Rp κ F v d → Rp κ H v d
  | _, _, .non => .non
  | _, _, .bl b => .bl b
  | _, _, .int i => .int i
  | _, _, .str x => .str x
  | _, _, .lst e r => .lst (s _ _ e) (Rps.mono' s r)
  | _, _, .tup e r => .tup (s _ _ e) (Rps.mono' s r)
  | _, _, .dic e r => .dic (s _ _ e) (Rpk.mono' s r)
  | _, _, .scr e => .scr (s.sq e)
  | _, _, .tk e r => .tk (s _ _ e) (Rpx.mono' s r)
theorem Rpx.mono' {κ : PySem.W.Frag} {F H : Hp} (s : Sub F H) : ∀ {xs : List Kx} {kvs : List (D × D)}, Rpx κ F xs kvs → Rpx κ H xs kvs
  | _, _, .nil => .nil
  | _, _, .cons a b c d e f => .cons a b (Rp.mono' s c) d (Rp.mono' s e) (Rpx.mono' s f)
theorem Rps.mono' {κ : PySem.W.Frag} {F H : Hp} (s : Sub F H) : ∀ {vs : List V} {ds : List D}, Rps κ F vs ds → Rps κ H vs ds
  | _, _, .nil => .nil
  | _, _, .cons a b => .cons (Rp.mono' s a) (Rps.mono' s b)
theorem Rpk.mono' {κ : PySem.W.Frag} {F H : Hp} (s : Sub F H) : ∀ {ks : List (Key × V)} {kvs : List (D × D)}, Rpk κ F ks kvs → Rpk κ H ks kvs
  | _, _, .nil => .nil
  | _, _, .cons a b => .cons (Rp.mono' s a) (Rpk.mono' s b)
end
theorem Rpk.keys {κ : PySem.W.Frag} {F : Hp} : ∀ {ks : List (Key × V)} {kvs : List (D × D)}, Rpk κ F ks kvs → realD kvs = true
  | _, _, .nil => rfl
  | _, _, .cons _ b => by
    have := b.keys
    unfold realD at this ⊢
    rw [List.all_cons, this]
    rfl
theorem Rpk.val {κ : PySem.W.Frag} {F : Hp} (i : Int) : ∀ {ks : List (Key × V)} {kvs : List (D × D)}, Rpk κ F ks kvs → (∃ v d, valV ks (Sum.inl i : Key) = some v ∧ dgetI kvs i = some d ∧ Rp κ F v d) ∨ (valV ks (Sum.inl i : Key) = none ∧ dgetI kvs i = none)
  | _, _, .nil => .inr ⟨rfl, rfl⟩
  | _, _, @Rpk.cons _ _ k v ks d kvs a b => by
    by_cases h : k = i
    · subst h
      exact .inl ⟨v, d, valV_pos rfl, by simp [dgetI, keyIs], a⟩
    · have e1 : valV ((Sum.inl k, v) :: ks) (Sum.inl i : Key) = valV ks (Sum.inl i : Key) := valV_neg (by simpa using h)
      have e2 : dgetI ((.int k, d) :: kvs) i = dgetI kvs i := by simp [dgetI, keyIs, h]
      rw [e1, e2]
      exact b.val i
theorem Rpk.anyK {κ : PySem.W.Frag} {F : Hp} (i : Int) : ∀ {ks : List (Key × V)} {kvs : List (D × D)}, Rpk κ F ks kvs → (ks.any fun kv => decide (kv.1 = (Sum.inl i : Key))) = kvs.any fun kv => keyIs i kv.1
  | _, _, .nil => rfl
  | _, _, .cons a b => by
    rw [List.any_cons, List.any_cons, b.anyK i]
    congr 1
    simp [keyIs]
theorem Rpk.mapK {κ : PySem.W.Frag} {F : Hp} (i : Int) {w : V} {e : D} (r : Rp κ F w e) : ∀ {ks : List (Key × V)} {kvs : List (D × D)}, Rpk κ F ks kvs → Rpk κ F (ks.map fun kv => if kv.1 = (Sum.inl i : Key) then (kv.1, w) else kv) (kvs.map fun kv => if keyIs i kv.1 = true then (kv.1, e) else kv)
  | _, _, .nil => .nil
  | _, _, @Rpk.cons _ _ k v ks d kvs a b => by
    rw [List.map_cons, List.map_cons]
    by_cases h : k = i
    · subst h
      simp only [keyIs, decide_true, if_true]
      exact .cons r (b.mapK k r)
    · have h2 : ¬ (Sum.inl k : Key) = Sum.inl i := by simpa using h
      simp only [keyIs, h, decide_false, Bool.false_eq_true, if_false, h2]
      exact .cons a (b.mapK i r)
theorem Rpk.snoc {κ : PySem.W.Frag} {F : Hp} {i : Int} {w : V} {e : D} (r : Rp κ F w e) : ∀ {ks : List (Key × V)} {kvs : List (D × D)}, Rpk κ F ks kvs → Rpk κ F (ks ++ [(Sum.inl i, w)]) (kvs ++ [(.int i, e)])
  | _, _, .nil => .cons r .nil
  | _, _, .cons a b => .cons a (b.snoc r)
theorem Rpk.put {κ : PySem.W.Frag} {F : Hp} {i : Int} {w : V} {e : D} (r : Rp κ F w e) {ks : List (Key × V)} {kvs : List (D × D)} (q : Rpk κ F ks kvs) : Rpk κ F (putK ks (Sum.inl i : Key) w) (dputI kvs i e) := by
  unfold putK dputI
  rw [q.anyK i]
  split
  · exact q.mapK i r
  · exact q.snoc r
theorem Rpx.length {κ : PySem.W.Frag} {F : Hp} : ∀ {xs : List Kx} {kvs : List (D × D)}, Rpx κ F xs kvs → xs.length = kvs.length
  | _, _, .nil => rfl
  | _, _, .cons _ _ _ _ _ b => by rw [List.length_cons, List.length_cons, b.length]
theorem Rpx.keys {κ : PySem.W.Frag} {F : Hp} : ∀ {xs : List Kx} {kvs : List (D × D)}, Rpx κ F xs kvs → ∀ x ∈ xs, noText x.1 = true ∧ x.1.depth ≤ 8
  | _, _, .nil, _, h => by simp at h
  | _, _, .cons a b _ _ _ r, x, h => by
    rcases List.mem_cons.mp h with rfl | h
    · exact ⟨kOf_text _ _ a, b⟩
    · exact r.keys x h
theorem Rpx.get {κ : PySem.W.Frag} {F : Hp} (k : NestedKey) : ∀ {xs : List Kx} {kvs : List (D × D)}, Rpx κ F xs kvs → (∃ p v d, atKey xs k = some p ∧ tget kvs k = some d ∧ RelV v p.2 ∧ Rp κ F v d) ∨ (atKey xs k = none ∧ tget kvs k = none)
  | _, _, .nil => .inr ⟨rfl, rfl⟩
  | _, _, @Rpx.cons _ _ nk ka val v kd d xs kvs a b c rv e r => by
    by_cases h : nk = k
    · subst h
      exact .inl ⟨(ka, val), v, d, by simp [atKey], by simp [tget, a], rv, e⟩
    · have e1 : atKey ((nk, ka, val) :: xs) k = atKey xs k := by simp [atKey, h]
      have e2 : tget ((kd, d) :: kvs) k = tget kvs k := by simp [tget, a, h]
      rw [e1, e2]
      exact r.get k
theorem Rpx.repl {κ : PySem.W.Frag} {F : Hp} (k : NestedKey) {w : V} {val : Value} {e : D} (rw_ : RelV w val) (r : Rp κ F w e) : ∀ {xs : List Kx} {kvs : List (D × D)}, Rpx κ F xs kvs → Rpx κ F (xs.map (putAt k val)) (kvs.map fun kv => if kOf kv.1 = some k then (kv.1, e) else kv)
  | _, _, .nil => .nil
  | _, _, @Rpx.cons _ _ nk ka val' v kd d xs kvs a b c rv e' q => by
    rw [List.map_cons, List.map_cons]
    by_cases h : nk = k
    · subst h
      simp only [putAt, a, if_true]
      exact .cons a b c rw_ r (q.repl nk rw_ r)
    · have h2 : ¬ (some nk : Option NestedKey) = some k := by simpa using h
      simp only [putAt, a, h, if_false, h2]
      exact .cons a b c rv e' (q.repl k rw_ r)
theorem Rpx.snoc {κ : PySem.W.Frag} {F : Hp} {nk : NestedKey} {ka : Addr} {val : Value} {v : V} {kd d : D} (h1 : kOf kd = some nk) (h2 : nk.depth ≤ 8) (h3 : Rp κ F (.ref ka) kd) (h4 : RelV v val) (h5 : Rp κ F v d) : ∀ {xs : List Kx} {kvs : List (D × D)}, Rpx κ F xs kvs → Rpx κ F (xs ++ [(nk, ka, val)]) (kvs ++ [(kd, d)])
  | _, _, .nil => .cons h1 h2 h3 h4 h5 .nil
  | _, _, .cons a b c e f g => .cons a b c e f (g.snoc h1 h2 h3 h4 h5)
theorem Rpx.put {κ : PySem.W.Frag} {F : Hp} {nk : NestedKey} {ka : Addr} {val : Value} {v : V} {kd d : D} (h1 : kOf kd = some nk) (h2 : nk.depth ≤ 8) (h3 : Rp κ F (.ref ka) kd) (h4 : RelV v val) (h5 : Rp κ F v d) {xs : List Kx} {kvs : List (D × D)} (q : Rpx κ F xs kvs) : Rpx κ F (storedH xs nk ka val) (tput kvs kd nk d) := by
  unfold storedH tput
  rcases q.get nk with ⟨p, v', d', e1, e2, _, _⟩ | ⟨e1, e2⟩
  · rw [e1, e2, Option.isSome_some, Option.isSome_some, if_pos rfl, if_pos rfl]
    exact q.repl nk h4 h5
  · rw [e1, e2, Option.isSome_none, Option.isSome_none, if_neg Bool.false_ne_true, if_neg Bool.false_ne_true]
    exact q.snoc h1 h2 h3 h4 h5
theorem Rpk.length {κ : PySem.W.Frag} {F : Hp} : ∀ {ks : List (Key × V)} {kvs : List (D × D)}, Rpk κ F ks kvs → ks.length = kvs.length
  | _, _, .nil => rfl
  | _, _, .cons _ b => by rw [List.length_cons, List.length_cons, b.length]
theorem Rp.mono {κ : PySem.W.Frag} {F H : Hp} (s : Sub F H) (d : D) (v : V) (h : Rp κ F v d) : Rp κ H v d := h.mono' s
theorem Rps.mono {κ : PySem.W.Frag} {F H : Hp} (s : Sub F H) (ds : List D) (vs : List V) (h : Rps κ F vs ds) : Rps κ H vs ds := h.mono' s
theorem Rpk.mono {κ : PySem.W.Frag} {F H : Hp} (s : Sub F H) (kvs : List (D × D)) (ks : List (Key × V)) (h : Rpk κ F ks kvs) : Rpk κ H ks kvs := h.mono' s
theorem Rp.to {κ : PySem.W.Frag} {F H : Hp} {v : V} {d : D} (h : Rp κ F v d) (s : Sub F H) : Rp κ H v d := Rp.mono s d v h
theorem Rps.to {κ : PySem.W.Frag} {F H : Hp} {vs : List V} {ds : List D} (h : Rps κ F vs ds) (s : Sub F H) : Rps κ H vs ds := Rps.mono s ds vs h
theorem Rps.length {κ : PySem.W.Frag} {F : Hp} : ∀ {vs : List V} {ds : List D}, Rps κ F vs ds → vs.length = ds.length
  | _, _, .nil => rfl
  | _, _, .cons _ r => by rw [List.length_cons, List.length_cons, Rps.length r]
theorem Rps.append {κ : PySem.W.Frag} {F : Hp} : ∀ {vs ws : List V} {ds es : List D}, Rps κ F vs ds → Rps κ F ws es → Rps κ F (vs ++ ws) (ds ++ es)
  | _, _, _, _, .nil, s => s
  | _, _, _, _, .cons a r, s => .cons a (Rps.append r s)
theorem Rps.get {κ : PySem.W.Frag} {F : Hp} : ∀ {vs : List V} {ds : List D} {i : Nat} {d : D}, Rps κ F vs ds → ds[i]? = some d → ∃ v, vs[i]? = some v ∧ Rp κ F v d
  | _, _, _, _, .nil, e => by simp at e
  | _, _, 0, _, .cons a _, e => by simp at e; subst e; exact ⟨_, rfl, a⟩
  | _, _, i + 1, d, .cons _ r, e => by
    obtain ⟨v, h1, h2⟩ := Rps.get (i := i) (d := d) r (by simpa using e)
    exact ⟨v, by simpa using h1, h2⟩
theorem Rps.getV {κ : PySem.W.Frag} {F : Hp} : ∀ {vs : List V} {ds : List D} {i : Nat} {v : V}, Rps κ F vs ds → vs[i]? = some v → ∃ d, ds[i]? = some d ∧ Rp κ F v d
  | _, _, _, _, .nil, e => by simp at e
  | _, _, 0, _, .cons a _, e => by simp at e; subst e; exact ⟨_, rfl, a⟩
  | _, _, i + 1, v, .cons _ r, e => by
    obtain ⟨d, h1, h2⟩ := Rps.getV (i := i) (v := v) r (by simpa using e)
    exact ⟨d, by simpa using h1, h2⟩
theorem Rps.take {κ : PySem.W.Frag} {F : Hp} : ∀ {vs : List V} {ds : List D} (n : Nat), Rps κ F vs ds → Rps κ F (vs.take n) (ds.take n)
  | _, _, 0, _ => .nil
  | _, _, _ + 1, .nil => .nil
  | _, _, n + 1, .cons a r => .cons a (Rps.take n r)
theorem Rps.drop {κ : PySem.W.Frag} {F : Hp} : ∀ {vs : List V} {ds : List D} (n : Nat), Rps κ F vs ds → Rps κ F (vs.drop n) (ds.drop n)
  | _, _, 0, r => r
  | _, _, _ + 1, .nil => .nil
  | _, _, n + 1, .cons _ r => Rps.drop n r
theorem Rps.set {κ : PySem.W.Frag} {F : Hp} {v : V} {d : D} (a : Rp κ F v d) : ∀ {vs : List V} {ds : List D} (i : Nat), Rps κ F vs ds → Rps κ F (vs.set i v) (ds.set i d)
  | _, _, _, .nil => .nil
  | _, _, 0, .cons _ r => .cons a r
  | _, _, i + 1, .cons b r => .cons b (Rps.set a i r)
theorem Rps.insertIdx {κ : PySem.W.Frag} {F : Hp} {v : V} {d : D} (a : Rp κ F v d) : ∀ {vs : List V} {ds : List D} (i : Nat), Rps κ F vs ds → Rps κ F (vs.insertIdx i v) (ds.insertIdx i d)
  | _, _, 0, r => by simpa using .cons a r
  | _, _, _ + 1, .nil => by simpa using .nil
  | _, _, i + 1, .cons b r => by simpa using .cons b (Rps.insertIdx a i r)
theorem Rps.rep {κ : PySem.W.Frag} {F : Hp} {vs : List V} {ds : List D} (h : Rps κ F vs ds) : ∀ k : Nat, Rps κ F (List.replicate k vs).flatten (List.replicate k ds).flatten
  | 0 => .nil
  | k + 1 => by
    rw [List.replicate_succ, List.replicate_succ, List.flatten_cons, List.flatten_cons]
    exact h.append (Rps.rep h k)
theorem Rps.ints {κ : PySem.W.Frag} {F : Hp} : ∀ (n : Nat) (f : Nat → Int), Rps κ F ((List.range n).map fun k => V.int (f k)) ((List.range n).map fun k => PyData.int (f k)) := fun n f => by
  have : ∀ l : List Nat, Rps κ F (l.map fun k => V.int (f k)) (l.map fun k => PyData.int (f k)) := fun l => by
    induction l with
    | nil => exact .nil
    | cons a l ih => exact .cons (.int _) ih
  exact this _
mutual
theorem Rp.dp {κ K : PySem.W.Frag} {F H : Hp} (s : Sub F H) : ∀ (d : D) (v : V), d.canLay0 = true → Rp κ F v d → Dp K H v d
  | .none, _, _, h => by cases h; exact .non
  | .bool b, _, _, h => by cases h; exact .bl b
  | .int i, _, _, h => by cases h; exact .int i
  | .str x, _, _, h => by cases h; exact .str x
  | .list ds, _, c, h => by
    cases h with
    | lst e r => exact .lst (.inl (.inl (s _ _ e))) (Rps.dp s ds _ (by simpa [PyData.canLay0] using c) r)
  | .tuple ds, _, c, h => by
    cases h with
    | tup e r => exact .tup (.inl (.inl (s _ _ e))) (Rps.dp s ds _ (by simpa [PyData.canLay0] using c) r)
  | .dict _, _, c, _ => by simp [PyData.canLay0] at c
theorem Rps.dp {κ K : PySem.W.Frag} {F H : Hp} (s : Sub F H) : ∀ (ds : List D) (vs : List V), PyData.canLayAll0 ds = true → Rps κ F vs ds → DpAll K H vs ds
  | [], _, _, h => by cases h; exact .nil
  | d :: ds, _, c, h => by
    simp only [PyData.canLayAll0, Bool.and_eq_true] at c
    cases h with
    | cons a b => exact .cons (Rp.dp s d _ c.1 a) (Rps.dp s ds _ c.2 b)
end

/-- from (F, H) to (F', H'): what stood stands; what is new in F was not in H -/
structure Gr (F H F' H' : Hp) : Prop where
  ff : Sub F F'
  fh : Sub F' H'
  hh : Sub H H'
  nw : ∀ a o, F' a = some o → F a = some o ∨ H a = none
theorem Gr.refl {F H : Hp} (h : Sub F H) : Gr F H F H := ⟨Sub.refl F, h, Sub.refl H, fun _ _ e => .inl e⟩
theorem Gr.trans {F H F1 H1 F2 H2 : Hp} (a : Gr F H F1 H1) (b : Gr F1 H1 F2 H2) : Gr F H F2 H2 :=
  ⟨a.ff.trans b.ff, b.fh, a.hh.trans b.hh, fun x o e => by
    rcases b.nw x o e with h | h
    · exact a.nw x o h
    · exact .inr (a.hh.none h)⟩
/-- an address that H had and F had not is not in F' -/
theorem Gr.out {F H F' H' : Hp} (g : Gr F H F' H') {p : Addr} {o : HO} (h : H p = some o) (n : F p = none) : F' p = none := by
  cases q : F' p with
  | none => rfl
  | some u =>
    rcases g.nw p u q with z | z
    · rw [n] at z; cases z
    · rw [h] at z; cases z
/-- a new object, told in F too -/
theorem Gr.new {F H : Hp} (h : Sub F H) {p : Addr} (n : H p = none) (o : HO) : Gr F H (upd F p o) (upd H p o) := by
  have nF := h.none n
  refine ⟨fun a u e => ?_, fun a u e => ?_, fun a u e => ?_, fun a u e => ?_⟩
  · rw [upd_ne (ne_of_none e nF)]; exact e
  · by_cases z : a = p
    · subst z; rw [upd_same] at e ⊢; exact e
    · rw [upd_ne z] at e ⊢; exact h a u e
  · rw [upd_ne (ne_of_none e n)]; exact e
  · by_cases z : a = p
    · subst z; exact .inr n
    · rw [upd_ne z] at e; exact .inl e
/-- a new object, not told in F -/
theorem Gr.lay {F H : Hp} (h : Sub F H) {p : Addr} (n : H p = none) (o : HO) : Gr F H F (upd H p o) := by
  refine ⟨Sub.refl F, fun a u e => ?_, fun a u e => ?_, fun a u e => .inl e⟩
  · rw [upd_ne (ne_of_none (h a u e) n)]; exact h a u e
  · rw [upd_ne (ne_of_none e n)]; exact e

/-! ### a container whose own address F does not know -/
def Top (κ : PySem.W.Frag) (F H : Hp) (p : Addr) : D → Prop
  | .list ds => ∃ vs, H p = some (.lst vs) ∧ Rps κ F vs ds
  | .dict kvs => (∃ ks, H p = some (.dK ks) ∧ Rpk κ F ks kvs) ∨ ∃ xs r, kvs = (.bool true, .none) :: r ∧ H p = some (kxO p xs) ∧ Rpx κ F xs r
  | _ => False
theorem Top.has {κ : PySem.W.Frag} {F H : Hp} {p : Addr} {d : D} (t : Top κ F H p d) : ∃ o, H p = some o := by
  cases d with
  | list ds => obtain ⟨vs, e, _⟩ := t; exact ⟨_, e⟩
  | dict kvs =>
    rcases t with ⟨ks, e, _⟩ | ⟨xs, r, _, e, _⟩
    · exact ⟨_, e⟩
    · exact ⟨_, e⟩
  | _ => exact False.elim t
theorem Top.mono {κ : PySem.W.Frag} {F H F' H' : Hp} {p : Addr} {d : D} (t : Top κ F H p d) (f : Sub F F') (h : H p = H' p) : Top κ F' H' p d := by
  cases d with
  | list ds => obtain ⟨vs, e, r⟩ := t; exact ⟨vs, h ▸ e, r.to f⟩
  | dict kvs =>
    rcases t with ⟨ks, e, r⟩ | ⟨xs, r, e0, e, q⟩
    · exact .inl ⟨ks, h ▸ e, Rpk.mono f _ _ r⟩
    · exact .inr ⟨xs, r, e0, h ▸ e, q.mono' f⟩
  | _ => exact False.elim t
theorem Top.gr {κ : PySem.W.Frag} {F H F' H' : Hp} {p : Addr} {d : D} (t : Top κ F H p d) (g : Gr F H F' H') : Top κ F' H' p d := by
  obtain ⟨o, e⟩ := t.has
  exact t.mono g.ff (e.trans (g.hh _ _ e).symm)
/-- told in F: frozen -/
theorem Top.freeze {κ : PySem.W.Frag} {F H : Hp} {p : Addr} {d : D} (t : Top κ F H p d) (h : Sub F H) (n : F p = none) : ∃ F', Sub F F' ∧ Sub F' H ∧ Rp κ F' (.ref p) d ∧ ∀ a o, F' a = some o → F a = some o ∨ a = p := by
  have mk : ∀ o, H p = some o → Sub F (upd F p o) ∧ Sub (upd F p o) H ∧ ∀ a u, upd F p o a = some u → F a = some u ∨ a = p := fun o e => by
    refine ⟨fun a u q => ?_, fun a u q => ?_, fun a u q => ?_⟩
    · rw [upd_ne (ne_of_none q n)]; exact q
    · by_cases z : a = p
      · subst z; rw [upd_same] at q; cases q; exact e
      · rw [upd_ne z] at q; exact h a u q
    · by_cases z : a = p
      · exact .inr z
      · rw [upd_ne z] at q; exact .inl q
  cases d with
  | list ds =>
    obtain ⟨vs, e, r⟩ := t
    obtain ⟨a, b, c⟩ := mk _ e
    exact ⟨_, a, b, .lst upd_same (r.to a), c⟩
  | dict kvs =>
    rcases t with ⟨ks, e, r⟩ | ⟨xs, r, e0, e, q⟩
    · obtain ⟨a, b, c⟩ := mk _ e
      exact ⟨_, a, b, .dic upd_same (r.mono' a), c⟩
    · subst e0
      obtain ⟨a, b, c⟩ := mk _ e
      exact ⟨_, a, b, .tk upd_same (q.mono' a), c⟩
  | _ => exact False.elim t

/-- a value by its kind -/
def RV (κ : PySem.W.Frag) (F H : Hp) (k : Kd) (d : D) (v : V) : Prop :=
  match k with
  | .shr => Rp κ F v d
  | _ => ∃ p, v = .ref p ∧ F p = none ∧ Top κ F H p d
theorem RV.gr {κ : PySem.W.Frag} {F H F' H' : Hp} {k : Kd} {d : D} {v : V} (r : RV κ F H k d v) (g : Gr F H F' H') : RV κ F' H' k d v := by
  have own : (∃ p, v = .ref p ∧ F p = none ∧ Top κ F H p d) → ∃ p, v = .ref p ∧ F' p = none ∧ Top κ F' H' p d := fun ⟨p, e, n, t⟩ => by
    obtain ⟨o, q⟩ := t.has
    exact ⟨p, e, g.out q n, t.gr g⟩
  cases k with
  | shr => exact Rp.to r g.ff
  | brw => exact own r
  | frs => exact own r
/-- new since H -/
def Fresh (H : Hp) (k : Kd) (v : V) : Prop := k = .frs → ∀ p, v = .ref p → H p = none

/-! ### the state -/
structure StOK (κ : PySem.W.Frag) (F0 H0 F H : Hp) (st : Ev) (σ : L2.St) : Prop where
  gr : Gr F0 H0 F H
  len : st.length = σ.length
  shr : ∀ (i : Nat) (d : D), st[i]? = some (some (false, d)) → ∃ v, σ[i]? = some (some v) ∧ Rp κ F v d
  own : ∀ (i : Nat) (d : D), st[i]? = some (some (true, d)) → ∃ p, σ[i]? = some (some (.ref p)) ∧ F p = none ∧ H0 p = none ∧ Top κ F H p d
  inj : ∀ (i j : Nat) (p : Addr) (di dj : D), st[i]? = some (some (true, di)) → st[j]? = some (some (true, dj)) → σ[i]? = some (some (.ref p)) → σ[j]? = some (some (.ref p)) → i = j
section
variable {κ : PySem.W.Frag} {F0 H0 F H F' H' : Hp} {st : Ev} {σ : L2.St}
theorem StOK.fh (S : StOK κ F0 H0 F H st σ) : Sub F H := S.gr.fh
theorem StOK.mono (S : StOK κ F0 H0 F H st σ) (g : Gr F H F' H') : StOK κ F0 H0 F' H' st σ where
  gr := S.gr.trans g
  len := S.len
  shr := fun i d e => by
    obtain ⟨v, h1, h2⟩ := S.shr i d e
    exact ⟨v, h1, h2.to g.ff⟩
  own := fun i d e => by
    obtain ⟨p, h1, h2, h3, h4⟩ := S.own i d e
    obtain ⟨o, q⟩ := h4.has
    exact ⟨p, h1, g.out q h2, h3, h4.gr g⟩
  inj := S.inj
theorem StOK.lt (S : StOK κ F0 H0 F H st σ) {i : Nat} {x : Option (Bool × D)} (e : st[i]? = some x) : i < σ.length := by
  rw [← S.len]
  exact (List.getElem?_eq_some_iff.mp e).1
/-- a slot gets a shared value -/
theorem StOK.setS (S : StOK κ F0 H0 F H st σ) (i : Nat) {v : V} {d : D} (r : Rp κ F v d) : StOK κ F0 H0 F H (st.set i (some (false, d))) (σ.set i (some v)) where
  gr := S.gr
  len := by rw [List.length_set, List.length_set]; exact S.len
  shr := fun j d' e => by
    by_cases z : i = j
    · subst z
      have hl : i < st.length := by
        have := (List.getElem?_eq_some_iff.mp e).1
        simpa using this
      rw [List.getElem?_set_self hl] at e
      cases e
      exact ⟨v, by rw [List.getElem?_set_self (by rw [← S.len]; exact hl)], r⟩
    · rw [List.getElem?_set_ne z] at e
      rw [List.getElem?_set_ne z]
      exact S.shr j d' e
  own := fun j d' e => by
    by_cases z : i = j
    · subst z
      have hl : i < st.length := by
        have := (List.getElem?_eq_some_iff.mp e).1
        simpa using this
      rw [List.getElem?_set_self hl] at e
      cases e
    · rw [List.getElem?_set_ne z] at e
      rw [List.getElem?_set_ne z]
      exact S.own j d' e
  inj := fun j k p dj dk e1 e2 e3 e4 => by
    have out : ∀ {j : Nat} {dj : D}, (st.set i (some (false, d)))[j]? = some (some (true, dj)) → i ≠ j := fun {j dj} e z => by
      subst z
      have hl : i < st.length := by
        have := (List.getElem?_eq_some_iff.mp e).1
        simpa using this
      rw [List.getElem?_set_self hl] at e
      cases e
    have n1 := out e1
    have n2 := out e2
    rw [List.getElem?_set_ne n1] at e1 e3
    rw [List.getElem?_set_ne n2] at e2 e4
    exact S.inj j k p dj dk e1 e2 e3 e4
/-- a slot gets a container of its own, whose address no other own slot has -/
theorem StOK.setO (S : StOK κ F0 H0 F H st σ) (i : Nat) {p : Addr} {d : D} (n : F p = none) (n0 : H0 p = none) (t : Top κ F H p d)
    (ne : ∀ (j : Nat) (dj : D), j ≠ i → st[j]? = some (some (true, dj)) → σ[j]? ≠ some (some (.ref p))) : StOK κ F0 H0 F H (st.set i (some (true, d))) (σ.set i (some (.ref p))) where
  gr := S.gr
  len := by rw [List.length_set, List.length_set]; exact S.len
  shr := fun j d' e => by
    by_cases z : i = j
    · subst z
      have hl : i < st.length := by
        have := (List.getElem?_eq_some_iff.mp e).1
        simpa using this
      rw [List.getElem?_set_self hl] at e
      cases e
    · rw [List.getElem?_set_ne z] at e
      rw [List.getElem?_set_ne z]
      exact S.shr j d' e
  own := fun j d' e => by
    by_cases z : i = j
    · subst z
      have hl : i < st.length := by
        have := (List.getElem?_eq_some_iff.mp e).1
        simpa using this
      rw [List.getElem?_set_self hl] at e
      cases e
      exact ⟨p, by rw [List.getElem?_set_self (by rw [← S.len]; exact hl)], n, n0, t⟩
    · rw [List.getElem?_set_ne z] at e
      rw [List.getElem?_set_ne z]
      exact S.own j d' e
  inj := fun j k q dj dk e1 e2 e3 e4 => by
    have at_ : ∀ {dj : D}, (st.set i (some (true, d)))[i]? = some (some (true, dj)) → (σ.set i (some (.ref p)))[i]? = some (some (.ref q)) → q = p := fun {dj} e f => by
      have hl : i < st.length := by
        have := (List.getElem?_eq_some_iff.mp e).1
        simpa using this
      rw [List.getElem?_set_self (by rw [← S.len]; exact hl)] at f
      cases f
      rfl
    by_cases z1 : i = j
    · subst z1
      by_cases z2 : i = k
      · exact z2
      · have := at_ e1 e3
        subst this
        rw [List.getElem?_set_ne z2] at e2 e4
        exact absurd e4 (ne k dk (Ne.symm z2) e2)
    · by_cases z2 : i = k
      · subst z2
        have := at_ e2 e4
        subst this
        rw [List.getElem?_set_ne z1] at e1 e3
        exact absurd e3 (ne j dj (Ne.symm z1) e1)
      · rw [List.getElem?_set_ne z1] at e1 e3
        rw [List.getElem?_set_ne z2] at e2 e4
        exact S.inj j k q dj dk e1 e2 e3 e4
/-- what an own slot holds is changed in place -/
theorem StOK.chg (S : StOK κ F0 H0 F H st σ) {i : Nat} {p : Addr} {d d' : D} {o : HO} (e : st[i]? = some (some (true, d))) (hp : σ[i]? = some (some (.ref p))) (t : Top κ F (upd H p o) p d') :
    StOK κ F0 H0 F (upd H p o) (st.set i (some (true, d'))) σ := by
  obtain ⟨p', h1, n, n0, t0⟩ := S.own i d e
  rw [hp] at h1
  cases h1
  have gr : Gr F0 H0 F (upd H p o) := ⟨S.gr.ff, fun a u q => by
      rw [upd_ne (ne_of_none q n)]; exact S.gr.fh a u q, fun a u q => by
      rw [upd_ne (ne_of_none q n0)]; exact S.gr.hh a u q, S.gr.nw⟩
  have il : i < st.length := (List.getElem?_eq_some_iff.mp e).1
  refine ⟨gr, by rw [List.length_set]; exact S.len, fun j dj q => ?_, fun j dj q => ?_, fun j k q dj dk e1 e2 e3 e4 => ?_⟩
  · by_cases z : i = j
    · subst z; rw [List.getElem?_set_self il] at q; cases q
    · rw [List.getElem?_set_ne z] at q; exact S.shr j dj q
  · by_cases z : i = j
    · subst z; rw [List.getElem?_set_self il] at q; cases q; exact ⟨p, hp, n, n0, t⟩
    · rw [List.getElem?_set_ne z] at q
      obtain ⟨q', k1, k2, k3, k4⟩ := S.own j dj q
      refine ⟨q', k1, k2, k3, k4.mono (Sub.refl F) ?_⟩
      rw [upd_ne]
      rintro rfl
      exact z (S.inj i j _ d dj e q hp k1)
  · have up : ∀ {j : Nat} {dj : D}, (st.set i (some (true, d')))[j]? = some (some (true, dj)) → ∃ dj', st[j]? = some (some (true, dj')) := fun {j dj} q => by
      by_cases z : i = j
      · subst z; exact ⟨d, e⟩
      · rw [List.getElem?_set_ne z] at q; exact ⟨dj, q⟩
    obtain ⟨a, qa⟩ := up e1
    obtain ⟨b, qb⟩ := up e2
    exact S.inj j k q a b qa qb e3 e4
/-- an own slot is frozen -/
theorem StOK.frz (S : StOK κ F0 H0 F H st σ) {i : Nat} {d : D} (e : st[i]? = some (some (true, d))) : ∃ F', Sub F F' ∧ StOK κ F0 H0 F' H (st.set i (some (false, d))) σ := by
  obtain ⟨p, h1, n, n0, t⟩ := S.own i d e
  obtain ⟨F', f1, f2, r, f3⟩ := t.freeze S.fh n
  have il : i < st.length := (List.getElem?_eq_some_iff.mp e).1
  refine ⟨F', f1, ⟨⟨S.gr.ff.trans f1, f2, S.gr.hh, fun a o q => ?_⟩, by rw [List.length_set]; exact S.len, fun j dj q => ?_, fun j dj q => ?_, fun j k q dj dk e1 e2 e3 e4 => ?_⟩⟩
  · rcases f3 a o q with z | z
    · exact S.gr.nw a o z
    · subst z; exact .inr n0
  · by_cases z : i = j
    · subst z; rw [List.getElem?_set_self il] at q; cases q; exact ⟨_, h1, r⟩
    · rw [List.getElem?_set_ne z] at q
      obtain ⟨v, k1, k2⟩ := S.shr j dj q
      exact ⟨v, k1, k2.to f1⟩
  · by_cases z : i = j
    · subst z; rw [List.getElem?_set_self il] at q; cases q
    · rw [List.getElem?_set_ne z] at q
      obtain ⟨q', k1, k2, k3, k4⟩ := S.own j dj q
      refine ⟨q', k1, ?_, k3, k4.mono f1 rfl⟩
      cases w : F' q' with
      | none => rfl
      | some u =>
        rcases f3 q' u w with y | y
        · rw [k2] at y; cases y
        · subst y; exact absurd (S.inj i j _ d dj e q h1 k1) z
  · have up : ∀ {j : Nat} {dj : D}, (st.set i (some (false, d)))[j]? = some (some (true, dj)) → st[j]? = some (some (true, dj)) := fun {j dj} q => by
      by_cases z : i = j
      · subst z; rw [List.getElem?_set_self il] at q; cases q
      · rw [List.getElem?_set_ne z] at q; exact q
    exact S.inj j k q dj dk (up e1) (up e2) e3 e4
end

/-! ### readings as wishes -/
def SE (X : Cx) (e : Expr) : TE := fun σ H Q => ∀ (pins : List (Addr × Obj)) (s : Shared), Inv X pins σ H s → wpAny (model X.prog X.w) X.A (eval e X.env) (EP X pins σ Q) X.xe s
def ST (X : Cx) (e : Expr) : TT := fun σ H Q => ∀ (pins : List (Addr × Obj)) (s : Shared), Inv X pins σ H s → wpAny (model X.prog X.w) X.A (isTrue e X.env (eval e X.env)) (TP X pins σ Q) X.xe s
def SA (X : Cx) (es : List Expr) : TA := fun σ H Q => ∀ (pos : Pos) (pins : List (Addr × Obj)) (s : Shared), Inv X pins σ H s → wpAny (model X.prog X.w) X.A (spliced (backTo pos (starEach es X.env))) (AP X pins σ Q) X.xe s
def SS (X : Cx) (st : Stmt) : TS := fun D σ H => ∀ (pins : List (Addr × Obj)) (s : Shared), Inv X pins σ H s → wpAny (model X.prog X.w) X.A (exec st X.env) (SP X pins D) X.xe s
def SSs (X : Cx) (st : List Stmt) : TS := fun D σ H => ∀ (pins : List (Addr × Obj)) (s : Shared), Inv X pins σ H s → wpAny (model X.prog X.w) X.A (execs st X.env) (SP X pins D) X.xe s
theorem pe_se {X : Cx} {e : Expr} : PE X e (SE X e) := ⟨fun pins s _ _ _ I h => h pins s I⟩
theorem pt_st {X : Cx} {e : Expr} : PT X e (ST X e) := ⟨fun pins s _ _ _ I h => h pins s I⟩
theorem pa_sa {X : Cx} {es : List Expr} : PA X es (SA X es) := ⟨fun pos pins s _ _ _ I h => h pos pins s I⟩
theorem ps_ss {X : Cx} {st : Stmt} : PS X st (SS X st) := ⟨fun pins s _ _ _ I h => h pins s I⟩
theorem pss_sss {X : Cx} {st : List Stmt} : PSs X st (SSs X st) := ⟨fun pins s _ _ _ I h => h pins s I⟩
theorem se_of {X : Cx} {e : Expr} {t : TE} {σ : L2.St} {H : Hp} {Q : VK} (h : PE X e t) (ht : t σ H Q) : SE X e σ H Q := fun pins s I => h.run pins s σ H Q I ht
theorem st_of {X : Cx} {e : Expr} {t : TT} {σ : L2.St} {H : Hp} {Q : Bool → Hp → Prop} (h : PT X e t) (ht : t σ H Q) : ST X e σ H Q := fun pins s I => h.run pins s σ H Q I ht
theorem sa_of {X : Cx} {es : List Expr} {t : TA} {σ : L2.St} {H : Hp} {Q : List V → Hp → Prop} (h : PA X es t) (ht : t σ H Q) : SA X es σ H Q := fun pos pins s I => h.run pos pins s σ H Q I ht
theorem ss_of {X : Cx} {st : Stmt} {t : TS} {σ : L2.St} {H : Hp} {D : Ends} (h : PS X st t) (ht : t D σ H) : SS X st D σ H := fun pins s I => h.run pins s σ H D I ht
theorem sss_of {X : Cx} {st : List Stmt} {t : TS} {σ : L2.St} {H : Hp} {D : Ends} (h : PSs X st t) (ht : t D σ H) : SSs X st D σ H := fun pins s I => h.run pins s σ H D I ht
theorem SE.imp {X : Cx} {e : Expr} {σ : L2.St} {H : Hp} {Q Q' : VK} (h : SE X e σ H Q) (q : ∀ v H', Q v H' → Q' v H') : SE X e σ H Q' := fun pins s I =>
  wpAny_mono (h pins s I) (fun _ _ ⟨v, H', I', r, z⟩ => ⟨v, H', I', r, q v H' z⟩) fun _ _ x => x
/-- an operation on two values, as a wish -/
def OSem (X : Cx) (f : Value → Value → Sem Value) : R2 := fun x y H Q => ∀ (pins : List (Addr × Obj)) (s : Shared) (σ : L2.St) (v u : Value), Inv X pins σ H s → RelV x v → RelV y u → wpAny (model X.prog X.w) X.A (f v u) (EP X pins σ Q) X.xe s
theorem op_sem {X : Cx} {f : Value → Value → Sem Value} : OpR X f (OSem X f) := fun pins s σ _ _ _ v u _ I r1 r2 h => h pins s σ v u I r1 r2
theorem osem_of {X : Cx} {f : Value → Value → Sem Value} {r : R2} {x y : V} {H : Hp} {Q : VK} (h : OpR X f r) (ht : r x y H Q) : OSem X f x y H Q := fun pins s σ v u I r1 r2 => h pins s σ H x y v u Q I r1 r2 ht
def ISem (X : Cx) : R2 := fun x y H Q => ∀ (value slice : Expr) (pins : List (Addr × Obj)) (s : Shared) (σ : L2.St) (v u : Value), Inv X pins σ H s → RelV x v → RelV y u →
  subscripted slice false v u = operate [v, u] (getItem v u) → wpAny (model X.prog X.w) X.A (subscriptTail value slice v u) (EP X pins σ Q) X.xe s
end Dv

/-! Dv, part B1: what is done with dicts whose keys are tuples. -/
namespace Dv
open PySem PySem.Spec PyProof.Rows L2

section
variable {κ : PySem.W.Frag} {F H : Hp}
mutual
theorem rp_key {P : Program} {w : World} {h : Heap} (ok : HOk P w H h) (s : Sub F H) : ∀ (d : D) (k : NestedKey) (v : V) (val : Value), kOf d = some k → Rp κ F v d → RelV v val → NestedIs h k val
  | .int i, k, v, val, e, r, rv => by
    simp only [kOf, Option.some.injEq] at e
    subst e
    cases r
    obtain ⟨t, rfl⟩ := (show ∃ t, val = Value.int i t from rv)
    exact .int i t
  | .tuple xs, k, v, val, e, r, rv => by
    simp only [kOf, Option.map_eq_some_iff] at e
    obtain ⟨ks, h1, rfl⟩ := e
    cases r with
    | tup ea qa =>
      rename_i a vs
      cases (show val = Value.ref a from rv)
      obtain ⟨_, its, rr, o, g1, g2, n, g3⟩ := (show ObjOk P w H h a (.tup vs) from ok a _ (s _ _ ea))
      exact .tup g1 g2 g3 (by simpa using rps_keys ok s xs ks vs its h1 qa rr)
  | .none, k, v, val, e, r, rv => by simp [kOf] at e
  | .bool _, k, v, val, e, r, rv => by simp [kOf] at e
  | .str _, k, v, val, e, r, rv => by simp [kOf] at e
  | .list _, k, v, val, e, r, rv => by simp [kOf] at e
  | .dict _, k, v, val, e, r, rv => by simp [kOf] at e
theorem rps_keys {P : Program} {w : World} {h : Heap} (ok : HOk P w H h) (s : Sub F H) : ∀ (ds : List D) (ks : List NestedKey) (vs : List V) (us : List Value), kOfs ds = some ks → Rps κ F vs ds → Vals vs us → NestedAll h ks us
  | [], ks, vs, us, e, r, rv => by
    simp only [kOfs, Option.some.injEq] at e
    subst e
    cases r
    cases rv
    exact .nil
  | d :: ds, ks, vs, us, e, r, rv => by
    rw [kOfs] at e
    split at e
    · rename_i k ks' h1 h2
      cases e
      cases r with
      | cons a q =>
        cases rv with
        | cons b rr => exact .cons (rp_key ok s d k _ _ h1 a b) (rps_keys ok s ds ks' _ _ h2 q rr)
    · cases e
end
theorem rpx_keys {P : Program} {w : World} {h : Heap} (ok : HOk P w H h) (s : Sub F H) : ∀ {xs : List Kx} {kvs : List (D × D)}, Rpx κ F xs kvs → ∀ x ∈ xs, NestedIs h x.1 (.ref x.2.1)
  | _, _, .nil, _, m => by simp at m
  | _, _, .cons a b c d e f, x, m => by
    rcases List.mem_cons.mp m with rfl | m
    · exact rp_key ok s _ _ _ _ a c rfl
    · exact rpx_keys ok s f x m
end
/-- a key's and a dict's description -/
structure KxAt (H : Hp) (a : Addr) (y : V) (κ : PySem.W.Frag) (F : Hp) (xs : List Kx) (r : List (D × D)) (kd : D) (nk : NestedKey) : Prop where
  sub : Sub F H
  at_ : H a = some (kxO a xs)
  q : Rpx κ F xs r
  key : kOf kd = some nk
  dep : nk.depth ≤ 8
  ky : Rp κ F y kd
  rf : ∃ b, y = .ref b
section
variable {X : Cx} {pins : List (Addr × Obj)} {σ : L2.St} {H : Hp} {s : Shared} {a : Addr} {y v : V} {u r : Value} {A : Around} {E : Value → Shared → Prop} {κ : PySem.W.Frag} {F : Hp} {xs : List Kx} {kvs : List (D × D)} {kd : D} {nk : NestedKey}
theorem kx_room (hu : A.units + 64 < cLine) : (nestedKind X.prog X.w).room A.in1 := by
  show A.units + 1 + 8 < cLine
  omega
theorem KxAt.dict (k : KxAt H a y κ F xs kvs kd nk) (I : Inv X pins σ H s) : s.heap.DictOfH (nestedKind X.prog X.w) a xs ∧ (a == sysModules) = false ∧ xs.length ≤ sizeLine := by
  have p := kxO_of (I.hok a _ k.at_)
  refine ⟨kx_dict p (rpx_keys I.hok k.sub k.q), ?_⟩
  obtain ⟨_, _, _, _, _, _, _, _, h1, h2, _⟩ := p
  exact ⟨h1, h2⟩
theorem KxAt.is (k : KxAt H a y κ F xs kvs kd nk) (I : Inv X pins σ H s) {b : Addr} (e : y = .ref b) : (nestedKind X.prog X.w).is s.heap nk b :=
  ⟨rp_key I.hok k.sub kd nk y (.ref b) k.key k.ky (by rw [e]; rfl), k.dep⟩
theorem kx_in {Q : Value → Shared → Prop} (hu : A.units + 64 < cLine) (I : Inv X pins σ H s) (k : KxAt H a y κ F xs kvs kd nk) (ry : RelV y u) (h : ∀ s', Inv X pins σ H s' → Q (.bool (tget kvs nk).isSome) s') :
    wpAny (model X.prog X.w) A (compareOp .In u (.ref a)) Q E s := by
  obtain ⟨b, rfl⟩ := k.rf
  cases (show u = Value.ref b from ry)
  obtain ⟨dd, hd, _⟩ := k.dict I
  refine wpAny_in_heap (kx_room (X := X) hu) (k.is I rfl) hd dd ?_
  have e : (atKey xs nk).isSome = (tget kvs nk).isSome := by
    rcases k.q.get nk with ⟨p, v, d, e1, e2, _⟩ | ⟨e1, e2⟩ <;> rw [e1, e2] <;> rfl
  rw [e]
  exact h _ (I.tok _)
theorem kx_nin {Q : Value → Shared → Prop} (hu : A.units + 64 < cLine) (I : Inv X pins σ H s) (k : KxAt H a y κ F xs kvs kd nk) (ry : RelV y u) (h : ∀ s', Inv X pins σ H s' → Q (.bool (!(tget kvs nk).isSome)) s') :
    wpAny (model X.prog X.w) A (compareOp .NotIn u (.ref a)) Q E s := by
  obtain ⟨b, rfl⟩ := k.rf
  cases (show u = Value.ref b from ry)
  obtain ⟨dd, hd, _⟩ := k.dict I
  refine wpAny_notIn_heap (kx_room (X := X) hu) (k.is I rfl) hd dd ?_
  have e : (atKey xs nk).isSome = (tget kvs nk).isSome := by
    rcases k.q.get nk with ⟨p, v, d, e1, e2, _⟩ | ⟨e1, e2⟩ <;> rw [e1, e2] <;> rfl
  rw [e]
  exact h _ (I.tok _)
theorem kx_get {d : D} {Q : Value → Shared → Prop} (hu : A.units + 64 < cLine) (I : Inv X pins σ H s) (k : KxAt H a y κ F xs kvs kd nk) (g : tget kvs nk = some d) (ry : RelV y u) (h : ∀ v w' s', Inv X pins σ H s' → RelV v w' → Rp κ F v d → Q w' s') :
    wpAny (model X.prog X.w) A (getItem (.ref a) u) Q E s := by
  obtain ⟨b, rfl⟩ := k.rf
  cases (show u = Value.ref b from ry)
  obtain ⟨dd, hd, _⟩ := k.dict I
  rcases k.q.get nk with ⟨p, v, d', e1, e2, e3, e4⟩ | ⟨e1, e2⟩
  · rw [g] at e2
    cases e2
    exact wpAny_getItem_heap (kx_room (X := X) hu) (k.is I rfl) dd e1 (h v _ _ (I.tok _) e3 e4)
  · rw [g] at e2; cases e2
theorem kx_put {d : D} {Q : Unit → Shared → Prop} (hu : A.units + 64 < cLine) (I : Inv X pins σ H s) (k : KxAt H a y κ F xs kvs kd nk) (hl : kvs.length < sizeLine) (ry : RelV y u) (rv : RelV v r) (rd : Rp κ F v d)
    (h : ∀ xs' s', Inv X pins σ (upd H a (kxO a xs')) s' → Rpx κ F xs' (tput kvs kd nk d) → Q () s') : wpAny (model X.prog X.w) A (setItem (.ref a) u r) Q E s := by
  obtain ⟨b, rfl⟩ := k.rf
  cases (show u = Value.ref b from ry)
  obtain ⟨dd, hd, hz⟩ := k.dict I
  have q2 := k.q.put k.key k.dep k.ky rv rd
  refine wpAny_setItem_heap (hsz := hz) (kx_room (X := X) hu) (k.is I rfl) dd fun h' dd' hs => h _ _ ?_ q2
  have he : ∃ q, h'.get? a = some q := let ⟨q, _, _, hq, _⟩ := dd'; ⟨q, hq⟩
  refine d_write I (by rw [k.at_]; exact True.intro) hs he (kxO_ok (kx_back dd' hd ?_ q2.keys))
  rw [q2.length]
  unfold tput
  split
  · rw [List.length_map]; omega
  · rw [List.length_append, List.length_singleton]; omega
end
theorem op_inX {X : Cx} (hu : X.A.units + 64 < cLine) : OpR X (compareOp .In) (fun y x H Q => ∃ a κ F xs kvs kd nk, x = .ref a ∧ KxAt H a y κ F xs kvs kd nk ∧ Q (.bl (tget kvs nk).isSome) H) := by
  intro pins s σ H x y v u Q I rx ry h
  obtain ⟨a, κ, F, xs, kvs, kd, nk, rfl, k, q⟩ := h
  cases (show u = Value.ref a from ry)
  exact kx_in hu I k rx fun s3 I3 => ⟨.bl _, H, I3, rfl, q⟩
theorem op_ninX {X : Cx} (hu : X.A.units + 64 < cLine) : OpR X (compareOp .NotIn) (fun y x H Q => ∃ a κ F xs kvs kd nk, x = .ref a ∧ KxAt H a y κ F xs kvs kd nk ∧ Q (.bl (!(tget kvs nk).isSome)) H) := by
  intro pins s σ H x y v u Q I rx ry h
  obtain ⟨a, κ, F, xs, kvs, kd, nk, rfl, k, q⟩ := h
  cases (show u = Value.ref a from ry)
  exact kx_nin hu I k rx fun s3 I3 => ⟨.bl _, H, I3, rfl, q⟩
theorem kx_typeIs {X : Cx} {pins : List (Addr × Obj)} {σ : L2.St} {H : Hp} {s : Shared} {a : Addr} {xs : List Kx} (I : Inv X pins σ H s) (e : H a = some (kxO a xs)) : s.TypeIs (.ref a) "dict" := by
  obtain ⟨o, es, ep, h1, h2, _⟩ := kxO_of (I.hok a _ e)
  exact ⟨o, h1, h2.1⟩
theorem ix_dictX {X : Cx} (hu : X.A.units + 64 < cLine) : IxR X (fun x y H Q => ∃ a κ F xs kvs kd nk d, x = .ref a ∧ KxAt H a y κ F xs kvs kd nk ∧ tget kvs nk = some d ∧ ∀ v, Rp κ F v d → Q v H) := by
  intro value slice pins s σ H x y v u Q I rx ry h hs
  obtain ⟨a, κ, F, xs, kvs, kd, nk, d, rfl, k, g, q⟩ := h
  cases (show v = Value.ref a from rx)
  have hT := kx_typeIs I k.at_
  have go : wpAny (model X.prog X.w) X.A (subscripted slice false (.ref a) u) (fun r s3 => wpAny (model X.prog X.w) X.A (letTemporaryGo value (.ref a) r >>= fun _ => pure r) (EP X pins σ Q) X.xe s3) X.xe s := by
    rw [hs]
    exact wpAny_operating (kx_get hu I k g ry fun v' w' s' I' rw' rp' => wpAny_bind (wpAny_letTemporaryGo (wpAny_pure ⟨v', H, I', rw', q v' rp'⟩)))
  unfold subscriptTail
  refine wpAny_bind ?_
  rw [getitemInPython_of_ne hT.not_modules]
  refine wpAny_bind (wpAny_specialOf hT PySem.F.slot_dict_getitem.lookup ?_)
  first
    | exact wpAny_pure (wpAny_bind go)
    | exact wpAny_bind (wpAny_pure (wpAny_bind go))
    | exact wpAny_bind go
def sTPut (td ty tv : TE) : TS := fun Dn σ H => tv σ H fun v H1 => td σ H1 fun x H2 => ty σ H2 fun y H3 => ∃ a κ F xs kvs kd nk d, x = .ref a ∧ KxAt H3 a y κ F xs kvs kd nk ∧ kvs.length < sizeLine ∧ Rp κ F v d ∧ ∀ xs', Rpx κ F xs' (tput kvs kd nk d) → Dn.nx σ (upd H3 a (kxO a xs'))
theorem ps_tput {X : Cx} {o i value : Expr} {pos' pos : Pos} {td ty tv : TE} (hu : X.A.units + 64 < cLine) (ho : PE X o td) (hi : PE X i ty) (hv : PE X value tv) (hs : swapsWith value (some (.Subscript o i pos')) pos.line X.env = pure false) :
    PS X (.Assign [.Subscript o i pos'] value pos) (sTPut td ty tv) := by
  refine ⟨fun pins s σ H D I h => ?_⟩
  refine wpAny_Assign_Subscript (thn (hv.run pins s σ H _ I h) fun r s1 ⟨v, H1, I1, rv, q1⟩ => thn (ho.run pins s1 σ H1 _ I1 q1) fun u s2 ⟨x, H2, I2, rx, q2⟩ => thn (hi.run pins s2 σ H2 _ I2 q2) fun iv s3 ⟨y, H3, I3, ry, a, κ, F, xs, kvs, kd, nk, d, ex, k, hl, rd, q3⟩ => ?_) hs
  subst ex
  obtain rfl : u = Value.ref a := rx
  exact kx_put hu I3 k hl ry rv rd fun xs' s4 I4 q4 => ⟨σ, _, I4, q3 xs' q4⟩
/-- {} whose keys will be tuples -/
theorem kx_empty {P : Program} {w : World} {H : Hp} (h : Heap) (hb : sysModules < h.objs.size) : ObjOk P w H (h.push { cls := .type "dict", data := .dict #[] }) h.objs.size (kxO h.objs.size []) :=
  kxO_ok ⟨_, #[], 0, Heap.get?_push_size _ rfl, ⟨rfl, rfl, rfl⟩, rfl, rfl, List.nodup_nil, beq_eq_false_iff_ne.mpr (Ne.symm (Nat.ne_of_lt hb)), Nat.zero_le _, fun _ m => by simp at m⟩
theorem pe_dnewX {X : Cx} {pos : Pos} : PE X (.Dict [] [] pos) (fun σ H Q => ∀ p, H p = none → Q (.ref p) (upd H p (kxO p []))) := ⟨fun pins s σ H Q I h =>
  wpAny_Dict_empty ⟨.ref s.heap.objs.size, _, I.laid (a := s.heap.objs.size) (o := kxO s.heap.objs.size []) (t' := s.toks) (fun _ _ q => Heap.get?_push_of_some _ q) (Nat.le_refl _) (kx_empty s.heap I.big), rfl, h _ (I.hok.fresh (Nat.le_refl _))⟩⟩
/-- len -/
theorem call_len_kx {X : Cx} : CallR X (.builtin "len") (fun vs H Q => ∃ a κ F xs kvs, vs = [V.ref a] ∧ Sub F H ∧ H a = some (kxO a xs) ∧ Rpx κ F xs kvs ∧ Q (.int kvs.length) H) := by
  intro pins s σ H xs us Q I r h
  obtain ⟨a, κ, F, xs, kvs, rfl, hs, ha, hq, q⟩ := h
  obtain ⟨u, rfl, ru⟩ := vals1 r
  cases ru
  have p := kxO_of (I.hok a _ ha)
  have dd := kx_dict (P := X.prog) (w := X.w) p (rpx_keys I.hok hs hq)
  obtain ⟨_, _, _, _, _, _, _, _, h1, h2, _⟩ := p
  refine call_len_dictH h1 dd (by rw [sizeLine_eq] at h2; omega) ?_
  exact ⟨.int kvs.length, H, I.tok _, ⟨_, by rw [hq.length]⟩, q⟩
end Dv

/-! Dv, part C: the checker read backwards. -/
namespace Dv
open PySem PySem.Spec PyProof.Rows L2

section
variable {c : Cc} {sc : Scope} {ex : Expr}
theorem mE_var {i : Nat} (m : mE c sc (.var i) ex = true) : ∃ x pos, ex = .Name x pos ∧ rdB c.N sc x i = true := by
  cases ex <;> first | (simp only [mE] at m; exact ⟨_, _, rfl, m⟩) | (simp [mE] at m)
theorem mE_non (m : mE c sc .non ex = true) : ∃ k pos, ex = .Constant .none k pos := by
  unfold mE at m; split at m <;> first | contradiction | (rename_i h; cases h; done) | exact ⟨_, _, rfl⟩
theorem mE_bl {b : Bool} (m : mE c sc (.bl b) ex = true) : ∃ k pos, ex = .Constant (.bool b) k pos := by
  unfold mE at m; split at m <;> first | contradiction | (rename_i h; cases h; simp at m; subst m; exact ⟨_, _, rfl⟩)
theorem mE_int {i : Int} (m : mE c sc (.int i) ex = true) : ∃ k pos, ex = .Constant (.int i) k pos := by
  unfold mE at m; split at m <;> first | contradiction | (rename_i h; cases h; simp at m; subst m; exact ⟨_, _, rfl⟩)
theorem mE_str {s : Str} (m : mE c sc (.str s) ex = true) : ∃ k pos, ex = .Constant (.str s) k pos := by
  unfold mE at m; split at m <;> first | contradiction | (rename_i h; cases h; simp at m; subst m; exact ⟨_, _, rfl⟩)
theorem mE_glb {x : Str} {i : Int} (m : mE c sc (.glb x i) ex = true) : ∃ pos, ex = .Name x pos ∧ glB sc x = true ∧ plainName x = true ∧ (x, i) ∈ c.cs := by
  unfold mE at m; split at m <;> first | contradiction | (rename_i h; cases h; simp only [Bool.and_eq_true, decide_eq_true_eq] at m; obtain ⟨⟨⟨rfl, h1⟩, h2⟩, h3⟩ := m; exact ⟨_, rfl, h1, h2, h3⟩)
theorem mE_bin {op : BOp} {a b : E} (m : mE c sc (.bin op a b) ex = true) : ∃ e o f pos, ex = .BinOp e o f pos ∧ bopB o op = true ∧ mE c sc a e = true ∧ mE c sc b f = true := by
  cases ex <;> first | (simp only [mE, Bool.and_eq_true] at m; exact ⟨_, _, _, _, rfl, m.1.1, m.1.2, m.2⟩) | (simp [mE] at m)
theorem mE_neg {a : E} (m : mE c sc (.neg a) ex = true) : ∃ e pos, ex = .UnaryOp .USub e pos ∧ mE c sc a e = true := by
  unfold mE at m; split at m <;> first | contradiction | (rename_i h; cases h; exact ⟨_, _, rfl, m⟩)
theorem mE_not {a : E} (m : mE c sc (.not a) ex = true) : ∃ e pos, ex = .UnaryOp .Not e pos ∧ mE c sc a e = true := by
  unfold mE at m; split at m <;> first | contradiction | (rename_i h; cases h; exact ⟨_, _, rfl, m⟩)
theorem mE_cmp {op : COp} {a b : E} (m : mE c sc (.cmp op a b) ex = true) : ∃ e o f pos, ex = .Compare e [o] [f] pos ∧ copB o op = true ∧ mE c sc a e = true ∧ mE c sc b f = true := by
  unfold mE at m; split at m <;> first | contradiction | (rename_i h; cases h; simp only [Bool.and_eq_true] at m; exact ⟨_, _, _, _, rfl, m.1.1, m.1.2, m.2⟩)
theorem mE_chn {o p : COp} {a b d : E} (m : mE c sc (.chn o p a b d) ex = true) : ∃ e o' p' f g pos, ex = .Compare e [o', p'] [f, g] pos ∧ copB o' o = true ∧ copB p' p = true ∧ mE c sc a e = true ∧ mE c sc b f = true ∧ mE c sc d g = true := by
  unfold mE at m; split at m <;> first | contradiction | (rename_i h; cases h; simp only [Bool.and_eq_true] at m; obtain ⟨⟨⟨⟨h1, h2⟩, h3⟩, h4⟩, h5⟩ := m; exact ⟨_, _, _, _, _, _, rfl, h1, h2, h3, h4, h5⟩)
theorem mE_and {es : List E} (m : mE c sc (.and es) ex = true) : ∃ vs pos, ex = .BoolOp .And vs pos ∧ mL c sc es vs = true := by
  unfold mE at m; split at m <;> first | contradiction | (rename_i h; cases h; exact ⟨_, _, rfl, m⟩)
theorem mE_or {es : List E} (m : mE c sc (.or es) ex = true) : ∃ vs pos, ex = .BoolOp .Or vs pos ∧ mL c sc es vs = true := by
  unfold mE at m; split at m <;> first | contradiction | (rename_i h; cases h; exact ⟨_, _, rfl, m⟩)
theorem mE_ife {d a b : E} (m : mE c sc (.ife d a b) ex = true) : ∃ e f g pos, ex = .IfExp e f g pos ∧ mE c sc d e = true ∧ mE c sc a f = true ∧ mE c sc b g = true := by
  cases ex <;> first | (simp only [mE, Bool.and_eq_true] at m; exact ⟨_, _, _, _, rfl, m.1.1, m.1.2, m.2⟩) | (simp [mE] at m)
theorem mE_idx {a i : E} (m : mE c sc (.idx a i) ex = true) : ∃ e j pos, ex = .Subscript e j pos ∧ mE c sc a e = true ∧ mE c sc i j = true := by
  unfold mE at m; split at m <;> first | contradiction | (rename_i h; cases h; done) | (simp only [Bool.and_eq_true] at m; rename_i h; cases h; exact ⟨_, _, _, rfl, m.1, m.2⟩) | (simp only [Bool.and_eq_true] at m; rename_i h _; cases h; exact ⟨_, _, _, rfl, m.1, m.2⟩)
theorem mE_slc {a : E} {lo hi : Option E} (m : mE c sc (.slc a lo hi) ex = true) : ∃ e l h p2 pos, ex = .Subscript e (.Slice l h none p2) pos ∧ mE c sc a e = true ∧ mO c sc lo l = true ∧ mO c sc hi h = true := by
  unfold mE at m; split at m <;> first | contradiction | (rename_i h; cases h; done) | (simp only [Bool.and_eq_true] at m; rename_i h; cases h; exact ⟨_, _, _, _, _, rfl, m.1.1, m.1.2, m.2⟩)
theorem mE_tup {es : List E} (m : mE c sc (.tup es) ex = true) : ∃ vs k pos, ex = .Tuple vs k pos ∧ mL c sc es vs = true := by
  cases ex <;> first | (simp only [mE] at m; exact ⟨_, _, _, rfl, m⟩) | (simp [mE] at m)
theorem mE_lst {es : List E} (m : mE c sc (.lst es) ex = true) : ∃ vs pos, ex = .List vs pos ∧ mL c sc es vs = true := by
  cases ex <;> first | (simp only [mE] at m; exact ⟨_, _, rfl, m⟩) | (simp [mE] at m)
theorem mE_dic (m : mE c sc .dic ex = true) : ∃ pos, ex = .Dict [] [] pos := by
  unfold mE at m; split at m <;> first | contradiction | (rename_i h; cases h; done) | exact ⟨_, rfl⟩
theorem mE_fn {f : B1} {a : E} (m : mE c sc (.fn f a) ex = true) : ∃ g e pos, ex = .Call g [e] [] pos ∧ isG sc g (Str.ofString (b1Name f)) = true ∧ mE c sc a e = true := by
  unfold mE at m; split at m <;> first | contradiction | (rename_i h; cases h; done) | (simp only [Bool.and_eq_true] at m; rename_i h; cases h; exact ⟨_, _, _, rfl, m.1, m.2⟩)
theorem mE_isi {a : E} {t : TyN} (m : mE c sc (.isi a t) ex = true) : ∃ g e f pos, ex = .Call g [e, f] [] pos ∧ isG sc g "isinstance" = true ∧ mE c sc a e = true ∧ isG sc f (Str.ofString (tyName t)) = true := by
  unfold mE at m; split at m <;> first | contradiction | (rename_i h; cases h; done) | (simp only [Bool.and_eq_true] at m; rename_i h; cases h; exact ⟨_, _, _, _, rfl, m.1.1, m.1.2, m.2⟩)
theorem mE_isis {a : E} {ts : List TyN} (m : mE c sc (.isis a ts) ex = true) : ∃ g e fs k p2 pos, ex = .Call g [e, .Tuple fs k p2] [] pos ∧ isG sc g "isinstance" = true ∧ mE c sc a e = true ∧ isTys sc fs ts = true := by
  unfold mE at m; split at m <;> first | contradiction | (rename_i h; cases h; done) | (simp only [Bool.and_eq_true] at m; rename_i h; cases h; exact ⟨_, _, _, _, _, _, rfl, m.1.1, m.1.2, m.2⟩)
theorem mE_lrg {a : E} (m : mE c sc (.lrg a) ex = true) : ∃ g h e p2 pos, ex = .Call g [.Call h [e] [] p2] [] pos ∧ isG sc g "list" = true ∧ isG sc h "range" = true ∧ mE c sc a e = true := by
  unfold mE at m; split at m <;> first | contradiction | (rename_i h; cases h; done) | (simp only [Bool.and_eq_true] at m; rename_i h; cases h; exact ⟨_, _, _, _, _, rfl, m.1.1, m.1.2, m.2⟩)
theorem mE_dicT (m : mE c sc .dicT ex = true) : ∃ pos, ex = .Dict [] [] pos := by
  unfold mE at m; split at m <;> first | contradiction | (rename_i h; cases h; done) | exact ⟨_, rfl⟩
theorem mE_lset {a : E} (m : mE c sc (.lset a) ex = true) : ∃ g h e p2 pos, ex = .Call g [.Call h [e] [] p2] [] pos ∧ isG sc g "len" = true ∧ isG sc h "set" = true ∧ mE c sc a e = true := by
  unfold mE at m; split at m <;> first | contradiction | (rename_i h; cases h; done) | (simp only [Bool.and_eq_true] at m; rename_i h; cases h; exact ⟨_, _, _, _, _, rfl, m.1.1, m.1.2, m.2⟩)
theorem mE_call {f : Str} {es : List E} (m : mE c sc (.call f es) ex = true) : ∃ g v vs pos, ex = .Call g (v :: vs) [] pos ∧ isG sc g f = true ∧ mL c sc es (v :: vs) = true := by
  unfold mE at m; split at m <;> first | contradiction | (rename_i h; cases h; done) | (simp only [Bool.and_eq_true] at m; rename_i h; cases h; exact ⟨_, _, _, _, rfl, m.1, m.2⟩)
theorem mE_callAt {fs : List Str} {i : E} {es : List E} (m : mE c sc (.callAt fs i es) ex = true) : ∃ ns pl j ps v vs pos, ex = .Call (.Subscript (.List ns pl) j ps) (v :: vs) [] pos ∧ isFs sc fs ns = true ∧ mE c sc i j = true ∧ mL c sc es (v :: vs) = true := by
  unfold mE at m; split at m <;> first | contradiction | (rename_i h; cases h; done) | (simp only [Bool.and_eq_true] at m; rename_i h; cases h; exact ⟨_, _, _, _, _, _, _, rfl, m.1.1, m.1.2, m.2⟩)
theorem mE_cmpR {x n : E} {i : Nat} {ifs : List E} (m : mE c sc (.cmpR x i n ifs) ex = true) : ∃ elt y p1 g it p2 cs scope pos, ex = .ListComp elt [⟨.Name y p1, .Call g [it] [] p2, cs, 0⟩] scope pos ∧
    isG sc g "range" = true ∧ mE c sc n it = true ∧ L2.blkC c.N sc scope [(y, i)] = true ∧ locB scope y = true ∧ mE c (L2.relS scope sc) x elt = true ∧ mL c (L2.relS scope sc) ifs cs = true ∧ ifs.length ≤ 1 := by
  unfold mE at m; split at m <;> first | contradiction | (rename_i h; cases h; done) | (simp only [Bool.and_eq_true] at m; rename_i h; cases h; obtain ⟨⟨⟨⟨⟨⟨h1, h2⟩, h3⟩, h4⟩, h5⟩, h6⟩, h7⟩ := m; exact ⟨_, _, _, _, _, _, _, _, _, rfl, h1, h2, h3, h4, h5, h6, of_decide_eq_true h7⟩)
theorem mE_cmpL {x src : E} {i : Nat} {ifs : List E} (m : mE c sc (.cmpL x i src ifs) ex = true) : ∃ elt y p1 it cs scope pos, ex = .ListComp elt [⟨.Name y p1, it, cs, 0⟩] scope pos ∧
    mE c sc src it = true ∧ L2.blkC c.N sc scope [(y, i)] = true ∧ locB scope y = true ∧ mE c (L2.relS scope sc) x elt = true ∧ mL c (L2.relS scope sc) ifs cs = true ∧ ifs.length ≤ 1 := by
  unfold mE at m; split at m <;> first | contradiction | (rename_i h; cases h; done) | (simp only [Bool.and_eq_true] at m; rename_i h; cases h; obtain ⟨⟨⟨⟨⟨h2, h3⟩, h4⟩, h5⟩, h6⟩, h7⟩ := m; exact ⟨_, _, _, _, _, _, _, rfl, h2, h3, h4, h5, h6, of_decide_eq_true h7⟩)
theorem mL_nil {vs : List Expr} (m : mL c sc [] vs = true) : vs = [] := by
  cases vs with
  | nil => rfl
  | cons v vs => simp [mL] at m
theorem mL_cons {e : E} {es : List E} {vs : List Expr} (m : mL c sc (e :: es) vs = true) : ∃ v ws, vs = v :: ws ∧ mE c sc e v = true ∧ mL c sc es ws = true := by
  cases vs with
  | nil => simp [mL] at m
  | cons v vs =>
    simp only [mL, Bool.and_eq_true] at m
    exact ⟨_, _, rfl, m.1, m.2⟩
theorem mL_nil_r {es : List E} (m : mL c sc es [] = true) : es = [] := by
  cases es with
  | nil => rfl
  | cons v vs => simp [mL] at m
/-- a checked expression is of none of these kinds -/
def okEx : Expr → Bool
  | .Starred _ _ => false
  | .Set _ _ _ => false
  | .Slice _ _ _ _ => false
  | _ => true
theorem mE_ok {e : E} (m : mE c sc e ex = true) : okEx ex = true := by
  cases ex <;> first | rfl | (exfalso; cases e <;> simp [mE] at m; done)
theorem ok_star {es : List Expr} {env : Env} (h : okEx ex = true) : starEach (ex :: es) env = (false, eval ex env) :: starEach es env := by
  cases ex <;> first | rfl | (simp [okEx] at h)
theorem ok_set {env : Env} (h : okEx ex = true) (x : Value) : foldedSetIterable ex env x = pure x := by
  cases ex <;> first | rfl | (simp [okEx] at h)
theorem ok_mark {o : CmpOp} (h : okEx ex = true) : behindInMarks o ex = false := by
  cases ex <;> first | rfl | (simp [okEx] at h)
theorem ok_ix (h : okEx ex = true) : L2.PlainIx ex := by
  cases ex <;> first | exact (fun _ _ => rfl) | (simp [okEx] at h)
theorem isG_name {g : Expr} {x : Str} (h : isG sc g x = true) : ∃ pos, g = .Name x pos ∧ glB sc x = true ∧ plainName x = true := by
  cases g <;> first | (simp only [isG, Bool.and_eq_true, decide_eq_true_eq] at h; obtain ⟨⟨rfl, h1⟩, h2⟩ := h; exact ⟨_, rfl, h1, h2⟩) | (simp [isG] at h)
theorem plain_all {x : Str} (h : plainName x = true) : (x == ("__debug__" : Str)) = false ∧ (x == ("__classdict__" : Str)) = false ∧ x ≠ "__name__" := by
  simp only [plainName, Bool.and_eq_true, Bool.not_eq_true'] at h
  exact ⟨h.1.1, h.1.2, fun e => by subst e; simp at h⟩
theorem rdB_all {N : List Str} {x : Str} {i : Nat} (h : rdB N sc x i = true) : N[i]? = some x ∧ L2.Vis sc x ∧ plainName x = true := by
  simp only [rdB, Bool.and_eq_true, decide_eq_true_eq] at h
  refine ⟨h.1.1, ?_, h.2⟩
  have v := h.1.2
  unfold visB at v
  unfold L2.Vis
  split at v <;> simp_all
theorem locB_all {x : Str} (h : locB sc x = true) : L2.Loc sc x := by
  unfold locB at h
  unfold L2.Loc
  split at h <;> simp_all
theorem wrB_all {N : List Str} {x : Str} {i : Nat} (h : wrB N sc x i = true) : N[i]? = some x ∧ L2.Loc sc x := by
  simp only [wrB, Bool.and_eq_true, decide_eq_true_eq] at h
  exact ⟨h.1, locB_all h.2⟩
theorem glB_gl {X : Cx} {x : Str} (h : glB X.env.scope x = true) : Gl X x :=
  (show X.env.scope.names.lookup x = some .globalImplicit from of_decide_eq_true h)
end
end Dv

/-! Dv, part D: the context; what is wanted behind an expression; values read backwards; the first expressions. -/
namespace Dv
open PySem PySem.Spec PyProof.Rows L2

structure GI where
  K : PySem.W.Frag
  Φ : Str → List D → Option EO
  ea : Str → Addr
  k : Nat
  cs : List (Str × Int)
  hc : List Str
  ht : List Str
def bnames : List Str := ["len", "range", "int", "str", "tuple", "list", "all", "isinstance", "bool", "dict", "ValueError", "set", "any"]
/-- a def's promise, by its meaning -/
def spOf (κ : PySem.W.Frag) (ea : Str → Addr) (φ : List D → Option EO) : Sp := fun vs H Q E => ∃ F ds r, Sub F H ∧ Rps κ F vs ds ∧ φ ds = some r ∧
  match r with
  | .ok k d => ∀ v H' F', Gr F H F' H' → RV κ F' H' k d v → Fresh H k v → Q v H'
  | .ex c => ∀ H', Sub H H' → E (.ref (ea c)) none H'
structure CK (G : GI) (W : WX) (X : Cx) : Prop where
  kk : X.K = G.K
  nd : X.N.Nodup
  calm : X.calm = true
  room : Room G.k X.A
  bl : ∀ x ∈ bnames, X.mg x = none
  fn : ∀ f ds r, G.Φ f ds = some r → ∃ fa fd ps, X.mg f = some (.ref fa) ∧ PySem.W.keepIn X.K (.ref fa) = true ∧ Binds X.K fd ps [] ∧ FnOk X.prog X.w X.K X.mg X.base (L2.CX X.prog X.w) G.k fa fd ps (spOf G.K G.ea (G.Φ f))
  gl : ∀ x i, (x, i) ∈ G.cs → ∃ t, X.mg x = some (.int i t)
  tk : Takes X W
abbrev cc (G : GI) (X : Cx) : Cc := ⟨X.N, G.cs, G.hc, G.ht⟩
section
variable {G : GI} {W : WX} {X : Cx}
theorem CK.hu (K : CK G W X) : X.A.units + 64 < cLine := K.room.units
theorem CK.hu65 (K : CK G W X) : X.A.units + 65 < cLine := by have := K.room.un; omega
/-- the context of a comprehension's block -/
theorem CK.blk (K : CK G W X) (s : Shared) (H : Hp) (scope : Scope) (C : Addr) (cl : List (Str × Addr)) (fp : List Addr) : CK G (fun _ _ _ _ => False) (X.blk s H scope (compEnvC scope cl C X.env) fp) :=
  ⟨K.kk, K.nd, K.calm, K.room, K.bl, K.fn, K.gl, takes0⟩
end

/-- what is wanted behind an expression -/
def PostE (G : GI) (W : WX) (σ : L2.St) (F H : Hp) (r : EO) (Q : VK) : Prop :=
  match r with
  | .ok k d => ∀ v H' F', Gr F H F' H' → RV G.K F' H' k d v → Fresh H k v → Q v H'
  | .ex c => ∀ H', Sub H H' → W (.ref (G.ea c)) none σ H'
def PostT (G : GI) (W : WX) (σ : L2.St) (F H : Hp) (r : EO) (Q : Bool → Hp → Prop) : Prop :=
  match r with
  | .ok .shr (.bool b) => ∀ H' F', Gr F H F' H' → Q b H'
  | .ok _ _ => False
  | .ex c => ∀ H', Sub H H' → W (.ref (G.ea c)) none σ H'
def SndE (G : GI) (e : E) : Prop := ∀ (X : Cx) (W : WX) (ex : Expr), CK G W X → mE (cc G X) X.env.scope e ex = true →
  ∀ (F0 H0 F H : Hp) (st : Ev) (σ : L2.St) (r : EO) (Q : VK), StOK G.K F0 H0 F H st σ → evE G.Φ e st = some r → PostE G W σ F H r Q → SE X ex σ H Q
def SndT (G : GI) (e : E) : Prop := ∀ (X : Cx) (W : WX) (ex : Expr), CK G W X → mE (cc G X) X.env.scope e ex = true →
  ∀ (F0 H0 F H : Hp) (st : Ev) (σ : L2.St) (r : EO) (Q : Bool → Hp → Prop), StOK G.K F0 H0 F H st σ → evE G.Φ e st = some r → PostT G W σ F H r Q → ST X ex σ H Q

section
variable {G : GI} {W : WX} {X : Cx} {σ : L2.St} {F H F' H' F2 H2 F0 H0 : Hp} {r : EO} {Q : VK} {k : Kd} {d : D} {v : V} {st : Ev}
theorem PostE.gr (P : PostE G W σ F H r Q) (g : Gr F H F' H') : PostE G W σ F' H' r Q := by
  cases r with
  | ok k d => exact fun v H2 F2 g2 r f => P v H2 F2 (g.trans g2) r fun e p q => g.hh.none (f e p q)
  | ex c => exact fun H2 s => P H2 (g.hh.trans s)
theorem RV.int {i : Int} (h : RV G.K F H k (.int i) v) : v = .int i := by
  cases k with
  | shr => cases (show Rp G.K F v (.int i) from h); rfl
  | brw => obtain ⟨p, _, _, t⟩ := h; exact False.elim t
  | frs => obtain ⟨p, _, _, t⟩ := h; exact False.elim t
theorem RV.bool {b : Bool} (h : RV G.K F H k (.bool b) v) : v = .bl b := by
  cases k with
  | shr => cases (show Rp G.K F v (.bool b) from h); rfl
  | brw => obtain ⟨p, _, _, t⟩ := h; exact False.elim t
  | frs => obtain ⟨p, _, _, t⟩ := h; exact False.elim t
theorem RV.str {b : Str} (h : RV G.K F H k (.str b) v) : v = .str b := by
  cases k with
  | shr => cases (show Rp G.K F v (.str b) from h); rfl
  | brw => obtain ⟨p, _, _, t⟩ := h; exact False.elim t
  | frs => obtain ⟨p, _, _, t⟩ := h; exact False.elim t
theorem RV.none (h : RV G.K F H k .none v) : v = .non := by
  cases k with
  | shr => cases (show Rp G.K F v .none from h); rfl
  | brw => obtain ⟨p, _, _, t⟩ := h; exact False.elim t
  | frs => obtain ⟨p, _, _, t⟩ := h; exact False.elim t
theorem RV.tup {xs : List D} (h : RV G.K F H k (.tuple xs) v) : ∃ a vs, v = .ref a ∧ F a = some (.tup vs) ∧ Rps G.K F vs xs := by
  cases k with
  | shr => cases (show Rp G.K F v (.tuple xs) from h) with | tup e r => exact ⟨_, _, rfl, e, r⟩
  | brw => obtain ⟨p, _, _, t⟩ := h; exact False.elim t
  | frs => obtain ⟨p, _, _, t⟩ := h; exact False.elim t
theorem RV.lst {xs : List D} (h : RV G.K F H k (.list xs) v) (s : Sub F H) : ∃ a vs, v = .ref a ∧ H a = some (.lst vs) ∧ Rps G.K F vs xs := by
  have own : (∃ p, v = .ref p ∧ F p = Option.none ∧ Top G.K F H p (.list xs)) → ∃ a vs, v = .ref a ∧ H a = some (.lst vs) ∧ Rps G.K F vs xs := fun ⟨p, e, _, vs, q, r⟩ => ⟨p, vs, e, q, r⟩
  cases k with
  | shr => cases (show Rp G.K F v (.list xs) from h) with | lst e r => exact ⟨_, _, rfl, s _ _ e, r⟩
  | brw => exact own h
  | frs => exact own h
theorem RV.dict {xs : List (D × D)} (h : RV G.K F H k (.dict xs) v) (s : Sub F H) : (∃ a ks, v = .ref a ∧ H a = some (.dK ks) ∧ Rpk G.K F ks xs) ∨ (∃ (a : Addr) (ns : List Int), v = .ref a ∧ PyData.dict xs = scrD ns ∧ SqL G.K F a (ns.map V.int)) ∨ ∃ (a : Addr) (ys : List Kx) (r : List (D × D)), v = .ref a ∧ xs = (.bool true, .none) :: r ∧ H a = some (kxO a ys) ∧ Rpx G.K F ys r := by
  have own : (∃ p, v = .ref p ∧ F p = Option.none ∧ Top G.K F H p (.dict xs)) → (∃ a ks, v = .ref a ∧ H a = some (.dK ks) ∧ Rpk G.K F ks xs) ∨ ∃ (a : Addr) (ys : List Kx) (r : List (D × D)), v = .ref a ∧ xs = (.bool true, .none) :: r ∧ H a = some (kxO a ys) ∧ Rpx G.K F ys r := fun ⟨p, e, _, t⟩ => by
    rcases t with ⟨ks, q, r⟩ | ⟨ys, r, e0, q, z⟩
    · exact .inl ⟨p, ks, e, q, r⟩
    · exact .inr ⟨p, ys, r, e, e0, q, z⟩
  cases k with
  | shr =>
    cases (show Rp G.K F v (.dict xs) from h) with
    | dic e r => exact .inl ⟨_, _, rfl, s _ _ e, r⟩
    | scr e => exact .inr (.inl ⟨_, _, rfl, rfl, e⟩)
    | tk e r => exact .inr (.inr ⟨_, _, _, rfl, rfl, s _ _ e, r⟩)
  | brw => exact (own h).imp id .inr
  | frs => exact (own h).imp id .inr
theorem RV.dictI {xs : List (D × D)} (h : RV G.K F H k (.dict xs) v) (s : Sub F H) (hr : realD xs = true) : ∃ a ks, v = .ref a ∧ H a = some (.dK ks) ∧ Rpk G.K F ks xs := by
  rcases h.dict s with h | ⟨a, ns, h1, h2, h3⟩ | ⟨a, ys, r, _, h2, _⟩
  · exact h
  · simp only [scrD, PyData.dict.injEq] at h2
    rw [h2] at hr
    simp [realD, isIntD] at hr
  · rw [h2] at hr
    simp [realD, isIntD] at hr
theorem tkOf_eq {xs r : List (D × D)} (h : tkOf xs = some r) : xs = (.bool true, .none) :: r := by
  unfold tkOf at h
  split at h
  · cases h; rfl
  · cases h
theorem RV.tk {xs r : List (D × D)} (h : RV G.K F H k (.dict xs) v) (s : Sub F H) (e : tkOf xs = some r) : ∃ (a : Addr) (ys : List Kx), v = .ref a ∧ H a = some (kxO a ys) ∧ Rpx G.K F ys r := by
  have e := tkOf_eq e
  subst e
  rcases h.dict s with ⟨a, ks, _, _, q⟩ | ⟨a, ns, h1, h2, h3⟩ | ⟨a, ys, r', h1, h2, h3, h4⟩
  · cases q
  · simp [scrD] at h2
  · cases h2
    exact ⟨a, ys, h1, h3, h4⟩
theorem ints_inj : ∀ {ns ms : List Int}, ns.map PyData.int = ms.map PyData.int → ns = ms
  | [], [], _ => rfl
  | [], _ :: _, e => by simp at e
  | _ :: _, [], e => by simp at e
  | n :: ns, m :: ms, e => by
    simp only [List.map_cons, List.cons.injEq, PyData.int.injEq] at e
    rw [e.1, ints_inj e.2]
theorem RV.scr {xs : List D} (h : RV G.K F H k (.dict [(.none, .list xs)]) v) (s : Sub F H) : ∃ (a : Addr) (ns : List Int), v = .ref a ∧ xs = ns.map PyData.int ∧ SqL G.K F a (ns.map V.int) := by
  rcases h.dict s with ⟨a, ks, _, _, q⟩ | ⟨a, ns, h1, h2, h3⟩ | ⟨a, ys, r', h1, h2, h3, h4⟩
  · cases q
  · simp only [scrD, PyData.dict.injEq, List.cons.injEq, Prod.mk.injEq, PyData.list.injEq, true_and, and_true] at h2
    exact ⟨a, ns, h1, h2, h3⟩
  · simp at h2
theorem RV.dp {K : PySem.W.Frag} (h : RV G.K F H k d v) (s : Sub F H) (c : d.canLay0 = true) : Dp K H v d := by
  cases d with
  | none => rw [h.none]; exact .non
  | bool b => rw [h.bool]; exact .bl b
  | int i => rw [h.int]; exact .int i
  | str x => rw [h.str]; exact .str x
  | list xs =>
    obtain ⟨a, vs, rfl, e, q⟩ := h.lst s
    exact .lst (.inl (.inl e)) (Rps.dp s _ _ (by simpa [PyData.canLay0] using c) q)
  | tuple xs =>
    obtain ⟨a, vs, rfl, e, q⟩ := h.tup
    exact .tup (.inl (.inl (s _ _ e))) (Rps.dp s _ _ (by simpa [PyData.canLay0] using c) q)
  | dict kvs => simp [PyData.canLay0] at c
theorem RV.isN (h : RV G.K F H k d v) : decide (v = .non) = isNone d := by
  cases d with
  | none => rw [h.none]; rfl
  | bool b => rw [h.bool]; rfl
  | int i => rw [h.int]; rfl
  | str x => rw [h.str]; rfl
  | tuple xs => obtain ⟨a, vs, rfl, _⟩ := h.tup; rfl
  | list xs =>
    cases k with
    | shr => cases (show Rp G.K F v (.list xs) from h); rfl
    | brw => obtain ⟨p, rfl, _⟩ := h; rfl
    | frs => obtain ⟨p, rfl, _⟩ := h; rfl
  | dict xs =>
    cases k with
    | shr => cases (show Rp G.K F v (.dict xs) from h) <;> rfl
    | brw => obtain ⟨p, rfl, _⟩ := h; rfl
    | frs => obtain ⟨p, rfl, _⟩ := h; rfl
theorem sizeL {n : Nat} (h : n ≤ lim) : n ≤ sizeLine := Nat.le_trans h (by rw [sizeLine_eq]; decide)
/-- a made list, tuple, number -/
theorem post_lst {vs : List V} {ds : List D} (P : PostE G W σ F H (.ok .frs (.list ds)) Q) (g : Gr F H F2 H2) (q : Rps G.K F2 vs ds) {p : Addr} (n : H2 p = Option.none) : Q (.ref p) (upd H2 p (.lst vs)) :=
  P _ _ F2 (g.trans (Gr.lay g.fh n _)) ⟨p, rfl, g.fh.none n, vs, upd_same, q⟩ fun _ p' e => by cases e; exact g.hh.none n
theorem post_tup {vs : List V} {ds : List D} (P : PostE G W σ F H (.ok .shr (.tuple ds)) Q) (g : Gr F H F2 H2) (q : Rps G.K F2 vs ds) {p : Addr} (n : H2 p = Option.none) : Q (.ref p) (upd H2 p (.tup vs)) := by
  have g3 := Gr.new g.fh n (.tup vs)
  exact P _ _ (upd F2 p (.tup vs)) (g.trans g3) (show Rp G.K _ _ _ from .tup upd_same (q.to g3.ff)) fun e => nomatch e
theorem post_shr (P : PostE G W σ F H (.ok .shr d) Q) (g : Gr F H F2 H2) (q : Rp G.K F2 v d) : Q v H2 := P _ _ F2 g q fun e => nomatch e
theorem bindV_some {r : Option EO} {f : Kd → D → Option EO} {x : EO} (h : bindV r f = some x) : (∃ k d, r = some (.ok k d) ∧ f k d = some x) ∨ ∃ c, r = some (.ex c) ∧ x = .ex c := by
  unfold bindV at h
  split at h
  · exact .inl ⟨_, _, rfl, h⟩
  · cases h; exact .inr ⟨_, rfl, rfl⟩
  · cases h
theorem boolV_some {r : Option EO} {f : Bool → Option EO} {x : EO} (h : boolV r f = some x) : (∃ b, r = some (.ok .shr (.bool b)) ∧ f b = some x) ∨ ∃ c, r = some (.ex c) ∧ x = .ex c := by
  unfold boolV at h
  split at h
  · exact .inl ⟨_, rfl, h⟩
  · cases h; exact .inr ⟨_, rfl, rfl⟩
  · cases h
theorem bindA_some {r : Option AO} {f : List (Kd × D) → Option EO} {x : EO} (h : bindA r f = some x) : (∃ xs, r = some (.ok xs) ∧ f xs = some x) ∨ ∃ c, r = some (.ex c) ∧ x = .ex c := by
  unfold bindA at h
  split at h
  · exact .inl ⟨_, rfl, h⟩
  · cases h; exact .inr ⟨_, rfl, rfl⟩
  · cases h
/-- one value, then what follows -/
theorem one {a : E} {e : Expr} (ha : SndE G a) (K : CK G W X) (m : mE (cc G X) X.env.scope a e = true) (S : StOK G.K F0 H0 F H st σ) {g : Kd → D → Option EO} (ev : bindV (evE G.Φ a st) g = some r) (P : PostE G W σ F H r Q)
    {R : VK} (hk : ∀ k x v H1 F1, evE G.Φ a st = some (.ok k x) → g k x = some r → Gr F H F1 H1 → StOK G.K F0 H0 F1 H1 st σ → RV G.K F1 H1 k x v → Fresh H k v → R v H1) : SE X e σ H R := by
  rcases bindV_some ev with ⟨k, d, e1, e2⟩ | ⟨c, e1, rfl⟩
  · exact ha X W e K m F0 H0 F H st σ _ _ S e1 fun v H1 F1 g1 r1 f1 => hk k d v H1 F1 e1 e2 g1 (S.mono g1) r1 f1
  · exact ha X W e K m F0 H0 F H st σ _ _ S e1 P
theorem two {a b : E} {e f : Expr} (ha : SndE G a) (hb : SndE G b) (K : CK G W X) (ma : mE (cc G X) X.env.scope a e = true) (mb : mE (cc G X) X.env.scope b f = true) (S : StOK G.K F0 H0 F H st σ) {g : Kd → D → Kd → D → Option EO}
    (ev : bindV (evE G.Φ a st) (fun k x => bindV (evE G.Φ b st) fun j y => g k x j y) = some r) (P : PostE G W σ F H r Q)
    {R : V → V → Hp → Prop} (hk : ∀ k x j y v u H2 F2, g k x j y = some r → Gr F H F2 H2 → StOK G.K F0 H0 F2 H2 st σ → RV G.K F2 H2 k x v → RV G.K F2 H2 j y u → R v u H2) :
    SE X e σ H fun v H1 => SE X f σ H1 fun u H2 => R v u H2 := by
  refine one ha K ma S ev P fun k x v H1 F1 e1 e2 g1 S1 r1 f1 => ?_
  refine one hb K mb S1 e2 (P.gr g1) fun j y u H2 F2 e3 e4 g2 S2 r2 f2 => ?_
  exact hk k x j y v u H2 F2 e4 (g1.trans g2) S2 (r1.gr g2) r2
end

/-! ### names and constants -/
section
variable {G : GI}
theorem snd_var (i : Nat) : SndE G (.var i) := by
  intro X W ex K m F0 H0 F H st σ r Q S ev P
  obtain ⟨x, pos, rfl, hb⟩ := mE_var m
  obtain ⟨hN, hv, hp⟩ := rdB_all hb
  obtain ⟨h1, h2, h3⟩ := plain_all hp
  refine se_of (pe_var (i := i) hN hv h1 h2) ?_
  simp only [evE] at ev
  split at ev
  · rename_i d e
    cases ev
    obtain ⟨p, k1, k2, k3, k4⟩ := S.own i d e
    exact ⟨_, k1, P _ _ F (Gr.refl S.fh) ⟨p, rfl, k2, k4⟩ fun e => nomatch e⟩
  · rename_i d e
    cases ev
    obtain ⟨v, k1, k2⟩ := S.shr i d e
    exact ⟨_, k1, P _ _ F (Gr.refl S.fh) k2 fun e => nomatch e⟩
  · cases ev
theorem snd_non : SndE G .non := by
  intro X W ex K m F0 H0 F H st σ r Q S ev P
  obtain ⟨k, pos, rfl⟩ := mE_non m
  simp only [evE] at ev; cases ev
  exact se_of pe_non (post_shr P (Gr.refl S.fh) .non)
theorem snd_bl (b : Bool) : SndE G (.bl b) := by
  intro X W ex K m F0 H0 F H st σ r Q S ev P
  obtain ⟨k, pos, rfl⟩ := mE_bl m
  simp only [evE] at ev; cases ev
  exact se_of pe_bl (post_shr P (Gr.refl S.fh) (.bl b))
theorem snd_int (i : Int) : SndE G (.int i) := by
  intro X W ex K m F0 H0 F H st σ r Q S ev P
  obtain ⟨k, pos, rfl⟩ := mE_int m
  simp only [evE] at ev; cases ev
  exact se_of pe_int (post_shr P (Gr.refl S.fh) (.int i))
theorem snd_str (x : Str) : SndE G (.str x) := by
  intro X W ex K m F0 H0 F H st σ r Q S ev P
  obtain ⟨k, pos, rfl⟩ := mE_str m
  simp only [evE] at ev; cases ev
  exact se_of pe_str (post_shr P (Gr.refl S.fh) (.str x))
theorem snd_glb (x : Str) (i : Int) : SndE G (.glb x i) := by
  intro X W ex K m F0 H0 F H st σ r Q S ev P
  obtain ⟨pos, rfl, hg, hp, hm⟩ := mE_glb m
  obtain ⟨h1, h2, h3⟩ := plain_all hp
  obtain ⟨t, ht⟩ := K.gl x i hm
  simp only [evE] at ev; cases ev
  exact se_of (pe_glob (v := .int i) (glB_gl hg) ht ⟨_, rfl⟩ h1) (post_shr P (Gr.refl S.fh) (.int i))
end
end Dv

/-! Dv, part E: operators, comparisons, and | or | not, conditional expressions. -/
namespace Dv
open PySem PySem.Spec PyProof.Rows L2

section
variable {G : GI}
theorem leaf_bin {W : WX} {X : Cx} {σ : L2.St} {F H F2 H2 : Hp} {r : EO} {Q : VK} {k j : Kd} {x y : D} {v u : V} {op : BOp} {o : Operator} (K : CK G W X) (hb : bopB o op = true) (e : binD op x y = some r) (P : PostE G W σ F H r Q) (g : Gr F H F2 H2)
    (r1 : RV G.K F2 H2 k x v) (r2 : RV G.K F2 H2 j y u) : OSem X (binaryOp o) v u H2 Q := by
  unfold binD at e
  split at e
  · cases o <;> first | (simp [bopB] at hb; done) | skip
    cases e
    rw [r1.int, r2.int]
    exact osem_of op_add ⟨_, _, rfl, rfl, post_shr P g (.int _)⟩
  · cases o <;> first | (simp [bopB] at hb; done) | skip
    rename_i xs ys
    split at e
    · rename_i hz
      cases e
      obtain ⟨a, vs, rfl, ea, qa⟩ := r1.tup
      obtain ⟨b, ws, rfl, eb, qb⟩ := r2.tup
      have la := qa.length
      have lb := qb.length
      refine osem_of op_catA ⟨a, b, vs, ws, rfl, rfl, SqT.of (g.fh _ _ ea), SqT.of (g.fh _ _ eb), sizeL (by rw [la, lb]; exact hz), fun z => ?_, fun _ z => ?_, fun _ _ p n => post_tup P g (qa.append qb) n⟩
      · subst z
        have : xs = [] := List.eq_nil_of_length_eq_zero (by rw [← la]; rfl)
        subst this
        exact post_shr P g (by simpa using (Rp.tup eb qb))
      · subst z
        have : ys = [] := List.eq_nil_of_length_eq_zero (by rw [← lb]; rfl)
        subst this
        exact post_shr P g (by simpa using (Rp.tup ea qa))
    · cases e
  · cases o <;> first | (simp [bopB] at hb; done) | skip
    split at e
    · rename_i hz
      cases e
      obtain ⟨a, vs, rfl, ea, qa⟩ := r1.lst g.fh
      obtain ⟨b, ws, rfl, eb, qb⟩ := r2.lst g.fh
      exact osem_of op_cat ⟨a, b, vs, ws, rfl, rfl, ea, eb, sizeL (by rw [qa.length, qb.length]; exact hz), fun p n => post_lst P g (qa.append qb) n⟩
    · cases e
  · cases o <;> first | (simp [bopB] at hb; done) | skip
    cases e
    rw [r1.int, r2.int]
    exact osem_of op_sub ⟨_, _, rfl, rfl, post_shr P g (.int _)⟩
  · cases o <;> first | (simp [bopB] at hb; done) | skip
    split at e
    · rename_i hz
      cases e
      rw [r1.int, r2.int]
      exact osem_of op_mul ⟨_, _, rfl, rfl, hz, post_shr P g (.int _)⟩
    · cases e
  · cases o <;> first | (simp [bopB] at hb; done) | skip
    split at e
    · rename_i hz
      cases e
      obtain ⟨a, vs, rfl, ea, qa⟩ := r1.lst g.fh
      rw [r2.int]
      exact osem_of op_rep ⟨a, _, vs, rfl, rfl, ea, by omega, by omega, sizeL (by rw [qa.length]; exact hz.2.2), fun p n => post_lst P g (qa.rep _) n⟩
    · cases e
  · cases o <;> first | (simp [bopB] at hb; done) | skip
    split at e
    · rename_i hz
      cases e
      rw [r1.int, r2.int]
      exact osem_of op_fdiv ⟨_, _, rfl, rfl, hz, post_shr P g (.int _)⟩
    · cases e
  · cases o <;> first | (simp [bopB] at hb; done) | skip
    split at e
    · rename_i hz
      cases e
      rw [r1.int, r2.int]
      exact osem_of op_mod ⟨_, _, rfl, rfl, hz, post_shr P g (.int _)⟩
    · cases e
  · cases o <;> first | (simp [bopB] at hb; done) | skip
    split at e
    · rename_i hz
      cases e
      rw [r1.int, r2.int]
      exact osem_of op_pow ⟨_, _, rfl, rfl, hz, post_shr P g (.int _)⟩
    · cases e
  · cases e
theorem snd_bin {op : BOp} {a b : E} (ha : SndE G a) (hb : SndE G b) : SndE G (.bin op a b) := by
  intro X W ex K m F0 H0 F H st σ r Q S ev P
  obtain ⟨e, o, f, pos, rfl, ho, m1, m2⟩ := mE_bin m
  refine se_of (pe_op op_sem pe_se pe_se) ?_
  rw [evE] at ev
  exact two (R := fun v u H2 => OSem X (binaryOp o) v u H2 Q) ha hb K m1 m2 S ev P fun k x j y v u H2 F2 e g S2 r1 r2 => leaf_bin K ho e P g r1 r2
theorem snd_neg {a : E} (ha : SndE G a) : SndE G (.neg a) := by
  intro X W ex K m F0 H0 F H st σ r Q S ev P
  obtain ⟨e, pos, rfl, m1⟩ := mE_neg m
  refine se_of (pe_un un_neg pe_se) ?_
  rw [evE] at ev
  refine one ha K m1 S ev P fun k x v H1 F1 e1 e2 g S1 r1 f1 => ?_
  split at e2
  · cases e2
    exact ⟨_, r1.int, post_shr P g (.int _)⟩
  · cases e2

/-! ### comparisons -/
theorem flat_V {F H : Hp} {k : Kd} {x : D} {v : V} (r : RV G.K F H k x v) (f : flat x = true) : flatV v = true := by
  cases x with
  | none => rw [r.none]; rfl
  | bool b => rw [r.bool]; rfl
  | int i => rw [r.int]; rfl
  | str s => rw [r.str]; rfl
  | _ => simp [flat] at f
theorem eqv_V {F H : Hp} {k j : Kd} {x y : D} {v u : V} (r : RV G.K F H k x v) (q : RV G.K F H j y u) (f : flat x = true) (g : flat y = true) : eqV v u = PyData.eqv x y := by
  cases x with
  | none =>
    rw [r.none]
    cases y with
    | none => rw [q.none]; simp [eqV, PyData.eqv]
    | bool b => rw [q.bool]; simp [eqV, PyData.eqv]
    | int i => rw [q.int]; simp [eqV, PyData.eqv]
    | str s => rw [q.str]; simp [eqV, PyData.eqv]
    | _ => simp [flat] at g
  | bool b' =>
    rw [r.bool]
    cases y with
    | none => rw [q.none]; simp [eqV, PyData.eqv]
    | bool b => rw [q.bool]; simp [eqV, PyData.eqv]
    | int i => rw [q.int]; simp [eqV, PyData.eqv]
    | str s => rw [q.str]; simp [eqV, PyData.eqv]
    | _ => simp [flat] at g
  | int i' =>
    rw [r.int]
    cases y with
    | none => rw [q.none]; simp [eqV, PyData.eqv]
    | bool b => rw [q.bool]; simp [eqV, PyData.eqv]
    | int i => rw [q.int]; simp [eqV, PyData.eqv]
    | str s => rw [q.str]; simp [eqV, PyData.eqv]
    | _ => simp [flat] at g
  | str s' =>
    rw [r.str]
    cases y with
    | none => rw [q.none]; simp [eqV, PyData.eqv]
    | bool b => rw [q.bool]; simp [eqV, PyData.eqv]
    | int i => rw [q.int]; simp [eqV, PyData.eqv]
    | str s => rw [q.str]; simp [eqV, PyData.eqv]
    | _ => simp [flat] at g
  | _ => simp [flat] at f
theorem all_flat {F H : Hp} : ∀ {vs : List V} {ys : List D}, Rps G.K F vs ys → ys.all flat = true → vs.all flatV = true
  | _, _, .nil, _ => rfl
  | _, _, .cons a r, f => by
    rw [List.all_cons, Bool.and_eq_true] at f
    rw [List.all_cons, flat_V (H := H) (k := .shr) a f.1, all_flat (H := H) r f.2]
    rfl
theorem any_eqv {F H : Hp} {k : Kd} {x : D} {v : V} (r : RV G.K F H k x v) (fx : flat x = true) : ∀ {vs : List V} {ys : List D}, Rps G.K F vs ys → ys.all flat = true → inV v vs = ys.any fun z => PyData.eqv z x
  | _, _, .nil, _ => rfl
  | _, _, .cons a q, f => by
    rw [List.all_cons, Bool.and_eq_true] at f
    have ih := any_eqv r fx q f.2
    unfold inV at ih ⊢
    rw [List.any_cons, List.any_cons, ih, eqv_V (j := k) (k := .shr) a r f.1 fx]
theorem op_inK {X : Cx} (hu : X.A.units + 64 < cLine) : OpR X (compareOp .In) (fun y x H Q => ∃ a o, x = .ref a ∧ DGet H a y o ∧ Q (.bl o.isSome) H) := by
  intro pins s σ H x y v u Q I rx ry h
  obtain ⟨a, o, rfl, g, q⟩ := h
  cases (show u = Value.ref a from ry)
  exact d_in (by omega) I g rx fun s3 I3 => ⟨.bl o.isSome, H, I3, rfl, q⟩
theorem op_ninK {X : Cx} (hu : X.A.units + 64 < cLine) : OpR X (compareOp .NotIn) (fun y x H Q => ∃ a o, x = .ref a ∧ DGet H a y o ∧ Q (.bl (!o.isSome)) H) := by
  intro pins s σ H x y v u Q I rx ry h
  obtain ⟨a, o, rfl, g, q⟩ := h
  cases (show u = Value.ref a from ry)
  exact d_notIn (by omega) I g rx fun s3 I3 => ⟨.bl (!o.isSome), H, I3, rfl, q⟩
theorem leaf_cmp {W : WX} {X : Cx} {F2 H2 : Hp} {Q : VK} {k j : Kd} {x y : D} {v u : V} {op : COp} {o : CmpOp} {b : Bool} (K : CK G W X) (hb : copB o op = true) (e : cmpD op x y = some b) (s : Sub F2 H2) (P : Q (.bl b) H2)
    (r1 : RV G.K F2 H2 k x v) (r2 : RV G.K F2 H2 j y u) : OSem X (compareOp o) v u H2 Q := by
  unfold cmpD at e
  split at e
  · cases o <;> first | (simp [copB] at hb; done) | skip
    cases e; rw [r1.int, r2.int]; exact osem_of op_lt ⟨_, _, rfl, rfl, P⟩
  · cases o <;> first | (simp [copB] at hb; done) | skip
    cases e; rw [r1.int, r2.int]; exact osem_of op_le ⟨_, _, rfl, rfl, P⟩
  · cases o <;> first | (simp [copB] at hb; done) | skip
    cases e; rw [r1.int, r2.int]; exact osem_of op_gt ⟨_, _, rfl, rfl, P⟩
  · cases o <;> first | (simp [copB] at hb; done) | skip
    cases e; rw [r1.int, r2.int]; exact osem_of op_ge ⟨_, _, rfl, rfl, P⟩
  · cases o <;> first | (simp [copB] at hb; done) | skip
    split at e
    · rename_i h
      cases e
      exact osem_of (op_eqD K.hu) ⟨_, _, r1.dp s (SeqAt.canLay_of_shaped h.1), r2.dp s (SeqAt.canLay_of_shaped h.2), h.1, h.2, P⟩
    · cases e
  · cases o <;> first | (simp [copB] at hb; done) | skip
    split at e
    · rename_i h
      cases e
      exact osem_of (op_neD K.hu) ⟨_, _, r1.dp s (SeqAt.canLay_of_shaped h.1), r2.dp s (SeqAt.canLay_of_shaped h.2), h.1, h.2, P⟩
    · cases e
  · cases o <;> first | (simp [copB] at hb; done) | skip
    cases e
    rw [← r1.isN] at P
    exact osem_of op_isN ⟨r2.none, P⟩
  · cases o <;> first | (simp [copB] at hb; done) | skip
    cases e
    rw [← r1.isN] at P
    exact osem_of op_notN ⟨r2.none, P⟩
  · cases o <;> first | (simp [copB] at hb; done) | skip
    split at e
    · rename_i h
      cases e
      exact osem_of (op_inD K.hu65) ⟨_, _, r1.dp s (SeqAt.canLay_of_shaped h.1), r2.dp s (SeqAt.canLay_of_shaped h.2), h.1, h.2, P⟩
    · cases e
  · cases o <;> first | (simp [copB] at hb; done) | skip
    split at e
    · rename_i h
      cases e
      exact osem_of (op_notInD K.hu65) ⟨_, _, r1.dp s (SeqAt.canLay_of_shaped h.1), r2.dp s (SeqAt.canLay_of_shaped h.2), h.1, h.2, P⟩
    · cases e
  · cases o <;> first | (simp [copB] at hb; done) | skip
    split at e
    · rename_i h
      cases e
      obtain ⟨a, vs, rfl, ea, qa⟩ := r2.tup
      rw [← any_eqv r1 h.1 qa h.2] at P
      exact osem_of op_in_seq ⟨a, vs, rfl, .inr (SqT.of (s _ _ ea)), flat_V r1 h.1, all_flat (H := H2) qa h.2, P⟩
    · cases e
  · cases o <;> first | (simp [copB] at hb; done) | skip
    split at e
    · rename_i h
      cases e
      obtain ⟨a, vs, rfl, ea, qa⟩ := r2.tup
      rw [← any_eqv r1 h.1 qa h.2] at P
      exact osem_of op_notIn_seq ⟨a, vs, rfl, .inr (SqT.of (s _ _ ea)), flat_V r1 h.1, all_flat (H := H2) qa h.2, P⟩
    · cases e
  · cases o <;> first | (simp [copB] at hb; done) | skip
    rename_i i kvs
    split at e
    · rename_i h
      cases e
      obtain ⟨a, ks, rfl, ea, qa⟩ := r2.dictI s h
      rw [r1.int]
      have g := DGet.k (k := Sum.inl i) ea
      rcases qa.val i with ⟨w, d, e1, e2, _⟩ | ⟨e1, e2⟩
      · rw [e1] at g; rw [e2] at P
        exact osem_of (op_inK K.hu) ⟨a, _, rfl, g, P⟩
      · rw [e1] at g; rw [e2] at P
        exact osem_of (op_inK K.hu) ⟨a, _, rfl, g, P⟩
    · cases e
  · cases o <;> first | (simp [copB] at hb; done) | skip
    rename_i i kvs
    split at e
    · rename_i h
      cases e
      obtain ⟨a, ks, rfl, ea, qa⟩ := r2.dictI s h
      rw [r1.int]
      have g := DGet.k (k := Sum.inl i) ea
      rcases qa.val i with ⟨w, d, e1, e2, _⟩ | ⟨e1, e2⟩
      · rw [e1] at g; rw [e2] at P
        exact osem_of (op_ninK K.hu) ⟨a, _, rfl, g, P⟩
      · rw [e1] at g; rw [e2] at P
        exact osem_of (op_ninK K.hu) ⟨a, _, rfl, g, P⟩
    · cases e
  · cases o <;> first | (simp [copB] at hb; done) | skip
    split at e
    · rename_i xs kvs r nk h1 h2
      cases e
      obtain ⟨a, ys, rfl, ea, qa⟩ := r2.tk s h1
      obtain ⟨b, vs, rfl, eb, qb⟩ := r1.tup
      obtain ⟨h3, h4⟩ := tkey_all h2
      exact osem_of (op_inX K.hu) ⟨a, G.K, F2, ys, r, _, nk, rfl, ⟨s, ea, qa, h3, h4, .tup eb qb, ⟨b, rfl⟩⟩, P⟩
    · cases e
  · cases o <;> first | (simp [copB] at hb; done) | skip
    split at e
    · rename_i xs kvs r nk h1 h2
      cases e
      obtain ⟨a, ys, rfl, ea, qa⟩ := r2.tk s h1
      obtain ⟨b, vs, rfl, eb, qb⟩ := r1.tup
      obtain ⟨h3, h4⟩ := tkey_all h2
      exact osem_of (op_ninX K.hu) ⟨a, G.K, F2, ys, r, _, nk, rfl, ⟨s, ea, qa, h3, h4, .tup eb qb, ⟨b, rfl⟩⟩, P⟩
    · cases e
  · cases e
theorem map_bool {o : Option Bool} {r : EO} (e : (o.map fun b => EO.ok .shr (.bool b)) = some r) : ∃ b, o = some b ∧ r = .ok .shr (.bool b) := by
  cases o with
  | none => cases e
  | some b => cases e; exact ⟨b, rfl, rfl⟩
/-- the reading of a comparison: PostE asked of the bools alone -/
theorem read_cmp {W : WX} {X : Cx} {op : COp} {a b : E} {e f : Expr} {o : CmpOp} (ha : SndE G a) (hb : SndE G b) (K : CK G W X) (ho : copB o op = true) (m1 : mE (cc G X) X.env.scope a e = true) (m2 : mE (cc G X) X.env.scope b f = true)
    {F0 H0 F H : Hp} {st : Ev} {σ : L2.St} {r : EO} {Q : VK} (S : StOK G.K F0 H0 F H st σ) (ev : evE G.Φ (.cmp op a b) st = some r) (P : PostE G W σ F H r Q) : tOp (OSem X (compareOp o)) (SE X e) (SE X f) σ H Q := by
  rw [evE] at ev
  refine two (R := fun v u H2 => OSem X (compareOp o) v u H2 Q) ha hb K m1 m2 S ev P fun k x j y v u H2 F2 e g S2 r1 r2 => ?_
  obtain ⟨b, e1, rfl⟩ := map_bool e
  exact leaf_cmp K ho e1 g.fh (post_shr P g (.bl b)) r1 r2
theorem snd_cmp {op : COp} {a b : E} (ha : SndE G a) (hb : SndE G b) : SndE G (.cmp op a b) := by
  intro X W ex K m F0 H0 F H st σ r Q S ev P
  obtain ⟨e, o, f, pos, rfl, ho, m1, m2⟩ := mE_cmp m
  exact se_of (pe_cmpR op_sem pe_se pe_se (ok_mark (mE_ok m2))) (read_cmp ha hb K ho m1 m2 S ev P)
/-- what is wanted of a test, as of an expression -/
theorem PostT.toE {W : WX} {σ : L2.St} {F H : Hp} {r : EO} {Q : Bool → Hp → Prop} (P : PostT G W σ F H r Q) : PostE G W σ F H r fun x H' => ∃ k, x = .bl k ∧ Q k H' := by
  cases r with
  | ex c => exact P
  | ok k d =>
    intro v H' F' g r f
    cases k with
    | shr =>
      cases d with
      | bool b => exact ⟨b, r.bool, P H' F' g⟩
      | _ => exact False.elim P
    | brw => cases d <;> exact False.elim P
    | frs => cases d <;> exact False.elim P
theorem snt_cmp {op : COp} {a b : E} (ha : SndE G a) (hb : SndE G b) : SndT G (.cmp op a b) := by
  intro X W ex K m F0 H0 F H st σ r Q S ev P
  obtain ⟨e, o, f, pos, rfl, ho, m1, m2⟩ := mE_cmp m
  exact st_of (pt_cmpR op_sem pe_se pe_se (ok_mark (mE_ok m2))) (read_cmp ha hb K ho m1 m2 S ev P.toE)
theorem read_chn {W : WX} {X : Cx} {op op' : COp} {a b d : E} {e f g : Expr} {o o' : CmpOp} (ha : SndE G a) (hb : SndE G b) (hd : SndE G d) (K : CK G W X) (ho : copB o op = true) (ho' : copB o' op' = true) (m1 : mE (cc G X) X.env.scope a e = true) (m2 : mE (cc G X) X.env.scope b f = true) (m3 : mE (cc G X) X.env.scope d g = true)
    {F0 H0 F H : Hp} {st : Ev} {σ : L2.St} {r : EO} {Q : VK} (S : StOK G.K F0 H0 F H st σ) (ev : evE G.Φ (.chn op op' a b d) st = some r) (P : PostE G W σ F H r Q) :
    tChain (OSem X (compareOp o)) (OSem X (compareOp o')) (SE X e) (SE X f) (SE X g) σ H Q := by
  rw [evE] at ev
  refine two (R := fun v u H2 => OSem X (compareOp o) v u H2 fun z H3 => ∃ k, z = .bl k ∧ (if k = true then SE X g σ H3 fun w' H4 => OSem X (compareOp o') u w' H4 Q else Q (.bl false) H3)) ha hb K m1 m2 S ev P fun k x j y v u H2 F2 e1 g1 S1 r1 r2 => ?_
  split at e1
  · rename_i c1
    refine leaf_cmp K ho c1 g1.fh ⟨true, rfl, ?_⟩ r1 r2
    rw [if_pos rfl]
    refine one hd K m3 S1 e1 (P.gr g1) fun k3 z w3 H3 F3 e2 e3 g2 S2 r3 f3 => ?_
    obtain ⟨b, e4, rfl⟩ := map_bool e3
    exact leaf_cmp K ho' e4 g2.fh (post_shr P (g1.trans g2) (.bl b)) (r2.gr g2) r3
  · rename_i c1
    cases e1
    refine leaf_cmp K ho c1 g1.fh ⟨false, rfl, ?_⟩ r1 r2
    rw [if_neg Bool.false_ne_true]
    exact post_shr P g1 (.bl false)
  · cases e1
theorem last_mark {o o' : CmpOp} {f g : Expr} (h : okEx g = true) : lastMarks [o, o'] [f, g] = false := by
  show behindInMarks o' g = false
  exact ok_mark h
theorem snd_chn {op op' : COp} {a b d : E} (ha : SndE G a) (hb : SndE G b) (hd : SndE G d) : SndE G (.chn op op' a b d) := by
  intro X W ex K m F0 H0 F H st σ r Q S ev P
  obtain ⟨e, o, o', f, g, pos, rfl, ho, ho', m1, m2, m3⟩ := mE_chn m
  exact se_of (pe_chain op_sem op_sem pe_se pe_se pe_se (last_mark (mE_ok m3))) (read_chn ha hb hd K ho ho' m1 m2 m3 S ev P)
theorem snt_chn {op op' : COp} {a b d : E} (ha : SndE G a) (hb : SndE G b) (hd : SndE G d) : SndT G (.chn op op' a b d) := by
  intro X W ex K m F0 H0 F H st σ r Q S ev P
  obtain ⟨e, o, o', f, g, pos, rfl, ho, ho', m1, m2, m3⟩ := mE_chn m
  exact st_of (pt_chain op_sem op_sem pe_se pe_se pe_se (last_mark (mE_ok m3))) (read_chn ha hb hd K ho ho' m1 m2 m3 S ev P.toE)

/-! ### and, or, not -/
theorem snd_not {a : E} (ha : SndE G a) : SndE G (.not a) := by
  intro X W ex K m F0 H0 F H st σ r Q S ev P
  obtain ⟨e, pos, rfl, m1⟩ := mE_not m
  refine se_of (pe_not pe_se) ?_
  rw [evE] at ev
  rcases boolV_some ev with ⟨b, e1, e2⟩ | ⟨c, e1, rfl⟩
  · cases e2
    exact ha X W e K m1 F0 H0 F H st σ _ _ S e1 fun v H1 F1 g1 r1 f1 => ⟨b, r1.bool, post_shr P g1 (.bl _)⟩
  · exact ha X W e K m1 F0 H0 F H st σ _ _ S e1 P
theorem snt_not {a : E} (ha : SndT G a) : SndT G (.not a) := by
  intro X W ex K m F0 H0 F H st σ r Q S ev P
  obtain ⟨e, pos, rfl, m1⟩ := mE_not m
  refine st_of (pt_not pt_st) ?_
  rw [evE] at ev
  rcases boolV_some ev with ⟨b, e1, e2⟩ | ⟨c, e1, rfl⟩
  · cases e2
    exact ha X W e K m1 F0 H0 F H st σ _ _ S e1 fun H1 F1 g1 => P H1 F1 g1
  · exact ha X W e K m1 F0 H0 F H st σ _ _ S e1 P
theorem PostT.gr {W : WX} {σ : L2.St} {F H F' H' : Hp} {r : EO} {Q : Bool → Hp → Prop} (P : PostT G W σ F H r Q) (g : Gr F H F' H') : PostT G W σ F' H' r Q := by
  cases r with
  | ex c => exact fun H2 s => P H2 (g.hh.trans s)
  | ok k d =>
    cases k with
    | shr =>
      cases d with
      | bool b => exact fun H2 F2 g2 => P H2 F2 (g.trans g2)
      | _ => exact P
    | brw => cases d <;> exact False.elim P
    | frs => cases d <;> exact False.elim P
def SndAll (G : GI) (es : List E) : Prop := ∀ e ∈ es, SndE G e
def SntAll (G : GI) (es : List E) : Prop := ∀ e ∈ es, SndT G e
theorem and_se {W : WX} {X : Cx} (K : CK G W X) {pos : Pos} : ∀ (es : List E) (vs : List Expr), SndAll G es → mL (cc G X) X.env.scope es vs = true → ∀ (F0 H0 F H : Hp) (st : Ev) (σ : L2.St) (r : EO) (Q : VK), StOK G.K F0 H0 F H st σ → evAnd G.Φ es st = some r → PostE G W σ F H r Q →
    SE X (.BoolOp .And vs pos) σ H Q
  | [], vs, _, _, _, _, _, _, _, _, _, _, _, ev, _ => by rw [evAnd] at ev; cases ev
  | [e], vs, h, m, F0, H0, F, H, st, σ, r, Q, S, ev, P => by
    obtain ⟨v, ws, rfl, m1, m2⟩ := mL_cons m
    cases mL_nil m2
    rw [evAnd] at ev
    exact se_of (pe_one pe_se) (h e (by simp) X W v K m1 F0 H0 F H st σ r Q S ev P)
  | e :: e2 :: es, vs, h, m, F0, H0, F, H, st, σ, r, Q, S, ev, P => by
    obtain ⟨v, ws, rfl, m1, m2⟩ := mL_cons m
    obtain ⟨v2, ws2, rfl, m3, m4⟩ := mL_cons m2
    rw [evAnd] at ev
    refine se_of (pe_and pe_se pe_se) ?_
    rcases boolV_some ev with ⟨b, e1, e3⟩ | ⟨c, e1, rfl⟩
    · refine h e (by simp) X W v K m1 F0 H0 F H st σ _ _ S e1 fun x H1 F1 g1 r1 f1 => ⟨b, r1.bool, ?_⟩
      cases b with
      | true =>
        rw [if_pos rfl] at e3 ⊢
        exact and_se K (e2 :: es) (v2 :: ws2) (fun x hx => h x (by simp at hx ⊢; exact .inr hx)) m2 F0 H0 F1 H1 st σ r Q (S.mono g1) e3 (P.gr g1)
      | false =>
        rw [if_neg Bool.false_ne_true] at e3 ⊢
        cases e3
        exact post_shr P g1 (.bl false)
    · exact h e (by simp) X W v K m1 F0 H0 F H st σ _ _ S e1 P
theorem or_se {W : WX} {X : Cx} (K : CK G W X) {pos : Pos} : ∀ (es : List E) (vs : List Expr), SndAll G es → mL (cc G X) X.env.scope es vs = true → ∀ (F0 H0 F H : Hp) (st : Ev) (σ : L2.St) (r : EO) (Q : VK), StOK G.K F0 H0 F H st σ → evOr G.Φ es st = some r → PostE G W σ F H r Q →
    SE X (.BoolOp .Or vs pos) σ H Q
  | [], vs, _, _, _, _, _, _, _, _, _, _, _, ev, _ => by rw [evOr] at ev; cases ev
  | [e], vs, h, m, F0, H0, F, H, st, σ, r, Q, S, ev, P => by
    obtain ⟨v, ws, rfl, m1, m2⟩ := mL_cons m
    cases mL_nil m2
    rw [evOr] at ev
    exact se_of (pe_one pe_se) (h e (by simp) X W v K m1 F0 H0 F H st σ r Q S ev P)
  | e :: e2 :: es, vs, h, m, F0, H0, F, H, st, σ, r, Q, S, ev, P => by
    obtain ⟨v, ws, rfl, m1, m2⟩ := mL_cons m
    obtain ⟨v2, ws2, rfl, m3, m4⟩ := mL_cons m2
    rw [evOr] at ev
    refine se_of (pe_or pe_se pe_se) ?_
    rcases boolV_some ev with ⟨b, e1, e3⟩ | ⟨c, e1, rfl⟩
    · refine h e (by simp) X W v K m1 F0 H0 F H st σ _ _ S e1 fun x H1 F1 g1 r1 f1 => ⟨b, r1.bool, ?_⟩
      cases b with
      | false =>
        rw [if_neg Bool.false_ne_true] at e3 ⊢
        exact or_se K (e2 :: es) (v2 :: ws2) (fun x hx => h x (by simp at hx ⊢; exact .inr hx)) m2 F0 H0 F1 H1 st σ r Q (S.mono g1) e3 (P.gr g1)
      | true =>
        rw [if_pos rfl] at e3 ⊢
        cases e3
        exact post_shr P g1 (.bl true)
    · exact h e (by simp) X W v K m1 F0 H0 F H st σ _ _ S e1 P
/-- .. as tests, by PW -/
def SW (X : Cx) (e : Expr) : TT := fun σ H Q => ∀ (whole : Sem Value) (pins : List (Addr × Obj)) (s : Shared), Inv X pins σ H s → wpAny (model X.prog X.w) X.A (isTrue e X.env whole) (TP X pins σ Q) X.xe s
theorem pw_sw {X : Cx} {e : Expr} : PW X e (SW X e) := ⟨fun wh pins s _ _ _ I h => h wh pins s I⟩
theorem sw_of {X : Cx} {e : Expr} {t : TT} {σ : L2.St} {H : Hp} {Q : Bool → Hp → Prop} (h : PW X e t) (ht : t σ H Q) : SW X e σ H Q := fun wh pins s I => h.run wh pins s σ H Q I ht
theorem and_sw {W : WX} {X : Cx} (K : CK G W X) {pos : Pos} : ∀ (es : List E) (vs : List Expr), SntAll G es → mL (cc G X) X.env.scope es vs = true → ∀ (F0 H0 F H : Hp) (st : Ev) (σ : L2.St) (r : EO) (Q : Bool → Hp → Prop), StOK G.K F0 H0 F H st σ → evAnd G.Φ es st = some r → PostT G W σ F H r Q →
    SW X (.BoolOp .And vs pos) σ H Q
  | [], vs, _, _, _, _, _, _, _, _, _, _, _, ev, _ => by rw [evAnd] at ev; cases ev
  | [e], vs, h, m, F0, H0, F, H, st, σ, r, Q, S, ev, P => by
    obtain ⟨v, ws, rfl, m1, m2⟩ := mL_cons m
    cases mL_nil m2
    rw [evAnd] at ev
    exact sw_of (pw_and1 pt_st) (h e (by simp) X W v K m1 F0 H0 F H st σ r Q S ev P)
  | e :: e2 :: es, vs, h, m, F0, H0, F, H, st, σ, r, Q, S, ev, P => by
    obtain ⟨v, ws, rfl, m1, m2⟩ := mL_cons m
    obtain ⟨v2, ws2, rfl, m3, m4⟩ := mL_cons m2
    rw [evAnd] at ev
    refine sw_of (pw_and pt_st pw_sw) ?_
    rcases boolV_some ev with ⟨b, e1, e3⟩ | ⟨c, e1, rfl⟩
    · refine h e (by simp) X W v K m1 F0 H0 F H st σ _ _ S e1 fun H1 F1 g1 => ?_
      cases b with
      | true =>
        rw [if_pos rfl] at e3 ⊢
        exact and_sw K (e2 :: es) (v2 :: ws2) (fun x hx => h x (by simp at hx ⊢; exact .inr hx)) m2 F0 H0 F1 H1 st σ r Q (S.mono g1) e3 (P.gr g1)
      | false =>
        rw [if_neg Bool.false_ne_true] at e3 ⊢
        cases e3
        exact P H1 F1 g1
    · exact h e (by simp) X W v K m1 F0 H0 F H st σ _ _ S e1 P
theorem or_sw {W : WX} {X : Cx} (K : CK G W X) {pos : Pos} : ∀ (es : List E) (vs : List Expr), SntAll G es → mL (cc G X) X.env.scope es vs = true → ∀ (F0 H0 F H : Hp) (st : Ev) (σ : L2.St) (r : EO) (Q : Bool → Hp → Prop), StOK G.K F0 H0 F H st σ → evOr G.Φ es st = some r → PostT G W σ F H r Q →
    SW X (.BoolOp .Or vs pos) σ H Q
  | [], vs, _, _, _, _, _, _, _, _, _, _, _, ev, _ => by rw [evOr] at ev; cases ev
  | [e], vs, h, m, F0, H0, F, H, st, σ, r, Q, S, ev, P => by
    obtain ⟨v, ws, rfl, m1, m2⟩ := mL_cons m
    cases mL_nil m2
    rw [evOr] at ev
    exact sw_of (pw_or1 pt_st) (h e (by simp) X W v K m1 F0 H0 F H st σ r Q S ev P)
  | e :: e2 :: es, vs, h, m, F0, H0, F, H, st, σ, r, Q, S, ev, P => by
    obtain ⟨v, ws, rfl, m1, m2⟩ := mL_cons m
    obtain ⟨v2, ws2, rfl, m3, m4⟩ := mL_cons m2
    rw [evOr] at ev
    refine sw_of (pw_or pt_st pw_sw) ?_
    rcases boolV_some ev with ⟨b, e1, e3⟩ | ⟨c, e1, rfl⟩
    · refine h e (by simp) X W v K m1 F0 H0 F H st σ _ _ S e1 fun H1 F1 g1 => ?_
      cases b with
      | false =>
        rw [if_neg Bool.false_ne_true] at e3 ⊢
        exact or_sw K (e2 :: es) (v2 :: ws2) (fun x hx => h x (by simp at hx ⊢; exact .inr hx)) m2 F0 H0 F1 H1 st σ r Q (S.mono g1) e3 (P.gr g1)
      | true =>
        rw [if_pos rfl] at e3 ⊢
        cases e3
        exact P H1 F1 g1
    · exact h e (by simp) X W v K m1 F0 H0 F H st σ _ _ S e1 P
theorem snd_and {es : List E} (h : SndAll G es) : SndE G (.and es) := by
  intro X W ex K m F0 H0 F H st σ r Q S ev P
  obtain ⟨vs, pos, rfl, m1⟩ := mE_and m
  rw [evE] at ev
  exact and_se K es vs h m1 F0 H0 F H st σ r Q S ev P
theorem snd_or {es : List E} (h : SndAll G es) : SndE G (.or es) := by
  intro X W ex K m F0 H0 F H st σ r Q S ev P
  obtain ⟨vs, pos, rfl, m1⟩ := mE_or m
  rw [evE] at ev
  exact or_se K es vs h m1 F0 H0 F H st σ r Q S ev P
theorem snt_and {es : List E} (h : SntAll G es) : SndT G (.and es) := by
  intro X W ex K m F0 H0 F H st σ r Q S ev P
  obtain ⟨vs, pos, rfl, m1⟩ := mE_and m
  rw [evE] at ev
  exact st_of pw_sw.pt (and_sw K es vs h m1 F0 H0 F H st σ r Q S ev P)
theorem snt_or {es : List E} (h : SntAll G es) : SndT G (.or es) := by
  intro X W ex K m F0 H0 F H st σ r Q S ev P
  obtain ⟨vs, pos, rfl, m1⟩ := mE_or m
  rw [evE] at ev
  exact st_of pw_sw.pt (or_sw K es vs h m1 F0 H0 F H st σ r Q S ev P)
theorem snd_ife {d a b : E} (hd : SndT G d) (ha : SndE G a) (hb : SndE G b) : SndE G (.ife d a b) := by
  intro X W ex K m F0 H0 F H st σ r Q S ev P
  obtain ⟨e, f, g, pos, rfl, m1, m2, m3⟩ := mE_ife m
  refine se_of (pe_ifExp pt_st pe_se pe_se) ?_
  rw [evE] at ev
  rcases boolV_some ev with ⟨b, e1, e3⟩ | ⟨c, e1, rfl⟩
  · refine hd X W e K m1 F0 H0 F H st σ _ _ S e1 fun H1 F1 g1 => ?_
    cases b with
    | true =>
      rw [if_pos rfl] at e3 ⊢
      exact ha X W f K m2 F0 H0 F1 H1 st σ r Q (S.mono g1) e3 (P.gr g1)
    | false =>
      rw [if_neg Bool.false_ne_true] at e3 ⊢
      exact hb X W g K m3 F0 H0 F1 H1 st σ r Q (S.mono g1) e3 (P.gr g1)
  · exact hd X W e K m1 F0 H0 F H st σ _ _ S e1 P
/-- a test that is its value's truth -/
theorem snt_val {e : E} (h : SndE G e) (hi : ∀ (c : Cc) (sc : Scope) (ex : Expr), mE c sc e ex = true → ∀ (env : Env) (whole : Sem Value), isTrue ex env whole = (do let v ← whole; standAt ex.pos; holding [v] (truthy v))) : SndT G e := by
  intro X W ex K m F0 H0 F H st σ r Q S ev P
  exact st_of (pt_val pe_se (hi _ _ _ m X.env)) (h X W ex K m F0 H0 F H st σ r _ S ev P.toE)
end
end Dv

/-! Dv, part F: arguments, displays, items, slices, calls. -/
namespace Dv
open PySem PySem.Spec PyProof.Rows L2

section
variable {G : GI}
/-! ### argument lists -/
def RA (G : GI) (F H : Hp) (k : Kd) (d : D) (v : V) : Prop :=
  match k with
  | .brw => RV G.K F H .brw d v
  | _ => Rp G.K F v d
theorem RA.gr {F H F' H' : Hp} {k : Kd} {d : D} {v : V} (r : RA G F H k d v) (g : Gr F H F' H') : RA G F' H' k d v := by
  cases k with
  | brw => exact RV.gr (k := .brw) r g
  | shr => exact Rp.to r g.ff
  | frs => exact Rp.to r g.ff
inductive RVs (G : GI) (F H : Hp) : List V → List (Kd × D) → Prop
  | nil : RVs G F H [] []
  | cons {v : V} {vs : List V} {k : Kd} {d : D} {xs : List (Kd × D)} : RA G F H k d v → RVs G F H vs xs → RVs G F H (v :: vs) ((k, d) :: xs)
theorem RVs.gr {F H F' H' : Hp} (g : Gr F H F' H') : ∀ {vs : List V} {xs : List (Kd × D)}, RVs G F H vs xs → RVs G F' H' vs xs
  | _, _, .nil => .nil
  | _, _, .cons a r => .cons (a.gr g) (RVs.gr g r)
theorem RVs.length {F H : Hp} : ∀ {vs : List V} {xs : List (Kd × D)}, RVs G F H vs xs → vs.length = xs.length
  | _, _, .nil => rfl
  | _, _, .cons _ r => by rw [List.length_cons, List.length_cons, RVs.length r]
theorem RVs.plain {F H : Hp} : ∀ {vs : List V} {xs : List (Kd × D)}, RVs G F H vs xs → noBrw xs = true → Rps G.K F vs (xs.map (·.2))
  | _, _, .nil, _ => .nil
  | _, (k, d) :: xs, .cons a r, n => by
    simp only [noBrw, List.all_cons, Bool.and_eq_true, decide_eq_true_eq] at n
    refine .cons ?_ (RVs.plain r (by simpa [noBrw] using n.2))
    cases k with
    | brw => exact absurd rfl n.1
    | shr => exact a
    | frs => exact a
/-- all told in F: the borrowed ones too -/
theorem RVs.frozen {F H : Hp} : ∀ {vs : List V} {xs : List (Kd × D)}, RVs G F H vs xs → ∀ F1, Sub F F1 → Sub F1 H → ∃ F', Sub F1 F' ∧ Sub F' H ∧ Rps G.K F' vs (xs.map (·.2))
  | _, _, .nil, F1, _, h => ⟨F1, Sub.refl F1, h, .nil⟩
  | _, (k, d) :: xs, .cons (v := v) a r, F1, f, h => by
    have first : ∃ F2, Sub F1 F2 ∧ Sub F2 H ∧ Rp G.K F2 v d := by
      have plain : Rp G.K F v d → ∃ F2, Sub F1 F2 ∧ Sub F2 H ∧ Rp G.K F2 v d := fun q => ⟨F1, Sub.refl F1, h, q.to f⟩
      cases k with
      | shr => exact plain a
      | frs => exact plain a
      | brw =>
        obtain ⟨p, rfl, n, t⟩ := a
        cases q : F1 p with
        | none =>
          obtain ⟨F2, h1, h2, h3, _⟩ := (t.mono f rfl).freeze h q
          exact ⟨F2, h1, h2, h3⟩
        | some o =>
          refine ⟨F1, Sub.refl F1, h, ?_⟩
          have e := h p o q
          cases d with
          | list ds =>
            obtain ⟨ws, e2, r2⟩ := t
            rw [e2] at e; cases e
            exact .lst q (r2.to f)
          | dict kvs =>
            rcases t with ⟨ws, e2, r2⟩ | ⟨ys, r, e0, e2, r2⟩
            · rw [e2] at e; cases e
              exact .dic q (r2.mono' f)
            · subst e0
              rw [e2] at e; cases e
              exact .tk q (r2.mono' f)
          | _ => exact False.elim t
    obtain ⟨F2, f2, h2, q2⟩ := first
    obtain ⟨F3, f3, h3, q3⟩ := RVs.frozen r F2 (f.trans f2) h2
    exact ⟨F3, f2.trans f3, h3, .cons (q2.to f3) q3⟩
def PostA (G : GI) (W : WX) (σ : L2.St) (F H : Hp) (r : AO) (Q : List V → Hp → Prop) : Prop :=
  match r with
  | .ok xs => ∀ vs H' F', Gr F H F' H' → RVs G F' H' vs xs → Q vs H'
  | .ex c => ∀ H', Sub H H' → W (.ref (G.ea c)) none σ H'
/-- told in F, a new one too -/
theorem shareA {F H F1 H1 : Hp} {k : Kd} {d : D} {v : V} (g : Gr F H F1 H1) (r : RV G.K F1 H1 k d v) (f : Fresh H k v) : ∃ F2, Gr F H F2 H1 ∧ RA G F2 H1 k d v := by
  cases k with
  | shr => exact ⟨F1, g, r⟩
  | brw => exact ⟨F1, g, r⟩
  | frs =>
    obtain ⟨p, rfl, n, t⟩ := r
    obtain ⟨F2, f1, f2, q, f3⟩ := t.freeze g.fh n
    refine ⟨F2, ⟨g.ff.trans f1, f2, g.hh, fun a o e => ?_⟩, q⟩
    rcases f3 a o e with z | z
    · exact g.nw a o z
    · subst z; exact .inr (f rfl a rfl)
theorem args_sa {W : WX} {X : Cx} (K : CK G W X) : ∀ (es : List E) (vs : List Expr), SndAll G es → mL (cc G X) X.env.scope es vs = true → ∀ (F0 H0 F H : Hp) (st : Ev) (σ : L2.St) (r : AO) (Q : List V → Hp → Prop), StOK G.K F0 H0 F H st σ → evL G.Φ es st = some r → PostA G W σ F H r Q →
    SA X vs σ H Q
  | [], vs, _, m, F0, H0, F, H, st, σ, r, Q, S, ev, P => by
    cases mL_nil m
    rw [evL] at ev
    cases ev
    exact sa_of pa_nil (P [] H F (Gr.refl S.fh) .nil)
  | e :: es, vs, h, m, F0, H0, F, H, st, σ, r, Q, S, ev, P => by
    obtain ⟨v, ws, rfl, m1, m2⟩ := mL_cons m
    refine sa_of (pa_cons pe_se pa_sa (ok_star (mE_ok m1))) ?_
    rw [evL] at ev
    unfold consA at ev
    split at ev
    · rename_i k d e1
      refine h e (by simp) X W v K m1 F0 H0 F H st σ _ _ S e1 fun x H1 F1 g1 r1 f1 => ?_
      obtain ⟨F2, g2, r2⟩ := shareA g1 r1 f1
      have hs : SndAll G es := fun x hx => h x (by simp; exact .inr hx)
      split at ev
      · rename_i xs e2
        cases ev
        exact args_sa K es ws hs m2 F0 H0 F2 H1 st σ _ _ (S.mono g2) e2 fun ys H3 F3 g3 r3 => P (x :: ys) H3 F3 (g2.trans g3) (.cons (r2.gr g3) r3)
      · rename_i c e2
        cases ev
        exact args_sa K es ws hs m2 F0 H0 F2 H1 st σ _ _ (S.mono g2) e2 fun H3 s3 => P H3 (g2.hh.trans s3)
      · cases ev
    · rename_i c e1
      cases ev
      exact h e (by simp) X W v K m1 F0 H0 F H st σ _ _ S e1 P
    · cases ev
theorem snd_tup {es : List E} (h : SndAll G es) : SndE G (.tup es) := by
  intro X W ex K m F0 H0 F H st σ r Q S ev P
  obtain ⟨vs, k, pos, rfl, m1⟩ := mE_tup m
  refine se_of (pe_tup pa_sa) ?_
  rw [evE] at ev
  rcases bindA_some ev with ⟨xs, e1, e2⟩ | ⟨c, e1, rfl⟩
  · split at e2
    · rename_i hz
      cases e2
      refine args_sa K es vs h m1 F0 H0 F H st σ _ _ S e1 fun ws H1 F1 g r => ⟨sizeL (by rw [r.length]; exact hz.2), fun p n => post_tup P g (r.plain hz.1) n⟩
    · cases e2
  · exact args_sa K es vs h m1 F0 H0 F H st σ _ _ S e1 P
theorem snd_lst {es : List E} (h : SndAll G es) : SndE G (.lst es) := by
  intro X W ex K m F0 H0 F H st σ r Q S ev P
  obtain ⟨vs, pos, rfl, m1⟩ := mE_lst m
  refine se_of (pe_lst pa_sa) ?_
  rw [evE] at ev
  rcases bindA_some ev with ⟨xs, e1, e2⟩ | ⟨c, e1, rfl⟩
  · split at e2
    · rename_i hz
      cases e2
      refine args_sa K es vs h m1 F0 H0 F H st σ _ _ S e1 fun ws H1 F1 g r => ⟨sizeL (by rw [r.length]; exact hz.2), fun p n => post_lst P g (r.plain hz.1) n⟩
    · cases e2
  · exact args_sa K es vs h m1 F0 H0 F H st σ _ _ S e1 P
theorem snd_dic : SndE G .dic := by
  intro X W ex K m F0 H0 F H st σ r Q S ev P
  obtain ⟨pos, rfl⟩ := mE_dic m
  rw [evE] at ev
  cases ev
  refine se_of pe_dnewK ?_
  intro p n
  exact P _ _ F (Gr.lay S.fh n _) ⟨p, rfl, S.fh.none n, .inl ⟨[], upd_same, .nil⟩⟩ fun _ q e => by cases e; exact n
theorem snd_dicT : SndE G .dicT := by
  intro X W ex K m F0 H0 F H st σ r Q S ev P
  obtain ⟨pos, rfl⟩ := mE_dicT m
  rw [evE] at ev
  cases ev
  refine se_of pe_dnewX ?_
  intro p n
  exact P _ _ F (Gr.lay S.fh n _) ⟨p, rfl, S.fh.none n, .inr ⟨[], [], rfl, upd_same, .nil⟩⟩ fun _ q e => by cases e; exact n
/-! ### a def's call -/
theorem scalar_rp {F F' : Hp} {v : V} {d : D} (r : Rp G.K F v d) (s : scalar d = true) : Rp G.K F' v d := by
  cases r <;> first | (simp [scalar, flat, scrD, tkD] at s; done) | constructor
theorem snd_call {f : Str} {es : List E} (h : SndAll G es) : SndE G (.call f es) := by
  intro X W ex K m F0 H0 F H st σ r Q S ev P
  obtain ⟨g, v, vs, pos, rfl, hg, m1⟩ := mE_call m
  obtain ⟨p2, rfl, hgl, hpl⟩ := isG_name hg
  obtain ⟨h1, h2, h3⟩ := plain_all hpl
  have mk : ∀ (hr : ∃ ds r', G.Φ f ds = some r'), ∃ fa fd ps, X.mg f = some (.ref fa) ∧ PySem.W.keepIn X.K (.ref fa) = true ∧ Binds X.K fd ps [] ∧ FnOk X.prog X.w X.K X.mg X.base (L2.CX X.prog X.w) G.k fa fd ps (spOf G.K G.ea (G.Φ f)) := fun ⟨ds, r', e⟩ => K.fn f ds r' e
  rw [evE] at ev
  have star : starEach (v :: vs) X.env = (false, eval v X.env) :: starEach vs X.env := by
    cases es with
    | nil => simp [mL] at m1
    | cons e es =>
      obtain ⟨v', ws, ev', m2, m3⟩ := mL_cons m1
      cases ev'
      exact ok_star (mE_ok m2)
  have stars : ∀ (es : List E) (vs : List Expr), mL (cc G X) X.env.scope es vs = true → (backTo pos (starEach vs X.env)).any (·.1) = false := by
    intro es
    induction es with
    | nil => intro vs m; cases mL_nil m; rfl
    | cons e es ih =>
      intro vs m
      obtain ⟨v', ws, rfl, m2, m3⟩ := mL_cons m
      rw [ok_star (mE_ok m2)]
      show (false || (backTo pos (starEach ws X.env)).any (·.1)) = false
      rw [ih ws m3]
      rfl
  have tail : (backTo pos (starEach vs X.env)).any (·.1) = false := by
    cases es with
    | nil => simp [mL] at m1
    | cons e es =>
      obtain ⟨v', ws, ev', m2, m3⟩ := mL_cons m1
      cases ev'
      exact stars es _ m3
  split at ev
  · rename_i xs e1
    have e2 := ev
    unfold okCall at e2
    split at e2
    · rename_i nb
      obtain ⟨fa, fd, ps, k1, k2, k3, k4⟩ := mk ⟨_, _, e2⟩
      refine se_of (pe_callS k4 K.room (glB_gl hgl) k1 k2 k3 (fun σ => passAt K.tk σ) pa_sa h1 star tail) ?_
      refine args_sa K es (v :: vs) h m1 F0 H0 F H st σ _ _ S e1 fun ws H1 F1 g r' => ?_
      refine ⟨F1, _, _, g.fh, r'.plain nb, e2, ?_⟩
      cases r with
      | ok k d => exact fun v' H' F' g' r2 f2 => P v' H' F' (g.trans g') r2 fun e p q => g.hh.none (f2 e p q)
      | ex c => exact fun H' s => P H' (g.hh.trans s)
    · rename_i nb
      split at e2
      · rename_i d e3
        split at e2
        · rename_i hs
          cases e2
          obtain ⟨fa, fd, ps, k1, k2, k3, k4⟩ := mk ⟨_, _, e3⟩
          refine se_of (pe_callS k4 K.room (glB_gl hgl) k1 k2 k3 (fun σ => passAt K.tk σ) pa_sa h1 star tail) ?_
          refine args_sa K es (v :: vs) h m1 F0 H0 F H st σ _ _ S e1 fun ws H1 F1 g r' => ?_
          obtain ⟨F2, f2, h2', q2⟩ := r'.frozen F1 (Sub.refl F1) g.fh
          refine ⟨F2, _, _, h2', q2, e3, ?_⟩
          exact fun v' H' F' g' r2 f2' => post_shr P (g.trans ⟨Sub.refl F1, g.fh.trans g'.hh, g'.hh, fun a o e => .inl e⟩) (scalar_rp (show Rp G.K F' v' d from r2) hs)
        · cases e2
      · rename_i c e3
        cases e2
        obtain ⟨fa, fd, ps, k1, k2, k3, k4⟩ := mk ⟨_, _, e3⟩
        refine se_of (pe_callS k4 K.room (glB_gl hgl) k1 k2 k3 (fun σ => passAt K.tk σ) pa_sa h1 star tail) ?_
        refine args_sa K es (v :: vs) h m1 F0 H0 F H st σ _ _ S e1 fun ws H1 F1 g r' => ?_
        obtain ⟨F2, f2, h2', q2⟩ := r'.frozen F1 (Sub.refl F1) g.fh
        exact ⟨F2, _, _, h2', q2, e3, fun H' s => P H' (g.hh.trans s)⟩
      · cases e2
  · cases ev
/-- names of defs, laid in a list -/
theorem fs_addr {W : WX} {X : Cx} (K : CK G W X) {ds : List D} : ∀ (fs : List Str), (fs.all fun g => (G.Φ g ds).isSome) = true → ∃ as : List Addr, as.length = fs.length ∧ ∀ (j : Nat) (f : Str) (a : Addr), fs[j]? = some f → as[j]? = some a → X.mg f = some (.ref a)
  | [], _ => ⟨[], rfl, fun _ _ _ h => by simp at h⟩
  | f :: fs, h => by
    rw [List.all_cons, Bool.and_eq_true] at h
    obtain ⟨as, h1, h2⟩ := fs_addr K fs h.2
    obtain ⟨r, hr⟩ := Option.isSome_iff_exists.mp h.1
    obtain ⟨fa, fd, ps, k1, _⟩ := K.fn f ds r hr
    refine ⟨fa :: as, by simp [h1], fun j g a e1 e2 => ?_⟩
    cases j with
    | zero => simp at e1 e2; subst e1; subst e2; exact k1
    | succ j => exact h2 j g a (by simpa using e1) (by simpa using e2)
theorem pa_fs {X : Cx} : ∀ (fs : List Str) (ns : List Expr) (as : List Addr), isFs X.env.scope fs ns = true → as.length = fs.length → (∀ (j : Nat) (f : Str) (a : Addr), fs[j]? = some f → as[j]? = some a → X.mg f = some (.ref a)) →
    PA X ns (fun σ H Q => Q (as.map V.ref) H)
  | [], [], [], _, _, _ => pa_nil
  | f :: fs, e :: ns, a :: as, h, hl, hm => by
    simp only [isFs, Bool.and_eq_true] at h
    obtain ⟨p, rfl, h1, h2⟩ := isG_name h.1
    have q := pa_cons (pe_glob (X := X) (v := .ref a) (pos := p) (glB_gl h1) (hm 0 f a rfl rfl) rfl (plain_all h2).1) (pa_fs fs ns as h.2 (by simpa using hl) fun j g b e1 e2 => hm (j + 1) g b (by simpa using e1) (by simpa using e2)) rfl
    exact ⟨fun pos pins s σ H Q I hq => q.run pos pins s σ H Q I hq⟩
  | [], _ :: _, _, h, _, _ => by simp [isFs] at h
  | _ :: _, [], _, h, _, _ => by simp [isFs] at h
  | [], [], _ :: _, _, hl, _ => by simp at hl
  | _ :: _, _ :: _, [], _, hl, _ => by simp at hl
/-- a call of what an expression tells -/
theorem se_callV {W : WX} {X : Cx} {fe v : Expr} {vs : List Expr} {pos : Pos} {σ : L2.St} {H : Hp} {Q : VK} (K : CK G W X)
    (ht : eval (.Call fe (v :: vs) [] pos) X.env = (do callWith pos (← eval fe X.env) [] (backTo pos (starEach (v :: vs) X.env)) (backToKw pos (keywordEach [] X.env))))
    (star : starEach (v :: vs) X.env = (false, eval v X.env) :: starEach vs X.env) (tail : (backTo pos (starEach vs X.env)).any (·.1) = false)
    (h : SE X fe σ H fun x H1 => ∃ fa fd ps sp, x = .ref fa ∧ PySem.W.keepIn X.K (.ref fa) = true ∧ Binds X.K fd ps [] ∧ FnOk X.prog X.w X.K X.mg X.base (L2.CX X.prog X.w) G.k fa fd ps sp ∧ SA X (v :: vs) σ H1 fun xs H2 => sp xs H2 Q (WE W σ)) :
    SE X (.Call fe (v :: vs) [] pos) σ H Q := by
  intro pins s I
  refine PyProof.Rows.Call_ (wpAny_mono (h pins s I) (fun u s1 hh => ?_) fun _ _ z => z) ht
  obtain ⟨x, H1, I1, rx, fa, fd, ps, sp, ex, k2, k3, k4, ha⟩ := hh
  subst ex
  obtain rfl : u = Value.ref fa := rx
  refine PySem.W.callWith_K (h₀ := X.base) I1.ok.mod.kin k2 (wpAny_mono (ha pos pins s1 I1) (fun us s2 hh => ?_) fun _ _ z => z) star tail
  obtain ⟨ws, H2, I2, r2, q2⟩ := hh
  exact ⟨I2.kIn, run_fnS k4 K.room k3 (passAt K.tk σ) I2 r2 q2⟩
theorem mL_star {c : Cc} {sc : Scope} {es : List E} {v : Expr} {vs : List Expr} {env : Env} (m : mL c sc es (v :: vs) = true) : starEach (v :: vs) env = (false, eval v env) :: starEach vs env := by
  cases es with
  | nil => simp [mL] at m
  | cons e es =>
    obtain ⟨v', ws, ev', m2, m3⟩ := mL_cons m
    cases ev'
    exact ok_star (mE_ok m2)
theorem mL_plain {c : Cc} {sc : Scope} {env : Env} {pos : Pos} : ∀ (es : List E) (vs : List Expr), mL c sc es vs = true → (backTo pos (starEach vs env)).any (·.1) = false
  | [], vs, m => by cases mL_nil m; rfl
  | e :: es, vs, m => by
    obtain ⟨v', ws, rfl, m2, m3⟩ := mL_cons m
    rw [ok_star (mE_ok m2)]
    show (false || (backTo pos (starEach ws env)).any (·.1)) = false
    rw [mL_plain es ws m3]
    rfl
theorem mL_tail {c : Cc} {sc : Scope} {env : Env} {pos : Pos} {es : List E} {v : Expr} {vs : List Expr} (m : mL c sc es (v :: vs) = true) : (backTo pos (starEach vs env)).any (·.1) = false := by
  cases es with
  | nil => simp [mL] at m
  | cons e es =>
    obtain ⟨v', ws, ev', m2, m3⟩ := mL_cons m
    cases ev'
    exact mL_plain es _ m3
end
end Dv

/-! Dv, part G: items, slices, built-ins. -/
namespace Dv
open PySem PySem.Spec PyProof.Rows L2

section
variable {G : GI}
/-! ### items -/
theorem ix_sem {X : Cx} : IxR X (ISem X) := fun value slice pins s σ _ _ _ v u _ I r1 r2 h hs => h value slice pins s σ v u I r1 r2 hs
theorem isem_of {X : Cx} {r : R2} {x y : V} {H : Hp} {Q : VK} (h : IxR X r) (ht : r x y H Q) : ISem X x y H Q := fun value slice pins s σ v u I r1 r2 hs => h value slice pins s σ H x y v u Q I r1 r2 ht hs
theorem Rps.at {F : Hp} {vs : List V} {xs : List D} {i : Int} {d : D} (q : Rps G.K F vs xs) (h : atI xs i = some d) : ∃ v, atI vs i = some v ∧ Rp G.K F v d := by
  unfold atI at h ⊢
  rw [q.length]
  cases e : ixN xs.length i with
  | none => rw [e] at h; cases h
  | some j =>
    rw [e] at h
    exact q.get h
theorem rps_ints {F : Hp} : ∀ ns : List Int, Rps G.K F (ns.map V.int) (ns.map PyData.int)
  | [] => .nil
  | n :: ns => .cons (.int n) (rps_ints ns)
theorem scrOf_eq {kvs : List (D × D)} {xs : List D} (h : scrOf kvs = some xs) : kvs = [(.none, .list xs)] := by
  unfold scrOf at h
  split at h
  · split at h
    · rename_i e; cases h; rw [List.isEmpty_iff.mp e]
    · cases h
  · cases h
theorem scr_at {W : WX} {X : Cx} {F H : Hp} {k : Kd} {v : V} {xs : List D} {kvs : List (D × D)} (K : CK G W X) (s : Sub F H) (r : RV G.K F H k (.dict kvs) v) (hk : scrOf kvs = some xs) : ∃ a vs, v = .ref a ∧ SqL X.K H a vs ∧ Rps G.K F vs xs := by
  rw [scrOf_eq hk] at r
  obtain ⟨a, ns, h1, h2, h3⟩ := r.scr s
  refine ⟨a, ns.map V.int, h1, ?_, by rw [h2]; exact rps_ints ns⟩
  rw [K.kk]
  exact s.sq h3
theorem ix_dictK {X : Cx} (hu : X.A.units + 64 < cLine) : IxR X (fun x y H Q => ∃ a v, x = .ref a ∧ DGet H a y (some v) ∧ Q v H) := by
  intro value slice pins s σ H x y v u Q I rx ry h hs
  obtain ⟨a, z, rfl, g, q⟩ := h
  cases (show v = Value.ref a from rx)
  have hT := dict_typeIs I g
  have go : wpAny (model X.prog X.w) X.A (subscripted slice false (.ref a) u) (fun r s3 => wpAny (model X.prog X.w) X.A (letTemporaryGo value (.ref a) r >>= fun _ => pure r) (EP X pins σ Q) X.xe s3) X.xe s := by
    rw [hs]
    exact wpAny_operating (d_getItem (by omega) I g ry fun w' s' I' rw' => wpAny_bind (wpAny_letTemporaryGo (wpAny_pure ⟨z, H, I', rw', q⟩)))
  unfold subscriptTail
  refine wpAny_bind ?_
  rw [getitemInPython_of_ne hT.not_modules]
  refine wpAny_bind (wpAny_specialOf hT PySem.F.slot_dict_getitem.lookup ?_)
  first
    | exact wpAny_pure (wpAny_bind go)
    | exact wpAny_bind (wpAny_pure (wpAny_bind go))
    | exact wpAny_bind go
theorem snd_idx {a i : E} (ha : SndE G a) (hi : SndE G i) : SndE G (.idx a i) := by
  intro X W ex K m F0 H0 F H st σ r Q S ev P
  obtain ⟨e, j, pos, rfl, m1, m2⟩ := mE_idx m
  refine se_of (pe_ix ix_sem pe_se pe_se (ok_ix (mE_ok m2))) ?_
  rw [evE] at ev
  refine two (R := fun v u H2 => ISem X v u H2 Q) ha hi K m1 m2 S ev P fun k x l y v u H2 F2 e1 g S2 r1 r2 => ?_
  cases e2 : idxD x y with
  | none => rw [e2] at e1; cases e1
  | some d =>
    rw [e2] at e1
    cases e1
    unfold idxD at e2
    split at e2
    · obtain ⟨a, vs, rfl, ea, qa⟩ := r1.lst g.fh
      obtain ⟨w, h1, h2⟩ := qa.at e2
      rw [r2.int]
      exact isem_of ix_list ⟨a, vs, _, w, rfl, rfl, .inl (.inl ea), h1, post_shr P g h2⟩
    · obtain ⟨a, vs, rfl, ea, qa⟩ := r1.tup
      obtain ⟨w, h1, h2⟩ := qa.at e2
      rw [r2.int]
      exact isem_of ix_tup ⟨a, vs, _, w, rfl, rfl, SqT.of (g.fh _ _ ea), h1, post_shr P g h2⟩
    · rename_i kvs i
      split at e2
      · rename_i xs hx
        obtain ⟨a, vs, rfl, ea, qa⟩ := scr_at K g.fh r1 hx
        obtain ⟨w, h1, h2⟩ := qa.at e2
        rw [r2.int]
        exact isem_of ix_list ⟨a, vs, _, w, rfl, rfl, ea, h1, post_shr P g h2⟩
      split at e2
      · rename_i h
        obtain ⟨a, ks, rfl, ea, qa⟩ := r1.dictI g.fh h
        rw [r2.int]
        rcases qa.val i with ⟨w, d', e3, e4, q3⟩ | ⟨e3, e4⟩
        · rw [e4] at e2
          cases e2
          have gg := DGet.k (k := Sum.inl i) ea
          rw [e3] at gg
          exact isem_of (ix_dictK K.hu) ⟨a, w, rfl, gg, post_shr P g q3⟩
        · rw [e4] at e2; cases e2
      · cases e2
    · rename_i kvs xs
      split at e2
      · rename_i r nk h1 h2
        obtain ⟨a, ys, rfl, ea, qa⟩ := r1.tk g.fh h1
        obtain ⟨b, vs, rfl, eb, qb⟩ := r2.tup
        obtain ⟨h3, h4⟩ := tkey_all h2
        exact isem_of (ix_dictX K.hu) ⟨a, G.K, F2, ys, r, _, nk, d, rfl, ⟨g.fh, ea, qa, h3, h4, .tup eb qb, ⟨b, rfl⟩⟩, e2, fun w h5 => post_shr P g h5⟩
      · cases e2
    · cases e2
/-! ### slices -/
theorem optI_some {r : Option (Option EO)} {f : Option Int → Option EO} {x : EO} (h : optI r f = some x) : (r = none ∧ f none = some x) ∨ (∃ i, r = some (some (.ok .shr (.int i))) ∧ f (some i) = some x) ∨ ∃ c, r = some (some (.ex c)) ∧ x = .ex c := by
  unfold optI at h
  split at h
  · exact .inl ⟨rfl, h⟩
  · exact .inr (.inl ⟨_, rfl, h⟩)
  · cases h; exact .inr (.inr ⟨_, rfl, rfl⟩)
  · cases h
def SndO (G : GI) : Option E → Prop
  | none => True
  | some e => SndE G e
def SO_ (X : Cx) : Option Expr → TO
  | none => tNoPart
  | some e => tPart (SE X e)
theorem po_so {X : Cx} : ∀ o : Option Expr, PO X o (SO_ X o)
  | none => po_none
  | some _ => po_some pe_se
theorem opt {W : WX} {X : Cx} {o : Option E} {e : Option Expr} (ho : SndO G o) (K : CK G W X) (m : mO (cc G X) X.env.scope o e = true) {F0 H0 F H : Hp} {st : Ev} {σ : L2.St} {r : EO} {Q : VK} (S : StOK G.K F0 H0 F H st σ) {g : Option Int → Option EO}
    (ev : optI (evO G.Φ o st) g = some r) (P : PostE G W σ F H r Q) {R : Option Int → Hp → Prop} (hk : ∀ i H1 F1, g i = some r → Gr F H F1 H1 → StOK G.K F0 H0 F1 H1 st σ → R i H1) : SO_ X e σ H R := by
  cases o with
  | none =>
    cases e with
    | none =>
      rw [evO] at ev
      exact hk none H F ev (Gr.refl S.fh) S
    | some e => simp [mO] at m
  | some a =>
    cases e with
    | none => simp [mO] at m
    | some e =>
      rw [mO] at m
      rw [evO] at ev
      rcases optI_some ev with ⟨e1, _⟩ | ⟨i, e1, e2⟩ | ⟨c, e1, rfl⟩
      · cases e1
      · exact ho X W e K m F0 H0 F H st σ _ _ S (Option.some.inj e1) fun v H1 F1 g1 r1 f1 => ⟨i, r1.int, hk (some i) H1 F1 e2 g1 (S.mono g1)⟩
      · exact ho X W e K m F0 H0 F H st σ _ _ S (Option.some.inj e1) P
theorem Rps.cut {F : Hp} {vs : List V} {xs : List D} (q : Rps G.K F vs xs) (lo hi : Option Int) : Rps G.K F (cutV vs lo hi) (cutD xs lo hi) := by
  unfold cutV cutD
  rw [q.length]
  exact (q.drop _).take _
theorem snd_slc {a : E} {lo hi : Option E} (ha : SndE G a) (hl : SndO G lo) (hh : SndO G hi) : SndE G (.slc a lo hi) := by
  intro X W ex K m F0 H0 F H st σ r Q S ev P
  obtain ⟨e, l, h, p2, pos, rfl, m1, m2, m3⟩ := mE_slc m
  refine se_of (pe_slice (sl_list.or sl_tupA) pe_se (po_so l) (po_so h)) ?_
  rw [evE] at ev
  refine one ha K m1 S ev P fun k x v H1 F1 e1 e2 g1 S1 r1 f1 => ?_
  refine opt hl K m2 S1 e2 (P.gr g1) fun i H2 F2 e3 g2 S2 => ?_
  refine opt hh K m3 S2 e3 (P.gr (g1.trans g2)) fun j H3 F3 e4 g3 S3 => ?_
  have g := (g1.trans g2).trans g3
  have r3 := r1.gr (g2.trans g3)
  unfold slcD at e4
  split at e4
  · cases e4
    obtain ⟨a, vs, rfl, ea, qa⟩ := r3.lst g.fh
    exact .inl ⟨a, vs, rfl, .inl (.inl ea), fun p n => post_lst P g (qa.cut i j) n⟩
  · cases e4
    rename_i xs
    obtain ⟨a, vs, rfl, ea, qa⟩ := r3.tup
    refine .inr ⟨a, vs, rfl, SqT.of (g.fh _ _ ea), fun hw => ?_, fun _ p n => post_tup P g (qa.cut i j) n⟩
    refine post_shr P g ?_
    have : cutD xs i j = xs := by
      unfold cutD
      rw [← qa.length, hw.1, hw.2, Nat.sub_zero, List.drop_zero, qa.length, List.take_length]
    rw [this]
    exact .tup ea qa
  · obtain ⟨xs, hx, rfl⟩ := Option.map_eq_some_iff.mp e4
    obtain ⟨a, vs, rfl, ea, qa⟩ := scr_at K g.fh r3 hx
    exact .inl ⟨a, vs, rfl, ea, fun p n => post_lst P g (qa.cut i j) n⟩
  · cases e4
/-! ### built-ins -/
def CSem (X : Cx) (f : Value) : List V → Hp → VK → Prop := fun xs H Q => ∀ (pins : List (Addr × Obj)) (s : Shared) (σ : L2.St) (us : List Value), Inv X pins σ H s → Vals xs us → wpAny (model X.prog X.w) X.A (call f us) (EP X pins σ Q) X.xe s
theorem c_sem {X : Cx} {f : Value} : CallR X f (CSem X f) := fun pins s σ _ _ us _ I r h => h pins s σ us I r
theorem csem_of {X : Cx} {f : Value} {r : List V → Hp → VK → Prop} {xs : List V} {H : Hp} {Q : VK} (h : CallR X f r) (ht : r xs H Q) : CSem X f xs H Q := fun pins s σ us I rr => h pins s σ H xs us Q I rr ht
def b1Val : B1 → Value
  | .len => .builtin "len" | .int => .type "int" | .str => .type "str" | .tup => .type "tuple" | .lst => .type "list" | .all => .builtin "all"
theorem b1_boot (f : B1) : bootBuiltins (Str.ofString (b1Name f)) = some (b1Val f) := by
  cases f <;> decide +kernel
theorem b1_in (f : B1) : Str.ofString (b1Name f) ∈ bnames := by
  cases f <;> decide +kernel
theorem bools_V {F : Hp} : ∀ {vs : List V} {xs : List D} {bs : List Bool}, Rps G.K F vs xs → bools xs = some bs → vs = bs.map V.bl
  | _, _, _, .nil, e => by
    simp only [bools] at e
    cases e
    rfl
  | _, _, bs, .cons (d := d) a r, e => by
    cases d with
    | bool b =>
      simp only [bools] at e
      cases q : bools _ with
      | none => rw [q] at e; cases e
      | some cs =>
        rw [q] at e
        cases e
        cases a
        rw [bools_V r q]
        rfl
    | _ => simp [bools] at e
theorem log_lt (n : Nat) (h : n < 2 ^ 64) : n.log2 < 1920 := by
  by_cases h0 : n = 0
  · subst h0; decide
  · exact Nat.lt_of_lt_of_le ((Nat.log2_lt h0).mpr h) (by decide)
theorem leaf_fn {W : WX} {X : Cx} {σ : L2.St} {F H F2 H2 : Hp} {r : EO} {Q : VK} {k : Kd} {x : D} {v : V} {f : B1} (K : CK G W X) (e : fnD f x = some r) (P : PostE G W σ F H r Q) (g : Gr F H F2 H2) (r1 : RV G.K F2 H2 k x v) : CSem X (b1Val f) [v] H2 Q := by
  unfold fnD at e
  split at e
  · cases e
    obtain ⟨a, vs, rfl, ea, qa⟩ := r1.lst g.fh
    exact csem_of call_len_seq ⟨a, vs, rfl, .inl (.inl (.inl ea)), post_shr P g (by rw [qa.length]; exact .int _)⟩
  · cases e
    obtain ⟨a, vs, rfl, ea, qa⟩ := r1.tup
    exact csem_of call_len_seq ⟨a, vs, rfl, .inr (SqT.of (g.fh _ _ ea)), post_shr P g (by rw [qa.length]; exact .int _)⟩
  · split at e
    · rename_i xs hx
      cases e
      obtain ⟨a, vs, rfl, ea, qa⟩ := scr_at K g.fh r1 hx
      exact csem_of call_len_seq ⟨a, vs, rfl, .inl ea, post_shr P g (by rw [qa.length]; exact .int _)⟩
    · obtain ⟨r, hx, rfl⟩ := Option.map_eq_some_iff.mp e
      obtain ⟨a, ys, rfl, ea, qa⟩ := r1.tk g.fh hx
      exact csem_of call_len_kx ⟨a, G.K, F2, ys, r, rfl, g.fh, ea, qa, post_shr P g (.int _)⟩
  · cases e
    rw [r1.int]
    exact csem_of call_int1 (.inl ⟨_, rfl, post_shr P g (.int _)⟩)
  · cases e
    rw [r1.bool]
    exact csem_of call_int1 (.inr ⟨_, rfl, post_shr P g (.int _)⟩)
  · split at e
    · rename_i hz
      cases e
      rw [r1.int]
      exact csem_of call_str_int ⟨_, rfl, log_lt _ hz, post_shr P g (.str _)⟩
    · cases e
  · cases e
    obtain ⟨a, vs, rfl, ea, qa⟩ := r1.lst g.fh
    exact csem_of call_tuple_of ⟨a, vs, rfl, .inl ⟨.inl (.inl ea), fun p n => post_tup P g qa n⟩⟩
  · cases e
    obtain ⟨a, vs, rfl, ea, qa⟩ := r1.tup
    exact csem_of call_tuple_of ⟨a, vs, rfl, .inr ⟨SqT.of (g.fh _ _ ea), post_shr P g (.tup ea qa)⟩⟩
  · cases e
    obtain ⟨a, vs, rfl, ea, qa⟩ := r1.lst g.fh
    exact csem_of call_list_of ⟨a, vs, rfl, .inl (.inl (.inl ea)), fun p n => post_lst P g qa n⟩
  · cases e
    obtain ⟨a, vs, rfl, ea, qa⟩ := r1.tup
    exact csem_of call_list_of ⟨a, vs, rfl, .inr (SqT.of (g.fh _ _ ea)), fun p n => post_lst P g qa n⟩
  · rename_i xs
    cases q : bools xs with
    | none => rw [q] at e; cases e
    | some bs =>
      rw [q] at e
      cases e
      obtain ⟨a, vs, rfl, ea, qa⟩ := r1.lst g.fh
      have hv := bools_V qa q
      subst hv
      exact csem_of (cr_all K.calm) ⟨a, bs, rfl, .inl (.inl ea), post_shr P g (.bl _)⟩
  · cases e
/-- one argument -/
theorem arg1 {X : Cx} {e : Expr} (h : okEx e = true) : PA X [e] (tCons (SE X e) tNil) := pa_cons pe_se pa_nil (ok_star h)
theorem pe_b1 {X : Cx} {f : B1} {x : Str} {p pos : Pos} {e : Expr} (hx : x = Str.ofString (b1Name f)) (hg : Gl X x) (hm : X.mg x = none) (ho : okEx e = true) (hn : x ≠ "__name__") (hdb : (x == ("__debug__" : Str)) = false) :
    PE X (.Call (.Name x p) [e] [] pos) (tCB (CSem X (b1Val f)) (tCons (SE X e) tNil)) := by
  have hb := b1_boot f
  rw [← hx] at hb
  cases f
  · exact pe_callB c_sem hg hm hb (arg1 ho) hn hdb (ok_star ho)
  · exact pe_callTy c_sem hg hm hb (arg1 ho) hn hdb (ok_star ho)
  · exact pe_callTy c_sem hg hm hb (arg1 ho) hn hdb (ok_star ho)
  · exact pe_callTy c_sem hg hm hb (arg1 ho) hn hdb (ok_star ho)
  · exact pe_callTy c_sem hg hm hb (arg1 ho) hn hdb (ok_star ho)
  · exact pe_callB c_sem hg hm hb (arg1 ho) hn hdb (ok_star ho)
theorem snd_fn {f : B1} {a : E} (ha : SndE G a) : SndE G (.fn f a) := by
  intro X W ex K m F0 H0 F H st σ r Q S ev P
  obtain ⟨g, e, pos, rfl, hg, m1⟩ := mE_fn m
  obtain ⟨p2, rfl, hgl, hpl⟩ := isG_name hg
  obtain ⟨h1, h2, h3⟩ := plain_all hpl
  refine se_of (pe_b1 rfl (glB_gl hgl) (K.bl _ (b1_in f)) (mE_ok m1) h3 h1) ?_
  rw [evE] at ev
  exact one ha K m1 S ev P fun k x v H1 F1 e1 e2 g1 S1 r1 f1 => leaf_fn K e2 P g1 r1
/-! ### isinstance -/
theorem ty_in (t : TyN) : Str.ofString (tyName t) ∈ bnames := by cases t <;> decide +kernel
theorem ty_boot (t : TyN) : bootBuiltins (Str.ofString (tyName t)) = some (.type (tyName t)) := by cases t <;> decide +kernel
def vTy : D → String
  | .none => "NoneType" | .bool _ => "bool" | .int _ => "int" | .str _ => "str" | .list _ => "list" | .tuple _ => "tuple" | .dict _ => "dict"
theorem tyX_of {X : Cx} {F H : Hp} {k : Kd} {d : D} {v : V} (r : RV G.K F H k d v) (s : Sub F H) (ok : okTy d = true) : TyX X.K H v (.type (vTy d)) := by
  cases d with
  | none => rw [r.none]; exact .base .non
  | bool b => rw [r.bool]; exact .base (.bl b)
  | int i => rw [r.int]; exact .base (.int i)
  | str x => rw [r.str]; exact .base (.str x)
  | list xs =>
    obtain ⟨a, vs, rfl, e, q⟩ := r.lst s
    exact .base (.lst e)
  | tuple xs =>
    obtain ⟨a, vs, rfl, e, q⟩ := r.tup
    exact .base (.tup (s _ _ e))
  | dict xs =>
    rcases r.dict s with ⟨a, ks, rfl, e, _⟩ | ⟨a, ns, rfl, e, _⟩ | ⟨a, ys, r', rfl, e, _⟩
    · exact .base (.dK e)
    · rw [e] at ok
      cases ok
    · subst e
      cases ok
theorem kit_is {K : PySem.W.Frag} (d : D) (t : TyN) : PySem.W.kitOne K (.type (vTy d)) (.type (tyName t)) = some (isInst d t) := by
  refine kit_ty ?_
  cases d <;> cases t <;> (simp only [vTy, tyName, isInst]; decide +kernel)
theorem snd_isi {a : E} {t : TyN} (ha : SndE G a) : SndE G (.isi a t) := by
  intro X W ex K m F0 H0 F H st σ r Q S ev P
  obtain ⟨g, e, f, pos, rfl, hg, m1, hf⟩ := mE_isi m
  obtain ⟨p2, rfl, hgl, hpl⟩ := isG_name hg
  obtain ⟨h1, h2, h3⟩ := plain_all hpl
  obtain ⟨p3, rfl, hfl, hfp⟩ := isG_name hf
  obtain ⟨h4, h5, h6⟩ := plain_all hfp
  refine se_of (pe_callB call_isi (glB_gl hgl) (K.bl _ (by decide +kernel)) (by decide +kernel) (pa_cons pe_se (pa_cons (pe_bltn (v := .ty (tyName t)) (glB_gl hfl) (K.bl _ (ty_in t)) (ty_boot t) rfl h6 h4) pa_nil) (ok_star (mE_ok m1))) h3 h1 (ok_star (mE_ok m1))) ?_
  rw [evE] at ev
  refine one ha K m1 S ev P fun k x v H1 F1 e1 e2 g1 S1 r1 f1 => ?_
  split at e2
  · rename_i ok
    cases e2
    exact ⟨v, .ty (tyName t), _, _, isInst x t, rfl, .ty _, tyX_of r1 g1.fh ok, kit_is x t, post_shr P g1 (.bl _)⟩
  · cases e2
theorem pa_tys {W : WX} {X : Cx} (K : CK G W X) : ∀ (fs : List Expr) (ts : List TyN), isTys X.env.scope fs ts = true → PA X fs (fun σ H Q => Q (ts.map fun t => .ty (tyName t)) H)
  | [], [], _ => pa_nil
  | f :: fs, t :: ts, h => by
    simp only [isTys, Bool.and_eq_true] at h
    obtain ⟨p3, rfl, hfl, hfp⟩ := isG_name h.1
    obtain ⟨h4, h5, h6⟩ := plain_all hfp
    have q := pa_cons (pe_bltn (v := .ty (tyName t)) (pos := p3) (glB_gl hfl) (K.bl _ (ty_in t)) (ty_boot t) rfl h6 h4) (pa_tys K fs ts h.2) rfl
    exact ⟨fun pos pins s σ H Q I hq => q.run pos pins s σ H Q I hq⟩
  | [], _ :: _, h => by simp [isTys] at h
  | _ :: _, [], h => by simp [isTys] at h
theorem paired_ty : ∀ ts : List TyN, Paired ClsV (ts.map fun t => V.ty (tyName t)) (ts.map fun t => Value.type (tyName t))
  | [] => .nil
  | t :: ts => .cons (.ty _) (paired_ty ts)
theorem kit_any {K : PySem.W.Frag} (d : D) : ∀ ts : List TyN, PySem.W.kitAny K (.type (vTy d)) (ts.map fun t => Value.type (tyName t)) = some (ts.any fun t => isInst d t)
  | [] => kitAny_nil
  | t :: ts => by
    rw [List.map_cons, List.any_cons]
    refine kitAny_cons (kit_is d t) (fun h => ?_) fun h => ?_
    · rw [h, Bool.false_or]; exact kit_any d ts
    · rw [h, Bool.true_or]
theorem snd_isis {a : E} {ts : List TyN} (ha : SndE G a) : SndE G (.isis a ts) := by
  intro X W ex K m F0 H0 F H st σ r Q S ev P
  obtain ⟨g, e, fs, kk, p3, pos, rfl, hg, m1, hf⟩ := mE_isis m
  obtain ⟨p2, rfl, hgl, hpl⟩ := isG_name hg
  obtain ⟨h1, h2, h3⟩ := plain_all hpl
  refine se_of (pe_callB call_isiT (glB_gl hgl) (K.bl _ (by decide +kernel)) (by decide +kernel) (pa_cons pe_se (pa_cons (pe_tup (pa_tys K fs ts hf)) pa_nil) (ok_star (mE_ok m1))) h3 h1 (ok_star (mE_ok m1))) ?_
  rw [evE] at ev
  refine one ha K m1 S ev P fun k x v H1 F1 e1 e2 g1 S1 r1 f1 => ?_
  split at e2
  · rename_i hz
    cases e2
    refine ⟨sizeL (by rw [List.length_map]; exact hz.2), fun p n => ?_⟩
    have g2 := Gr.lay g1.fh n (.tup (ts.map fun t => V.ty (tyName t)))
    exact ⟨v, p, _, _, _, _, rfl, upd_same, paired_ty ts, tyX_of (r1.gr g2) g2.fh hz.1, kit_any x ts, post_shr P (g1.trans g2) (.bl _)⟩
  · cases e2
/-! ### list(range(n)) -/
theorem rg_rps {F : Hp} (n : Int) : Rps G.K F (rgV 0 n) (rngD n.toNat) := by
  unfold rgV rngD
  rw [Int.sub_zero]
  have : ∀ l : List Nat, Rps G.K F (l.map fun i => V.int (0 + (i : Nat))) (l.map fun (k : Nat) => PyData.int (k : Int)) := fun l => by
    induction l with
    | nil => exact .nil
    | cons a l ih =>
      refine .cons ?_ ih
      show Rp G.K F (V.int (0 + (a : Int))) (.int (a : Int))
      rw [Int.zero_add]
      exact .int _
  exact this _
theorem snd_lrg {a : E} (ha : SndE G a) : SndE G (.lrg a) := by
  intro X W ex K m F0 H0 F H st σ r Q S ev P
  obtain ⟨g, h, e, p4, pos, rfl, hg, hh, m1⟩ := mE_lrg m
  obtain ⟨p2, rfl, hgl, hpl⟩ := isG_name hg
  obtain ⟨p3, rfl, hhl, hhp⟩ := isG_name hh
  refine se_of (pe_listRg K.calm (glB_gl hgl) (K.bl _ (by decide +kernel)) (prg_1 (glB_gl hhl) (K.bl _ (by decide +kernel)) pe_se (ok_star (mE_ok m1)))) ?_
  rw [evE] at ev
  refine one ha K m1 S ev P fun k x v H1 F1 e1 e2 g1 S1 r1 f1 => ?_
  split at e2
  · split at e2
    · rename_i hz
      cases e2
      refine ⟨_, r1.int, ⟨by omega, by omega, by omega, by omega, ?_⟩, fun p n => post_lst P g1 (rg_rps _) n⟩
      have : (2 : Nat) ^ 24 = 16777216 := by decide
      omega
    · cases e2
  · cases e2
/-! ### len(set(..)) -/
theorem ints_list : ∀ {xs : List D} {ns : List Int} {F : Hp} {vs : List V}, intsOf xs = some ns → Rps G.K F vs xs → vs = ns.map V.int
  | [], ns, F, vs, e, r => by
    simp only [intsOf, Option.some.injEq] at e
    subst e
    cases r
    rfl
  | x :: xs, ns, F, vs, e, r => by
    cases x with
    | int i =>
      simp only [intsOf, Option.map_eq_some_iff] at e
      obtain ⟨ms, h1, rfl⟩ := e
      cases r with
      | cons a q =>
        cases a
        rw [ints_list h1 q]
        rfl
    | _ => simp [intsOf] at e
theorem firstMet_fold (ns : List Int) : PyProof.Rows.firstMet (fun i => ns.getD i 0) ns.length = ns.foldl PyProof.Rows.step_dedup [] := by
  unfold PyProof.Rows.firstMet
  congr 1
  apply List.ext_getElem
  · simp
  · intro i h1 h2
    simp at h1
    simp [List.getD_eq_getElem?_getD, h1]
def tLenSetD (K : PySem.W.Frag) (ta : TE) : TE := fun σ H Q => ta σ H fun x H1 => ∃ (l : Addr) (ns : List Int), x = .ref l ∧ SqL K H1 l (ns.map V.int) ∧ ns.length ≤ 4000 ∧ Q (.int ((ns.foldl PyProof.Rows.step_dedup []).length : Nat)) H1
theorem pe_lenSetD {X : Cx} {a : Expr} {ta : TE} {p p2 q pos : Pos} (hg : Gl X "len") (hm : X.mg "len" = none) (hg2 : Gl X "set") (hm2 : X.mg "set" = none) (ha : PE X a ta) (hc : X.calm = true)
    (na : starEach [a] X.env = (false, eval a X.env) :: starEach [] X.env) : PE X (.Call (.Name "len" p) [.Call (.Name "set" p2) [a] [] q] [] pos) (tLenSetD X.K ta) := by
  refine ⟨fun pins s σ H Q I h => ?_⟩
  refine Call_ (ld_blt I hg hm boot_len ?_)
  refine PyProof.Rows.callWith_builtin1 (PyProof.Rows.args_cons ?_ rfl) rfl rfl
  refine Call_ (ld_blt I hg2 hm2 boot_set ?_)
  refine PyProof.Rows.callWith_type1 (PyProof.Rows.args_cons (thn (ha.run pins s σ H _ I h) fun v s1 ⟨x, H1, I1, r1, q1⟩ => PyProof.Rows.args_nil ?_) na) na rfl
  obtain ⟨l, ns, rfl, hq, hl, q1⟩ := q1
  cases r1
  obtain ⟨its, r, pl, hz⟩ := I1.list hq
  have hlen : its.toArray.size = ns.length := by rw [List.size_toArray, ← r.length, List.length_map]
  refine call_set_list (I1.ok.hd hc) pl.isList (by simpa using RZ.intsAre_vals r) (by rw [hlen]; unfold scanBound; omega) fun h' tk hS hk => ?_
  refine PyProof.Rows.args_nil ?_
  rw [hlen, firstMet_fold] at hS
  have hb : (ns.foldl PyProof.Rows.step_dedup []).length ≤ ns.length := by
    rw [← firstMet_fold]
    exact PyProof.Rows.firstMet_length_le _ _
  obtain ⟨o, es, ep, t, ho, hex, hd, _, _, _, hf, hn⟩ := hS
  have I2 : Inv X pins σ H1 { s1 with heap := h', toks := tk } := I1.kept fun b o e => hk b o (Heap.lt_size e) e
  exact call_len_set ho hex hd hf (by rw [hn]; omega) ⟨.int (ns.foldl PyProof.Rows.step_dedup []).length, H1, I2.tok _, ⟨_, by rw [hn]⟩, q1⟩
theorem snd_lset {a : E} (ha : SndE G a) : SndE G (.lset a) := by
  intro X W ex K m F0 H0 F H st σ r Q S ev P
  obtain ⟨g, h, e, p2, pos, rfl, hg, hh, m1⟩ := mE_lset m
  obtain ⟨p3, rfl, hgl, _⟩ := isG_name hg
  obtain ⟨p4, rfl, hhl, _⟩ := isG_name hh
  refine se_of (pe_lenSetD (glB_gl hgl) (K.bl _ (by decide +kernel)) (glB_gl hhl) (K.bl _ (by decide +kernel)) pe_se K.calm (ok_star (mE_ok m1))) ?_
  rw [evE] at ev
  refine one ha K m1 S ev P fun k x v H1 F1 e1 e2 g1 S1 r1 f1 => ?_
  unfold lsetD at e2
  split at e2
  · rename_i xs
    split at e2
    · rename_i ns h1
      split at e2
      · rename_i hl
        cases e2
        obtain ⟨l, vs, rfl, ea, qa⟩ := r1.lst g1.fh
        have hv := ints_list h1 qa
        subst hv
        exact ⟨l, ns, rfl, .inl (.inl ea), hl, post_shr P g1 (.int _)⟩
      · cases e2
    · cases e2
  · cases e2
theorem snd_callAt {fs : List Str} {i : E} {es : List E} (hi : SndE G i) (h : SndAll G es) : SndE G (.callAt fs i es) := by
  intro X W ex K m F0 H0 F H st σ r Q S ev P
  obtain ⟨ns, pl, j, ps, v, vs, pos, rfl, hf, m1, m2⟩ := mE_callAt m
  rw [evE] at ev
  -- the index
  split at ev
  · rename_i kk jj e1
    have e2 := ev
    · split at e2
      · rename_i f ef
        split at e2
        · rename_i xs e3
          split at e2
          · rename_i hc
            obtain ⟨nb, hl, hall⟩ := hc
            obtain ⟨as, hal, hmg⟩ := fs_addr K fs hall
            obtain ⟨fa, fd, pp, k1, k2, k3, k4⟩ := K.fn f _ r e2
            refine se_callV K rfl (mL_star m2) (mL_tail m2) ?_
            refine se_of (pe_ix ix_sem (pe_lst (pa_fs fs ns as hf hal hmg)) pe_se (ok_ix (mE_ok m1))) ?_
            refine ⟨sizeL (by rw [List.length_map, hal]; exact hl), fun p n => ?_⟩
            have g0 := Gr.lay S.fh n (.lst (as.map V.ref))
            refine hi X W j K m1 F0 H0 F _ st σ _ _ (S.mono g0) e1 ?_
            intro u H1 F1 g1 r1 f1
            have S1 := (S.mono g0).mono g1
            obtain ⟨a, ha, hfa⟩ : ∃ a, L2.atI (as.map V.ref) jj = some (.ref a) ∧ X.mg f = some (.ref a) := by
              unfold L2.atI at ef ⊢
              rw [List.length_map, hal]
              cases en : L2.ixN fs.length jj with
              | none => rw [en] at ef; cases ef
              | some mm =>
                rw [en] at ef
                have hm : mm < as.length := by rw [hal]; exact (List.getElem?_eq_some_iff.mp ef).1
                refine ⟨as[mm], ?_, hmg mm f _ ef (List.getElem?_eq_getElem hm)⟩
                show (as.map V.ref)[mm]? = _
                rw [List.getElem?_map, List.getElem?_eq_getElem hm]
                rfl
            rw [k1] at hfa
            cases hfa
            rw [r1.int]
            refine isem_of ix_list ⟨p, _, jj, _, rfl, rfl, .inl (.inl (g1.hh _ _ upd_same)), ha, fa, fd, pp, _, rfl, k2, k3, k4, ?_⟩
            refine args_sa K es (v :: vs) h m2 F0 H0 F1 H1 st σ _ _ S1 e3 fun ws H2 F2 g2 r' => ?_
            have g := (g0.trans g1).trans g2
            refine ⟨F2, _, _, g2.fh, r'.plain nb, e2, ?_⟩
            cases r with
            | ok k d => exact fun v' H' F' g' r2 f2 => P v' H' F' (g.trans g') r2 fun e p q => g.hh.none (f2 e p q)
            | ex c => exact fun H' s => P H' (g.hh.trans s)
          · cases e2
        · cases e2
      · cases e2
  · cases ev
end
end Dv

/-! Dv, part H: comprehensions; every expression. -/
namespace Dv
open PySem PySem.Spec PyProof.Rows L2

section
variable {G : GI}
/-- a comprehension's tests and element, whatever its block -/
def BT (X : Cx) (scope : Scope) (e : Expr) : TT := fun σ H Q => ∀ (s : Shared) (H' : Hp) (C : Addr) (cl : List (Str × Addr)) (fp : List Addr), ST (X.blk s H' scope (compEnvC scope cl C X.env) fp) e σ H Q
def BE (X : Cx) (scope : Scope) (e : Expr) : TE := fun σ H Q => ∀ (s : Shared) (H' : Hp) (C : Addr) (cl : List (Str × Addr)) (fp : List Addr), SE (X.blk s H' scope (compEnvC scope cl C X.env) fp) e σ H Q
def BTs (X : Cx) (scope : Scope) : List Expr → TT
  | [] => tYes
  | [e] => BT X scope e
  | _ => fun _ _ _ => False
theorem pts_bt {X : Cx} {scope : Scope} (es : List Expr) (s : Shared) (H : Hp) (C : Addr) (cl : List (Str × Addr)) (fp : List Addr) (h : ∃ b : Option Expr, es = b.toList) : PTs (X.blk s H scope (compEnvC scope cl C X.env) fp) es (BTs X scope es) := by
  obtain ⟨b, rfl⟩ := h
  cases b with
  | none => exact pts_nil
  | some e => exact pts_one ⟨fun pins s' σ H' Q I q => q s H C cl fp pins s' I⟩
theorem pe_be {X : Cx} {scope : Scope} {e : Expr} (s : Shared) (H : Hp) (C : Addr) (cl : List (Str × Addr)) (fp : List Addr) : PE (X.blk s H scope (compEnvC scope cl C X.env) fp) e (BE X scope e) :=
  ⟨fun pins s' σ H' Q I q => q s H C cl fp pins s' I⟩
/-- ahead of a turn: the list so far at A, what is left -/
def CI (G : GI) (F1 H1 : Hp) (A : Addr) (tt : D → Option Bool) (te : D → Option D) (res rest : List D) (H : Hp) : Prop :=
  ∃ F' acc ys zs, Gr F1 H1 F' H ∧ H A = some (.lst acc) ∧ F' A = none ∧ Rps G.K F' acc ys ∧ compGo tt te rest = some zs ∧ res = ys ++ zs
theorem comp_turn {W : WX} {X : Cx} {scope : Scope} {x : E} {elt : Expr} {ifs : List E} {cs : List Expr} {i : Nat} (hx : SndE G x) (hs : SntAll G ifs) (K : CK G W X) (m1 : mE (cc G X) (relS scope X.env.scope) x elt = true) (m2 : mL (cc G X) (relS scope X.env.scope) ifs cs = true)
    {F0 H0 F1 H1 H : Hp} {st : Ev} {σ : L2.St} (S : StOK G.K F0 H0 F1 H1 st σ) {A : Addr} (nA : H1 A = none) {res rest : List D} {d : D} {v : V} (hres : res.length ≤ lim) (rv : Rp G.K F1 v d) {σ2 : L2.St} (h2 : σ2 = σ.set i (some v))
    (I : CI G F1 H1 A (fun d => tests (evB G.Φ ifs (st.set i (some (false, d))))) (fun d => asD (evE G.Φ x (st.set i (some (false, d))))) res (d :: rest) H) :
    BTs X scope cs σ2 H fun b H3 => if b = true then BE X scope elt σ2 H3 fun y H4 => ∃ acc, H4 A = some (.lst acc) ∧ acc.length < sizeLine ∧
        CI G F1 H1 A (fun d => tests (evB G.Φ ifs (st.set i (some (false, d))))) (fun d => asD (evE G.Φ x (st.set i (some (false, d))))) res rest (upd H4 A (.lst (acc ++ [y])))
      else CI G F1 H1 A (fun d => tests (evB G.Φ ifs (st.set i (some (false, d))))) (fun d => asD (evE G.Φ x (st.set i (some (false, d))))) res rest H3 := by
  subst h2
  obtain ⟨F', acc, ys, zs, g, hA, nF, q, e, er⟩ := I
  have S2 : StOK G.K F0 H0 F' H (st.set i (some (false, d))) (σ.set i (some v)) := (S.mono g).setS i (rv.to g.ff)
  rw [compGo] at e
  -- what the test answers
  have hb : ∃ b, tests (evB G.Φ ifs (st.set i (some (false, d)))) = some b := by
    cases q : tests (evB G.Φ ifs (st.set i (some (false, d)))) with
    | none => rw [q] at e; cases e
    | some b => exact ⟨b, rfl⟩
  obtain ⟨b, hb⟩ := hb
  have main : ∀ (F3 H3 : Hp), Gr F' H F3 H3 → (if b = true then BE X scope elt (σ.set i (some v)) H3 fun y H4 => ∃ acc, H4 A = some (.lst acc) ∧ acc.length < sizeLine ∧
        CI G F1 H1 A (fun d => tests (evB G.Φ ifs (st.set i (some (false, d))))) (fun d => asD (evE G.Φ x (st.set i (some (false, d))))) res rest (upd H4 A (.lst (acc ++ [y])))
      else CI G F1 H1 A (fun d => tests (evB G.Φ ifs (st.set i (some (false, d))))) (fun d => asD (evE G.Φ x (st.set i (some (false, d))))) res rest H3) := fun F3 H3 g3 => by
    rw [hb] at e
    cases b with
    | false =>
      rw [if_neg Bool.false_ne_true]
      exact ⟨F3, acc, ys, zs, g.trans g3, g3.hh _ _ hA, g3.out hA nF, q.to g3.ff, e, er⟩
    | true =>
      rw [if_pos rfl]
      intro s' H' C cl fp
      simp only at e
      cases ee : evE G.Φ x (st.set i (some (false, d))) with
      | none => rw [ee] at e; simp [asD] at e
      | some r =>
        cases r with
        | ex c => rw [ee] at e; simp [asD] at e
        | ok k y =>
          have hk : k ≠ .brw ∧ asD (some (EO.ok k y)) = some y := by
            cases k with
            | brw => rw [ee] at e; simp [asD] at e
            | shr => exact ⟨by decide, rfl⟩
            | frs => exact ⟨by decide, rfl⟩
          rw [ee, hk.2] at e
          simp only at e
          cases e3 : compGo (fun d => tests (evB G.Φ ifs (st.set i (some (false, d))))) (fun d => asD (evE G.Φ x (st.set i (some (false, d))))) rest with
          | none => rw [e3] at e; cases e
          | some zs' =>
            rw [e3] at e
            cases e
            refine hx _ _ elt (K.blk s' H' scope C cl fp) m1 F0 H0 F3 H3 (st.set i (some (false, d))) (σ.set i (some v)) _ _ (S2.mono g3) ee fun w H4 F4 g4 r4 f4 => ?_
            obtain ⟨F5, g5, r5⟩ := shareA g4 r4 f4
            have hw : Rp G.K F5 w y := by
              cases k with
              | brw => exact absurd rfl hk.1
              | shr => exact r5
              | frs => exact r5
            have hA4 := g5.hh _ _ (g3.hh _ _ hA)
            have nF5 := g5.out (g3.hh _ _ hA) (g3.out hA nF)
            have gg := (g.trans g3).trans g5
            have hl := q.length
            refine ⟨acc, hA4, ?_, F5, acc ++ [w], ys ++ [y], zs', ⟨gg.ff, fun a o z => ?_, fun a o z => ?_, gg.nw⟩, upd_same, nF5, (q.to (g3.ff.trans g5.ff)).append (.cons hw .nil), e3, by rw [er, List.append_assoc]; rfl⟩
            · have : acc.length ≤ lim := by rw [hl]; rw [er, List.length_append] at hres; omega
              exact Nat.lt_of_le_of_lt this (by rw [sizeLine_eq]; decide)
            · rw [upd_ne (ne_of_none z nF5)]
              exact gg.fh _ _ z
            · rw [upd_ne (ne_of_none z nA)]
              exact gg.hh _ _ z
  cases ifs with
  | nil =>
    cases mL_nil m2
    rw [evB, tests] at hb
    cases hb
    exact main F' H (Gr.refl g.fh)
  | cons c1 ifs =>
    obtain ⟨e1, ws, rfl, m3, m4⟩ := mL_cons m2
    cases ifs with
    | cons c2 ifs => simp [evB, tests] at hb
    | nil =>
      cases mL_nil m4
      rw [evB, evB, tests] at hb
      have ec : evE G.Φ c1 (st.set i (some (false, d))) = some (.ok .shr (.bool b)) := by
        unfold asB at hb
        split at hb
        · rename_i b' e'
          cases hb
          exact e'
        · cases hb
      intro s' H' C cl fp
      exact hs c1 (by simp) _ _ e1 (K.blk s' H' scope C cl fp) m3 F0 H0 F' H (st.set i (some (false, d))) (σ.set i (some v)) _ _ S2 ec fun H3 F3 g3 => main F3 H3 g3
theorem ci_start {F1 H1 : Hp} {A : Addr} (h : Sub F1 H1) (n : H1 A = none) {tt : D → Option Bool} {te : D → Option D} {res ds : List D} (e : compGo tt te ds = some res) : CI G F1 H1 A tt te res ds (upd H1 A (.lst [])) :=
  ⟨F1, [], [], res, Gr.lay h n _, upd_same, h.none n, .nil, e, rfl⟩
theorem ci_end {W : WX} {σ : L2.St} {F H F1 H1 H2 : Hp} {A : Addr} {tt : D → Option Bool} {te : D → Option D} {res : List D} {Q : VK} (P : PostE G W σ F H (.ok .frs (.list res)) Q) (g : Gr F H F1 H1) (n : H1 A = none) (I : CI G F1 H1 A tt te res [] H2) : Q (.ref A) H2 := by
  obtain ⟨F', acc, ys, zs, g2, hA, nF, q, e, er⟩ := I
  rw [compGo] at e
  cases e
  rw [List.append_nil] at er
  subst er
  exact P _ _ F' (g.trans g2) ⟨A, rfl, nF, acc, hA, q⟩ fun _ p z => by cases z; exact g.hh.none n
theorem drop_cons {α : Type} {ds : List α} {j : Nat} {d : α} (h : ds[j]? = some d) : ds.drop j = d :: ds.drop (j + 1) := by
  obtain ⟨hl, e⟩ := List.getElem?_eq_some_iff.mp h
  rw [List.drop_eq_getElem_cons hl, e]
theorem blk_own {N : List Str} {sc scope : Scope} {y : Str} {i : Nat} (h : blkC N sc scope [(y, i)] = true) : N[i]? = some y := (blkOk_by h).ix (y, i) (by simp)
theorem pg_blk {W : WX} {X : Cx} {scope : Scope} {y : Str} {p : Pos} {i : Nat} (K : CK G W X) (hb : blkC X.N X.env.scope scope [(y, i)] = true) (hl : locB scope y = true) (s : Shared) (H : Hp) (C : Addr) (cl : List (Str × Addr)) (fp : List Addr) :
    PG (X.blk s H scope (compEnvC scope cl C X.env) fp) (.Name y p) (gName i) := by
  have h := locB_all hl
  have up : ∀ {k : NameKind}, k ≠ .free → scope.names.lookup y = some k → (compEnvC scope cl C X.env).scope.names.lookup y = some k := fun hk e => lookup_relS_keep (sc := X.env.scope) hk e
  rcases h with h | h
  · exact pg_name K.nd (blk_own hb) (.inl (up (by decide) h)) (.inr (up (by decide) h))
  · refine pg_name K.nd (blk_own hb) (.inr (up (by decide) h)) (.inl ?_)
    show (scope.names.lookup y == some .cell) = true
    rw [h]
    rfl
theorem set_wipe (σ : L2.St) (i : Nat) (v : V) : (wipe σ [i]).set i (some v) = σ.set i (some v) ∧ wipe (σ.set i (some v)) [i] = wipe σ [i] := by
  constructor
  · show (σ.set i none).set i (some v) = _
    rw [List.set_set]
  · show (σ.set i (some v)).set i none = σ.set i none
    rw [List.set_set]
theorem ifs_ok {tt : List (Option EO)} {b : Bool} (h : tests tt = some b) : tt.length ≤ 1 := by
  unfold tests at h
  split at h <;> simp_all
theorem evB_length (ifs : List E) (st : Ev) : (evB G.Φ ifs st).length = ifs.length := by
  induction ifs with
  | nil => rw [evB]; rfl
  | cons c ifs ih => rw [evB, List.length_cons, List.length_cons, ih]
theorem mL_length {c : Cc} {sc : Scope} : ∀ {es : List E} {vs : List Expr}, mL c sc es vs = true → es.length = vs.length
  | [], vs, m => by cases mL_nil m; rfl
  | e :: es, vs, m => by
    obtain ⟨v, ws, rfl, m1, m2⟩ := mL_cons m
    rw [List.length_cons, List.length_cons, mL_length m2]
/-- the tests are none or one, or there is no turn -/
theorem opt_list {α : Type} {l : List α} (h : l.length ≤ 1) : ∃ b : Option α, l = b.toList := by
  match l, h with
  | [], _ => exact ⟨none, rfl⟩
  | [a], _ => exact ⟨some a, rfl⟩
/-- all that a comprehension's rules ask -/
def LcPack (X : Cx) (elt tg iter : Expr) (cs : List Expr) (scope : Scope) : TE := fun σ H Q => ∃ (own : List (Str × Nat)) (wi : TI) (g : TG) (tt : TT) (te : TE), PI X tg iter wi ∧ BlkOk X.N X.env.scope scope own ∧
  (∀ (s : Shared) (H : Hp) (C : Addr) (cl : List (Str × Addr)) (fp : List Addr), PG (X.blk s H scope (compEnvC scope cl C X.env) fp) tg g) ∧ (∀ (s : Shared) (H : Hp) (C : Addr) (cl : List (Str × Addr)) (fp : List Addr), PTs (X.blk s H scope (compEnvC scope cl C X.env) fp) cs tt) ∧
  (∀ (s : Shared) (H : Hp) (C : Addr) (cl : List (Str × Addr)) (fp : List Addr), PE (X.blk s H scope (compEnvC scope cl C X.env) fp) elt te) ∧ (∀ x, foldedSetIterable iter X.env x = pure x) ∧ tLc wi g tt te (own.map (·.2)) σ H Q
theorem pack_se {W : WX} {X : Cx} (K : CK G W X) {elt tg iter : Expr} {cs : List Expr} {scope : Scope} {pos : Pos} {σ : L2.St} {H : Hp} {Q : VK} (h : LcPack X elt tg iter cs scope σ H Q) : SE X (.ListComp elt [⟨tg, iter, cs, 0⟩] scope pos) σ H Q := by
  obtain ⟨own, wi, g, tt, te, h1, h2, h3, h4, h5, h6, h7⟩ := h
  exact se_of (pe_lc K.calm K.nd h1 h2 h3 h4 h5 h6) h7
theorem read_cmpL {x src : E} {i : Nat} {ifs : List E} (hx : SndE G x) (hsr : SndE G src) (hs : SntAll G ifs) {W : WX} {X : Cx} (K : CK G W X) {elt it : Expr} {y : Str} {p1 : Pos} {cs : List Expr} {scope : Scope}
    (m1 : mE (cc G X) X.env.scope src it = true) (hb : blkC X.N X.env.scope scope [(y, i)] = true) (hl : locB scope y = true) (m2 : mE (cc G X) (relS scope X.env.scope) x elt = true) (m3 : mL (cc G X) (relS scope X.env.scope) ifs cs = true) (hz : ifs.length ≤ 1)
    {F0 H0 F H : Hp} {st : Ev} {σ : L2.St} {r : EO} {Q : VK} (S : StOK G.K F0 H0 F H st σ) (ev : evE G.Φ (.cmpL x i src ifs) st = some r) (P : PostE G W σ F H r Q) : LcPack X elt (.Name y p1) it cs scope σ H Q := by
  rw [evE] at ev
  have hcs := opt_list (l := cs) (by rw [← mL_length m3]; exact hz)
  -- the source: a list or a tuple
  rcases bindV_some ev with ⟨k, d, e1, e2⟩ | ⟨c, e1, rfl⟩
  · cases e3 : itemsD d with
    | none => rw [e3] at e2; cases e2
    | some ds =>
      rw [e3] at e2
      simp only at e2
      cases e4 : compGo (fun d => tests (evB G.Φ ifs (st.set i (some (false, d))))) (fun d => asD (evE G.Φ x (st.set i (some (false, d))))) ds with
      | none => rw [e4] at e2; simp [sized] at e2
      | some res =>
        rw [e4] at e2
        simp only [sized] at e2
        split at e2
        · rename_i hres
          cases e2
          cases d with
          | list xs =>
            cases e3
            refine ⟨[(y, i)], _, gName i, BTs X scope cs, BE X scope elt, pi_list pe_se, blkOk_by hb, (fun s H C cl fp => pg_blk K hb hl s H C cl fp), (fun s H C cl fp => pts_bt cs s H C cl fp hcs), (fun s H C cl fp => pe_be s H C cl fp), (ok_set (mE_ok m1)), ?_⟩
            refine hsr X W it K m1 F0 H0 F H st σ _ _ S e1 fun v H1 F1 g1 r1 f1 => ?_
            obtain ⟨a, vs, rfl, ea, qa⟩ := r1.lst g1.fh
            have S1 := S.mono g1
            refine ⟨a, rfl, ⟨vs, .inl (.inl ea)⟩, fun A nA => ?_⟩
            refine lc_list (xs := vs) (fun j H' => CI G F1 H1 A (fun d => tests (evB G.Φ ifs (st.set i (some (false, d))))) (fun d => asD (evE G.Φ x (st.set i (some (false, d))))) res (ds.drop j) H') ?_ (fun j H' _ I => ?_) (fun j v H' hv I => ?_) fun H' I => ?_
            · exact ci_start g1.fh nA e4
            · obtain ⟨F', _, _, _, g, _⟩ := I
              exact .inl (.inl (g.hh _ _ ea))
            · obtain ⟨d, hd, rd⟩ := qa.getV hv
              rw [drop_cons hd] at I
              obtain ⟨w1, w2⟩ := set_wipe σ i v
              exact ⟨by show wipe ((wipe σ [i]).set i (some v)) [i] = wipe σ [i]; rw [w1]; exact w2, comp_turn hx hs K m2 m3 S1 nA hres rd w1 I⟩
            · rw [qa.length, List.drop_length] at I
              exact ci_end P g1 nA I
          | tuple xs =>
            cases e3
            refine ⟨[(y, i)], _, gName i, BTs X scope cs, BE X scope elt, pi_tup pe_se, blkOk_by hb, (fun s H C cl fp => pg_blk K hb hl s H C cl fp), (fun s H C cl fp => pts_bt cs s H C cl fp hcs), (fun s H C cl fp => pe_be s H C cl fp), (ok_set (mE_ok m1)), ?_⟩
            refine hsr X W it K m1 F0 H0 F H st σ _ _ S e1 fun v H1 F1 g1 r1 f1 => ?_
            obtain ⟨a, vs, rfl, ea, qa⟩ := r1.tup
            have S1 := S.mono g1
            refine ⟨a, rfl, ⟨vs, SqT.of (g1.fh _ _ ea)⟩, fun A nA => ?_⟩
            refine lc_tup (xs := vs) (fun j H' => CI G F1 H1 A (fun d => tests (evB G.Φ ifs (st.set i (some (false, d))))) (fun d => asD (evE G.Φ x (st.set i (some (false, d))))) res (ds.drop j) H') ?_ (fun j H' _ I => ?_) (fun j v H' hv I => ?_) fun H' I => ?_
            · exact ci_start g1.fh nA e4
            · obtain ⟨F', _, _, _, g, _⟩ := I
              exact SqT.of (g.hh _ _ (g1.fh _ _ ea))
            · obtain ⟨d, hd, rd⟩ := qa.getV hv
              rw [drop_cons hd] at I
              obtain ⟨w1, w2⟩ := set_wipe σ i v
              exact ⟨by show wipe ((wipe σ [i]).set i (some v)) [i] = wipe σ [i]; rw [w1]; exact w2, comp_turn hx hs K m2 m3 S1 nA hres rd w1 I⟩
            · rw [qa.length, List.drop_length] at I
              exact ci_end P g1 nA I
          | _ => cases e3
        · cases e2
  · refine ⟨[(y, i)], _, gName i, BTs X scope cs, BE X scope elt, pi_list pe_se, blkOk_by hb, (fun s H C cl fp => pg_blk K hb hl s H C cl fp), (fun s H C cl fp => pts_bt cs s H C cl fp hcs), (fun s H C cl fp => pe_be s H C cl fp), (ok_set (mE_ok m1)), ?_⟩
    exact hsr X W it K m1 F0 H0 F H st σ _ _ S e1 P
theorem read_cmpR {x n : E} {i : Nat} {ifs : List E} (hx : SndE G x) (hn : SndE G n) (hs : SntAll G ifs) {W : WX} {X : Cx} (K : CK G W X) {elt it : Expr} {y : Str} {p1 p2 p3 : Pos} {cs : List Expr} {scope : Scope}
    (hgl : glB X.env.scope "range" = true) (m1 : mE (cc G X) X.env.scope n it = true) (hb : blkC X.N X.env.scope scope [(y, i)] = true) (hl : locB scope y = true) (m2 : mE (cc G X) (relS scope X.env.scope) x elt = true) (m3 : mL (cc G X) (relS scope X.env.scope) ifs cs = true) (hz : ifs.length ≤ 1)
    {F0 H0 F H : Hp} {st : Ev} {σ : L2.St} {r : EO} {Q : VK} (S : StOK G.K F0 H0 F H st σ) (ev : evE G.Φ (.cmpR x i n ifs) st = some r) (P : PostE G W σ F H r Q) : LcPack X elt (.Name y p1) (.Call (.Name "range" p3) [it] [] p2) cs scope σ H Q := by
  rw [evE] at ev
  have hcs := opt_list (l := cs) (by rw [← mL_length m3]; exact hz)
  refine ⟨[(y, i)], _, gName i, BTs X scope cs, BE X scope elt, pi_range1 (glB_gl hgl) (K.bl _ (by decide +kernel)) (arg1 (mE_ok m1)) (ok_star (mE_ok m1)), blkOk_by hb, (fun s H C cl fp => pg_blk K hb hl s H C cl fp), (fun s H C cl fp => pts_bt cs s H C cl fp hcs), (fun s H C cl fp => pe_be s H C cl fp), (fun _ => rfl), ?_⟩
  rcases bindV_some ev with ⟨k, d, e1, e2⟩ | ⟨c, e1, rfl⟩
  · refine hn X W it K m1 F0 H0 F H st σ _ _ S e1 fun v H1 F1 g1 r1 f1 => ?_
    split at e2
    · rename_i nn
      split at e2
      · rename_i hnn
        cases e4 : compGo (fun d => tests (evB G.Φ ifs (st.set i (some (false, d))))) (fun d => asD (evE G.Φ x (st.set i (some (false, d))))) (rngD nn.toNat) with
        | none => rw [e4] at e2; simp [sized] at e2
        | some res =>
          rw [e4] at e2
          simp only [sized] at e2
          split at e2
          · rename_i hres
            cases e2
            have S1 := S.mono g1
            refine ⟨nn, by rw [r1.int], by omega, by omega, fun A nA => ?_⟩
            refine lc_range (lo := 0) (n := nn.toNat) (fun j H' => CI G F1 H1 A (fun d => tests (evB G.Φ ifs (st.set i (some (false, d))))) (fun d => asD (evE G.Φ x (st.set i (some (false, d))))) res ((rngD nn.toNat).drop j) H') ?_ (fun j H' hj I => ?_) fun H' I => ?_
            · exact ci_start g1.fh nA e4
            · have hd : (rngD nn.toNat)[j]? = some (.int (j : Int)) := by
                unfold rngD
                rw [List.getElem?_map, List.getElem?_range hj]
                rfl
              rw [drop_cons hd] at I
              obtain ⟨w1, w2⟩ := set_wipe σ i (.int (0 + (j : Int)))
              have rj : Rp G.K F1 (.int (0 + (j : Int))) (.int (j : Int)) := by rw [Int.zero_add]; exact .int _
              exact ⟨by show wipe ((wipe σ [i]).set i (some (.int (0 + (j : Int))))) [i] = wipe σ [i]; rw [w1]; exact w2, comp_turn hx hs K m2 m3 S1 nA hres rj w1 I⟩
            · have hlen : (rngD nn.toNat).length = nn.toNat := by unfold rngD; rw [List.length_map, List.length_range]
              rw [List.drop_of_length_le (Nat.le_of_eq hlen)] at I
              exact ci_end P g1 nA I
          · cases e2
      · cases e2
    · cases e2
  · exact hn X W it K m1 F0 H0 F H st σ _ _ S e1 P
theorem snd_cmpL {x src : E} {i : Nat} {ifs : List E} (hx : SndE G x) (hsr : SndE G src) (hs : SntAll G ifs) : SndE G (.cmpL x i src ifs) := by
  intro X W ex K m F0 H0 F H st σ r Q S ev P
  obtain ⟨elt, y, p1, it, cs, scope, pos, rfl, m1, hb, hl, m2, m3, hz⟩ := mE_cmpL m
  exact pack_se K (read_cmpL hx hsr hs K m1 hb hl m2 m3 hz S ev P)
theorem snd_cmpR {x n : E} {i : Nat} {ifs : List E} (hx : SndE G x) (hn : SndE G n) (hs : SntAll G ifs) : SndE G (.cmpR x i n ifs) := by
  intro X W ex K m F0 H0 F H st σ r Q S ev P
  obtain ⟨elt, y, p1, g, it, p2, cs, scope, pos, rfl, hg, m1, hb, hl, m2, m3, hz⟩ := mE_cmpR m
  obtain ⟨p3, rfl, hgl, hpl⟩ := isG_name hg
  exact pack_se K (read_cmpR hx hn hs K hgl m1 hb hl m2 m3 hz S ev P)
end
end Dv

/-! Dv, part I: every expression. -/
namespace Dv
open PySem PySem.Spec PyProof.Rows L2

section
variable {G : GI}
theorem snt_ife {d a b : E} (hd : SndT G d) (ha : SndT G a) (hb : SndT G b) : SndT G (.ife d a b) := by
  intro X W ex K m F0 H0 F H st σ r Q S ev P
  obtain ⟨e, f, g, pos, rfl, m1, m2, m3⟩ := mE_ife m
  rw [evE] at ev
  have main : ST X e σ H fun t H1 => if t = true then ST X f σ H1 Q else ST X g σ H1 Q := by
    rcases boolV_some ev with ⟨b, e1, e3⟩ | ⟨c, e1, rfl⟩
    · refine hd X W e K m1 F0 H0 F H st σ _ _ S e1 fun H1 F1 g1 => ?_
      cases b with
      | true =>
        rw [if_pos rfl] at e3 ⊢
        exact ha X W f K m2 F0 H0 F1 H1 st σ r Q (S.mono g1) e3 (P.gr g1)
      | false =>
        rw [if_neg Bool.false_ne_true] at e3 ⊢
        exact hb X W g K m3 F0 H0 F1 H1 st σ r Q (S.mono g1) e3 (P.gr g1)
    · exact hd X W e K m1 F0 H0 F H st σ _ _ S e1 P
  intro pins s I
  show wpAny _ _ (do if ← isTrue e X.env (eval e X.env) then isTrue f X.env (eval f X.env) else isTrue g X.env (eval g X.env)) _ _ _
  refine wpAny_bind (thn (main pins s I) fun t s1 ⟨H1, I1, q⟩ => ?_)
  cases t with
  | true => rw [if_pos rfl] at q ⊢; exact q pins s1 I1
  | false => rw [if_neg Bool.false_ne_true] at q ⊢; exact q pins s1 I1
def plainT (e : E) : Prop := ∀ (c : Cc) (sc : Scope) (ex : Expr), mE c sc e ex = true → ∀ (env : Env) (whole : Sem Value), isTrue ex env whole = (do let v ← whole; standAt ex.pos; holding [v] (truthy v))
theorem both {e : E} (h : SndE G e) (p : plainT e) : SndE G e ∧ SndT G e := ⟨h, snt_val h p⟩
theorem cons_all {e : E} {es : List E} (h : SndE G e ∧ SndT G e) (hs : SndAll G es ∧ SntAll G es) : SndAll G (e :: es) ∧ SntAll G (e :: es) :=
  ⟨fun x m => by
    rcases List.mem_cons.mp m with rfl | m
    · exact h.1
    · exact hs.1 x m, fun x m => by
    rcases List.mem_cons.mp m with rfl | m
    · exact h.2
    · exact hs.2 x m⟩
mutual
theorem sndE : ∀ e : E, SndE G e ∧ SndT G e
  | .var i => both (snd_var i) fun _ _ _ m => by obtain ⟨_, _, rfl, _⟩ := mE_var m; exact fun _ _ => rfl
  | .non => both snd_non fun _ _ _ m => by obtain ⟨_, _, rfl⟩ := mE_non m; exact fun _ _ => rfl
  | .bl b => both (snd_bl b) fun _ _ _ m => by obtain ⟨_, _, rfl⟩ := mE_bl m; exact fun _ _ => rfl
  | .int i => both (snd_int i) fun _ _ _ m => by obtain ⟨_, _, rfl⟩ := mE_int m; exact fun _ _ => rfl
  | .str x => both (snd_str x) fun _ _ _ m => by obtain ⟨_, _, rfl⟩ := mE_str m; exact fun _ _ => rfl
  | .glb x i => both (snd_glb x i) fun _ _ _ m => by obtain ⟨_, rfl, _⟩ := mE_glb m; exact fun _ _ => rfl
  | .bin op a b => both (snd_bin (sndE a).1 (sndE b).1) fun _ _ _ m => by obtain ⟨_, _, _, _, rfl, _⟩ := mE_bin m; exact fun _ _ => rfl
  | .neg a => both (snd_neg (sndE a).1) fun _ _ _ m => by obtain ⟨_, _, rfl, _⟩ := mE_neg m; exact fun _ _ => rfl
  | .cmp op a b => ⟨snd_cmp (sndE a).1 (sndE b).1, snt_cmp (sndE a).1 (sndE b).1⟩
  | .chn o p a b c => ⟨snd_chn (sndE a).1 (sndE b).1 (sndE c).1, snt_chn (sndE a).1 (sndE b).1 (sndE c).1⟩
  | .and es => ⟨snd_and (sndL es).1, snt_and (sndL es).2⟩
  | .or es => ⟨snd_or (sndL es).1, snt_or (sndL es).2⟩
  | .not a => ⟨snd_not (sndE a).1, snt_not (sndE a).2⟩
  | .ife c a b => ⟨snd_ife (sndE c).2 (sndE a).1 (sndE b).1, snt_ife (sndE c).2 (sndE a).2 (sndE b).2⟩
  | .idx a i => both (snd_idx (sndE a).1 (sndE i).1) fun _ _ _ m => by obtain ⟨_, _, _, rfl, _⟩ := mE_idx m; exact fun _ _ => rfl
  | .slc a lo hi => both (snd_slc (sndE a).1 (sndO lo) (sndO hi)) fun _ _ _ m => by obtain ⟨_, _, _, _, _, rfl, _⟩ := mE_slc m; exact fun _ _ => rfl
  | .tup es => both (snd_tup (sndL es).1) fun _ _ _ m => by obtain ⟨_, _, _, rfl, _⟩ := mE_tup m; exact fun _ _ => rfl
  | .lst es => both (snd_lst (sndL es).1) fun _ _ _ m => by obtain ⟨_, _, rfl, _⟩ := mE_lst m; exact fun _ _ => rfl
  | .dic => both snd_dic fun _ _ _ m => by obtain ⟨_, rfl⟩ := mE_dic m; exact fun _ _ => rfl
  | .dicT => both snd_dicT fun _ _ _ m => by obtain ⟨_, rfl⟩ := mE_dicT m; exact fun _ _ => rfl
  | .lset a => both (snd_lset (sndE a).1) fun _ _ _ m => by obtain ⟨_, _, _, _, _, rfl, _⟩ := mE_lset m; exact fun _ _ => rfl
  | .fn f a => both (snd_fn (sndE a).1) fun _ _ _ m => by obtain ⟨_, _, _, rfl, _⟩ := mE_fn m; exact fun _ _ => rfl
  | .isi a t => both (snd_isi (sndE a).1) fun _ _ _ m => by obtain ⟨_, _, _, _, rfl, _⟩ := mE_isi m; exact fun _ _ => rfl
  | .isis a ts => both (snd_isis (sndE a).1) fun _ _ _ m => by obtain ⟨_, _, _, _, _, _, rfl, _⟩ := mE_isis m; exact fun _ _ => rfl
  | .lrg a => both (snd_lrg (sndE a).1) fun _ _ _ m => by obtain ⟨_, _, _, _, _, rfl, _⟩ := mE_lrg m; exact fun _ _ => rfl
  | .call f es => both (snd_call (sndL es).1) fun _ _ _ m => by obtain ⟨_, _, _, _, rfl, _⟩ := mE_call m; exact fun _ _ => rfl
  | .callAt fs i es => both (snd_callAt (sndE i).1 (sndL es).1) fun _ _ _ m => by obtain ⟨_, _, _, _, _, _, _, rfl, _⟩ := mE_callAt m; exact fun _ _ => rfl
  | .cmpL x i src ifs => both (snd_cmpL (sndE x).1 (sndE src).1 (sndL ifs).2) fun _ _ _ m => by obtain ⟨_, _, _, _, _, _, _, rfl, _⟩ := mE_cmpL m; exact fun _ _ => rfl
  | .cmpR x i n ifs => both (snd_cmpR (sndE x).1 (sndE n).1 (sndL ifs).2) fun _ _ _ m => by obtain ⟨_, _, _, _, _, _, _, _, _, rfl, _⟩ := mE_cmpR m; exact fun _ _ => rfl
theorem sndL : ∀ es : List E, SndAll G es ∧ SntAll G es
  | [] => ⟨fun _ h => (nomatch h), fun _ h => (nomatch h)⟩
  | e :: es => cons_all (sndE e) (sndL es)
theorem sndO : ∀ o : Option E, SndO G o
  | none => trivial
  | some e => (sndE e).1
end
end
end Dv

/-! Dv, part J: statements. -/
namespace Dv
open PySem PySem.Spec PyProof.Rows L2

/-! ### the checker read backwards -/
section
variable {c : Cc} {sc : Scope} {s : Stmt}
theorem mS_set {i : Nat} {e : E} (m : mS c sc (.set i e) s = true) : ∃ x px v pos, s = .Assign [.Name x px] v pos ∧ wrB c.N sc x i = true ∧ mE c sc e v = true ∧ (noComp v = true ∨
    ∃ elt gs scope vp, v = .ListComp elt gs scope vp ∧ sc.names.lookup x = some .local ∧ (px.line == vp.line) = true ∧ (scope.names.any fun (n, k) => n == x && (k == .local || k == .cell)) = false) := by
  unfold mS at m
  split at m <;> first | contradiction | skip
  rename_i h
  cases h
  simp only [Bool.and_eq_true, Bool.or_eq_true] at m
  refine ⟨_, _, _, _, rfl, m.1.1, m.1.2, ?_⟩
  rcases m.2 with h | h
  · exact .inl h
  · split at h
    · simp only [Bool.and_eq_true, decide_eq_true_eq, Bool.not_eq_true'] at h
      exact .inr ⟨_, _, _, _, rfl, h.1.1, h.1.2, h.2⟩
    · cases h
theorem mS_setT {is : List Nat} {e : E} (m : mS c sc (.setT is e) s = true) : ∃ ts k p v pos, s = .Assign [.Tuple ts k p] v pos ∧ namesB c.N sc is ts = true ∧ mE c sc e v = true ∧ noTup v = true := by
  unfold mS at m
  split at m <;> first | contradiction | skip
  rename_i h
  cases h
  simp only [Bool.and_eq_true] at m
  exact ⟨_, _, _, _, _, rfl, m.1.1, m.1.2, m.2⟩
theorem mS_setI {i : Nat} {k e : E} (m : mS c sc (.setI i k e) s = true) : ∃ x px j p v pos, s = .Assign [.Subscript (.Name x px) j p] v pos ∧ rdB c.N sc x i = true ∧ mE c sc k j = true ∧ mE c sc e v = true ∧ noComp v = true := by
  unfold mS at m
  split at m <;> first | contradiction | skip
  rename_i h
  cases h
  simp only [Bool.and_eq_true] at m
  exact ⟨_, _, _, _, _, _, rfl, m.1.1.1, m.1.1.2, m.1.2, m.2⟩
theorem mS_dput {i : Nat} {k e : E} (m : mS c sc (.dput i k e) s = true) : ∃ x px j p v pos, s = .Assign [.Subscript (.Name x px) j p] v pos ∧ rdB c.N sc x i = true ∧ mE c sc k j = true ∧ mE c sc e v = true ∧ noComp v = true := by
  unfold mS at m
  split at m <;> first | contradiction | skip
  rename_i h
  cases h
  simp only [Bool.and_eq_true] at m
  exact ⟨_, _, _, _, _, _, rfl, m.1.1.1, m.1.1.2, m.1.2, m.2⟩
theorem recv_all {i : Nat} {m : Str} {f : Expr} {p : Pos} (h : recv c sc i m f p = true) : ∃ x px apos, f = .Attribute (.Name x px) m apos ∧ rdB c.N sc x i = true ∧ (apos.endLine == p.line) = true := by
  unfold recv at h
  split at h
  · simp only [Bool.and_eq_true, decide_eq_true_eq] at h
    obtain ⟨⟨h1, rfl⟩, h2⟩ := h
    exact ⟨_, _, _, rfl, h1, h2⟩
  · cases h
theorem mS_app {i : Nat} {e : E} (m : mS c sc (.app i e) s = true) : ∃ f a p pos, s = .Expr (.Call f [a] [] p) pos ∧ recv c sc i "append" f p = true ∧ mE c sc e a = true := by
  unfold mS at m
  split at m <;> first | contradiction | skip
  rename_i h
  cases h
  simp only [Bool.and_eq_true] at m
  exact ⟨_, _, _, _, rfl, m.1, m.2⟩
theorem mS_ext {i : Nat} {e : E} (m : mS c sc (.ext i e) s = true) : ∃ f a p pos, s = .Expr (.Call f [a] [] p) pos ∧ recv c sc i "extend" f p = true ∧ mE c sc e a = true := by
  unfold mS at m
  split at m <;> first | contradiction | skip
  rename_i h
  cases h
  simp only [Bool.and_eq_true] at m
  exact ⟨_, _, _, _, rfl, m.1, m.2⟩
theorem mS_ins {i : Nat} {k e : E} (m : mS c sc (.ins i k e) s = true) : ∃ f b a p pos, s = .Expr (.Call f [b, a] [] p) pos ∧ recv c sc i "insert" f p = true ∧ mE c sc k b = true ∧ mE c sc e a = true := by
  unfold mS at m
  split at m <;> first | contradiction | skip
  rename_i h
  cases h
  simp only [Bool.and_eq_true] at m
  exact ⟨_, _, _, _, _, rfl, m.1.1, m.1.2, m.2⟩
theorem mS_clr {i : Nat} (m : mS c sc (.clr i) s = true) : ∃ f p pos, s = .Expr (.Call f [] [] p) pos ∧ recv c sc i "clear" f p = true := by
  unfold mS at m
  split at m <;> first | contradiction | skip
  rename_i h
  cases h
  exact ⟨_, _, _, rfl, m⟩
theorem mS_ite {d : E} {a b : List S} (m : mS c sc (.ite d a b) s = true) : ∃ t x y pos, s = .If t x y pos ∧ mE c sc d t = true ∧ mSs c sc a x = true ∧ mSs c sc b y = true := by
  unfold mS at m
  split at m <;> first | contradiction | skip
  rename_i h
  cases h
  simp only [Bool.and_eq_true] at m
  exact ⟨_, _, _, _, rfl, m.1.1, m.1.2, m.2⟩
theorem mS_for {i : Nat} {src : E} {b : List S} (m : mS c sc (.for i src b) s = true) : ∃ x px it body pos, s = .For (.Name x px) it body [] pos ∧ wrB c.N sc x i = true ∧ mE c sc src it = true ∧ mSs c sc b body = true := by
  unfold mS at m
  split at m <;> first | contradiction | skip
  rename_i h
  cases h
  simp only [Bool.and_eq_true] at m
  exact ⟨_, _, _, _, _, rfl, m.1.1, m.1.2, m.2⟩
theorem mS_forR {i : Nat} {n : E} {b : List S} (m : mS c sc (.forR i n b) s = true) : ∃ x px g it p body pos, s = .For (.Name x px) (.Call g [it] [] p) body [] pos ∧ wrB c.N sc x i = true ∧ isG sc g "range" = true ∧ mE c sc n it = true ∧ mSs c sc b body = true := by
  unfold mS at m
  split at m <;> first | contradiction | skip
  rename_i h
  cases h
  simp only [Bool.and_eq_true] at m
  exact ⟨_, _, _, _, _, _, _, rfl, m.1.1.1, m.1.1.2, m.1.2, m.2⟩
theorem mS_forT {is : List Nat} {src : E} {b : List S} (m : mS c sc (.forT is src b) s = true) : ∃ ts k p it body pos, s = .For (.Tuple ts k p) it body [] pos ∧ namesB c.N sc is ts = true ∧ mE c sc src it = true ∧ mSs c sc b body = true := by
  unfold mS at m
  split at m <;> first | contradiction | skip
  rename_i h
  cases h
  simp only [Bool.and_eq_true] at m
  exact ⟨_, _, _, _, _, _, rfl, m.1.1, m.1.2, m.2⟩
theorem mS_whl {d : E} {b : List S} (m : mS c sc (.whl d b) s = true) : ∃ t body pos, s = .While t body [] pos ∧ mE c sc d t = true ∧ mSs c sc b body = true := by
  unfold mS at m
  split at m <;> first | contradiction | skip
  rename_i h
  cases h
  simp only [Bool.and_eq_true] at m
  exact ⟨_, _, _, rfl, m.1, m.2⟩
theorem mS_ret {e : E} (m : mS c sc (.ret e) s = true) : ∃ v pos, s = .Return (some v) pos ∧ mE c sc e v = true := by
  unfold mS at m
  split at m <;> first | contradiction | skip
  rename_i h
  cases h
  exact ⟨_, _, rfl, m⟩
theorem mS_retN (m : mS c sc .retN s = true) : ∃ pos, s = .Return none pos := by
  unfold mS at m
  split at m <;> first | contradiction | (rename_i h; cases h; done) | exact ⟨_, rfl⟩
theorem mS_exp {e : E} (m : mS c sc (.exp e) s = true) : ∃ v pos, s = .Expr v pos ∧ mE c sc e v = true ∧ noComp v = true := by
  unfold mS at m
  split at m <;> first | contradiction | skip
  rename_i h
  cases h
  simp only [Bool.and_eq_true] at m
  exact ⟨_, _, rfl, m.1, m.2⟩
theorem mS_rai {x : Str} (m : mS c sc (.rai x) s = true) : ∃ f t k p2 p pos, s = .Raise (some (.Call f [.Constant (.str t) k p2] [] p)) none pos ∧ isG sc f x = true := by
  unfold mS at m
  split at m <;> first | contradiction | skip
  rename_i h
  cases h
  exact ⟨_, _, _, _, _, _, rfl, m⟩
theorem noComp_sw {e : Expr} (h : noComp e = true) (t : Option Expr) (l : Nat) (env : Env) : swapsWith e t l env = pure false := by
  cases e <;> first | rfl | (simp [noComp] at h)
theorem noTup_sw {e : Expr} (h : noTup e = true) (tg : List Expr) (env : Env) : swappedStores tg e env = pure none := by
  cases e <;> first | (unfold swappedStores; split <;> first | rfl | (rename_i h'; split at h' <;> first | contradiction | (cases h'))) | (simp [noTup] at h)
theorem noTup_comp {e : Expr} (h : noTup e = true) : noComp e = true := by
  cases e <;> first | rfl | (simp [noTup, noComp] at h)
end
end Dv

/-! Dv, part K: what is wanted behind a statement; the small statements. -/
namespace Dv
open PySem PySem.Spec PyProof.Rows L2

/-- what a suite asks of an exception of the class c -/
structure HotOK (K : PySem.W.Frag) (ea : Str → Addr) (c : Str) (ht : List Str) : Prop where
  ec : ExcC K (ea c)
  one : ∀ d ∈ ht, PySem.W.kitOne K (.ref (ea c)) (.ref (ea d)) = some (isSub c d)
  v : PySem.W.kitOne K (.ref (ea c)) (.type "ValueError") = some true
  ex : PySem.W.exmOne K (.ref (ea c)) (.ref (ea "SwapError")) = some true
structure CKS (G : GI) (es : List Str) (W : WX) (X : Cx) : Prop extends CK G W X where
  hot : ∀ c ∈ G.hc, HotOK X.K G.ea c G.ht
  hg : ∀ d ∈ G.ht, X.mg d = some (.ref (G.ea d))
  stk : X.stack = X.env :: X.outer
  frm : X.env.frame = some X.env.locals
  po : PassesOwn (model X.prog X.w) X.A X.env X.xe
  fnT : ∀ x, X.fn x = true
  kd : X.env.scope.kind = .function
  rs : ∀ c ∈ es, Gl X c → plainName c = true → ∀ (m : Str) (j : Nat) (p p2 pos : Pos), PMk X (.Call (.Name c p) [.Constant (.str m) j p2] [] pos) (fun _ H Q => Q (.ref (G.ea c)) none H)
def PostS (G : GI) (W : WX) (F0 H0 F : Hp) (r : SO) (Z : Ends) : Prop :=
  match r with
  | .nx st => ∀ σ' H' F', StOK G.K F0 H0 F' H' st σ' → Sub F F' → Z.nx σ' H'
  | .rt k d => ∀ v H' F', Gr F0 H0 F' H' → RV G.K F' H' k d v → Fresh H0 k v → Z.rt v H'
  | .ex c => ∀ σ' H', Sub H0 H' → W (.ref (G.ea c)) none σ' H'
/- the classes that a statement raises -/
mutual
def raises : S → List Str
  | .rai c => [c]
  | .ite _ a b => raisesL a ++ raisesL b
  | .for _ _ b => raisesL b
  | .forR _ _ b => raisesL b
  | .forT _ _ b => raisesL b
  | .whl _ b => raisesL b
  | _ => []
def raisesL : List S → List Str
  | [] => []
  | s :: ss => raises s ++ raisesL ss
end
def SndS (G : GI) (fu : Nat) (s : S) : Prop := ∀ (X : Cx) (es : List Str) (W : WX) (sx : Stmt), CKS G es W X → (∀ c ∈ raises s, c ∈ es) → mS (cc G X) X.env.scope s sx = true →
  ∀ (F0 H0 F H : Hp) (st : Ev) (σ : L2.St) (r : SO) (Z : Ends), StOK G.K F0 H0 F H st σ → evS G.Φ fu s st = some r → PostS G W F0 H0 F r Z → SS X sx Z σ H
def SndSs (G : GI) (fu : Nat) (ss : List S) : Prop := ∀ (X : Cx) (es : List Str) (W : WX) (sx : List Stmt), CKS G es W X → (∀ c ∈ raisesL ss, c ∈ es) → mSs (cc G X) X.env.scope ss sx = true →
  ∀ (F0 H0 F H : Hp) (st : Ev) (σ : L2.St) (r : SO) (Z : Ends), StOK G.K F0 H0 F H st σ → evSs G.Φ fu ss st = some r → PostS G W F0 H0 F r Z → SSs X sx Z σ H
section
variable {G : GI} {fu : Nat} {es : List Str} {W : WX} {X : Cx} {F0 H0 F H F1 H1 : Hp} {st : Ev} {σ : L2.St} {r : SO} {Z : Ends}
theorem PostS.sub (P : PostS G W F0 H0 F r Z) (s : Sub F F1) : PostS G W F0 H0 F1 r Z := by
  cases r with
  | nx st => exact fun σ' H' F' S z => P σ' H' F' S (s.trans z)
  | rt k d => exact P
  | ex c => exact P
theorem onV_some {q : Option EO} {f : Kd → D → Option SO} (h : onV q f = some r) : (∃ k d, q = some (.ok k d) ∧ f k d = some r) ∨ ∃ c, q = some (.ex c) ∧ r = .ex c := by
  unfold onV at h
  split at h
  · exact .inl ⟨_, _, rfl, h⟩
  · cases h; exact .inr ⟨_, rfl, rfl⟩
  · cases h
theorem onB_some {q : Option EO} {f : Bool → Option SO} (h : onB q f = some r) : (∃ b, q = some (.ok .shr (.bool b)) ∧ f b = some r) ∨ ∃ c, q = some (.ex c) ∧ r = .ex c := by
  unfold onB at h
  split at h
  · exact .inl ⟨_, rfl, h⟩
  · cases h; exact .inr ⟨_, rfl, rfl⟩
  · cases h
theorem ex_ok {c : Str} (P : PostS G W F0 H0 F (.ex c) Z) (S : StOK G.K F0 H0 F H st σ) {Q : VK} : PostE G W σ F H (.ex c) Q := fun H' s => P σ H' (S.gr.hh.trans s)
/-- one value, then what follows -/
theorem oneS {a : E} {e : Expr} (K : CKS G es W X) (m : mE (cc G X) X.env.scope a e = true) (S : StOK G.K F0 H0 F H st σ) {g : Kd → D → Option SO} (ev : onV (evE G.Φ a st) g = some r) (P : PostS G W F0 H0 F r Z)
    {R : VK} (hk : ∀ k x v H1 F1, evE G.Φ a st = some (.ok k x) → g k x = some r → Gr F H F1 H1 → StOK G.K F0 H0 F1 H1 st σ → RV G.K F1 H1 k x v → Fresh H k v → R v H1) : SE X e σ H R := by
  rcases onV_some ev with ⟨k, d, e1, e2⟩ | ⟨c, e1, rfl⟩
  · exact (sndE a).1 X W e K.toCK m F0 H0 F H st σ _ _ S e1 fun v H1 F1 g1 r1 f1 => hk k d v H1 F1 e1 e2 g1 (S.mono g1) r1 f1
  · exact (sndE a).1 X W e K.toCK m F0 H0 F H st σ _ _ S e1 (ex_ok P S)
/-- a value goes into a slot -/
theorem set_slot {i : Nat} {k : Kd} {d : D} {v : V} (S : StOK G.K F0 H0 F H st σ) (g : Gr F H F1 H1) (r1 : RV G.K F1 H1 k d v) (f1 : Fresh H k v) (e : setV st i k d = some r) (P : PostS G W F0 H0 F r Z) : Z.nx (σ.set i (some v)) H1 := by
  unfold setV at e
  split at e
  · cases e
    exact P _ _ F1 ((S.mono g).setS i r1) g.ff
  · cases e
    obtain ⟨p, rfl, n, t⟩ := r1
    have np := f1 rfl p rfl
    refine P _ _ F1 ((S.mono g).setO i n (S.gr.hh.none np) t fun j dj hj ej hp => ?_) g.ff
    obtain ⟨q, h1, h2, h3, h4⟩ := S.own j dj ej
    rw [hp] at h1
    cases h1
    obtain ⟨o, ho⟩ := h4.has
    rw [np] at ho
    cases ho
  · cases e
theorem sns_set {i : Nat} {e : E} : SndS G fu (.set i e) := by
  intro X es W sx K hr m F0 H0 F H st σ r Z S ev P
  obtain ⟨x, px, v, pos, rfl, hw, m1, hc⟩ := mS_set m
  obtain ⟨hN, hl⟩ := wrB_all hw
  rw [evS] at ev
  have main : SE X v σ H fun y H1 => Z.nx (σ.set i (some y)) H1 := oneS K m1 S ev P fun k d y H1 F1 _ e2 g S1 r1 f1 => set_slot S g r1 f1 e2 P
  rcases hc with hc | ⟨elt, gs, scope, vp, rfl, hloc, hline, hno⟩
  · exact ss_of (ps_set K.nd hN hl pe_se (noComp_sw hc _ _ _) (.inl (K.fnT x))) main
  · -- a comprehension: its value is swapped in
    have pk : ∃ tg iter cs, gs = [⟨tg, iter, cs, 0⟩] ∧ LcPack X elt tg iter cs scope σ H fun y H1 => Z.nx (σ.set i (some y)) H1 := by
      rcases onV_some ev with ⟨k, d, e1, e2⟩ | ⟨c, e1, rfl⟩
      · have PE1 : PostE G W σ F H (.ok k d) fun y H1 => Z.nx (σ.set i (some y)) H1 := fun y H1 F1 g r1 f1 => set_slot S g r1 f1 e2 P
        cases e with
        | cmpL a j src ifs =>
          obtain ⟨elt, y, p1, it, cs, scope, pos, ee, n1, hb, hl, m2, m3, hz⟩ := mE_cmpL m1
          cases ee
          exact ⟨_, _, _, rfl, read_cmpL (sndE a).1 (sndE src).1 (sndL ifs).2 K.toCK n1 hb hl m2 m3 hz S e1 PE1⟩
        | cmpR a j n ifs =>
          obtain ⟨elt, y, p1, g, it, p2, cs, scope, pos, ee, hg, n1, hb, hl, m2, m3, hz⟩ := mE_cmpR m1
          obtain ⟨p3, rfl, hgl, hpl⟩ := isG_name hg
          cases ee
          exact ⟨_, _, _, rfl, read_cmpR (sndE a).1 (sndE n).1 (sndL ifs).2 K.toCK hgl n1 hb hl m2 m3 hz S e1 PE1⟩
        | _ => simp [mE] at m1
      · have PE1 : PostE G W σ F H (.ex c) fun y H1 => Z.nx (σ.set i (some y)) H1 := ex_ok P S
        cases e with
        | cmpL a j src ifs =>
          obtain ⟨elt, y, p1, it, cs, scope, pos, ee, n1, hb, hl, m2, m3, hz⟩ := mE_cmpL m1
          cases ee
          exact ⟨_, _, _, rfl, read_cmpL (sndE a).1 (sndE src).1 (sndL ifs).2 K.toCK n1 hb hl m2 m3 hz S e1 PE1⟩
        | cmpR a j n ifs =>
          obtain ⟨elt, y, p1, g, it, p2, cs, scope, pos, ee, hg, n1, hb, hl, m2, m3, hz⟩ := mE_cmpR m1
          obtain ⟨p3, rfl, hgl, hpl⟩ := isG_name hg
          cases ee
          exact ⟨_, _, _, rfl, read_cmpR (sndE a).1 (sndE n).1 (sndL ifs).2 K.toCK hgl n1 hb hl m2 m3 hz S e1 PE1⟩
        | _ => simp [mE] at m1
    obtain ⟨tg, iter, cs, rfl, own, wi, g, tt, te, h1, h2, h3, h4, h5, h6, h7⟩ := pk
    exact ss_of (ps_setLc (pos := vp) (spos := pos) K.calm K.nd hN hloc (sw_true K.kd hloc hline hno) h1 h2 h3 h4 h5 h6) h7
end
end Dv

/-! Dv, part L: stores, methods of own lists, returns, raises. -/
namespace Dv
open PySem PySem.Spec PyProof.Rows L2

section
variable {G : GI} {fu : Nat} {es : List Str} {W : WX} {X : Cx} {F0 H0 F H F1 H1 : Hp} {st : Ev} {σ : L2.St} {r : SO} {Z : Ends}
/-! ### several names -/
def gNames : List Nat → TGs
  | [] => gNil
  | i :: is => gCons (gName i) (gNames is)
theorem pgs_names (K : CKS G es W X) : ∀ (is : List Nat) (ts : List Expr), namesB X.N X.env.scope is ts = true → PGs X ts (gNames is) ∧ (assignEach ts X.env).length = is.length ∧ (assignEach ts X.env).findIdx? (·.1) = none
  | [], [], _ => ⟨pgs_nil, rfl, rfl⟩
  | [], _ :: _, h => by simp [namesB] at h
  | i :: is, [], h => by simp [namesB] at h
  | i :: is, t :: ts, h => by
    cases t with
    | Name x p =>
      simp only [namesB, Bool.and_eq_true] at h
      obtain ⟨hN, hl⟩ := wrB_all h.1
      obtain ⟨h1, h2, h3⟩ := pgs_names K is ts h.2
      refine ⟨pgs_cons (pg_name K.nd hN hl (.inl (K.fnT x))) h1 rfl, ?_, ?_⟩
      · show (assignEach ts X.env).length + 1 = is.length + 1
        rw [h2]
      · show List.findIdx? (·.1) ((false, assign (.Name x p) X.env) :: assignEach ts X.env) = none
        rw [List.findIdx?_cons]
        simp only [h3]
        rfl
    | _ => simp [namesB] at h
theorem names_read {Q : L2.St → Hp → Prop} : ∀ (is : List Nat) (ds : List D) (xs : List V) (st st' : Ev) (σ : L2.St), setAll is ds st = some st' → Rps G.K F xs ds → StOK G.K F0 H0 F H st σ → (∀ σ', StOK G.K F0 H0 F H st' σ' → Q σ' H) → gNames is xs σ H Q
  | [], [], xs, st, st', σ, e, q, S, h => by
    cases q
    simp only [setAll] at e
    cases e
    exact ⟨rfl, h σ S⟩
  | [], _ :: _, xs, st, st', σ, e, q, S, h => by simp [setAll] at e
  | _ :: _, [], xs, st, st', σ, e, q, S, h => by simp [setAll] at e
  | i :: is, d :: ds, xs, st, st', σ, e, q, S, h => by
    cases q with
    | cons a q =>
      simp only [setAll] at e
      exact ⟨_, _, rfl, names_read is ds _ _ st' _ e q (S.setS i a) h⟩
theorem setAll_length : ∀ {is : List Nat} {ds : List D} {st st' : Ev}, setAll is ds st = some st' → is.length = ds.length
  | [], [], _, _, _ => rfl
  | [], _ :: _, _, _, e => by simp [setAll] at e
  | _ :: _, [], _, _, e => by simp [setAll] at e
  | i :: is, d :: ds, st, st', e => by
    simp only [setAll] at e
    rw [List.length_cons, List.length_cons, setAll_length e]
theorem pg_names (K : CKS G es W X) {is : List Nat} {ts : List Expr} {k : Nat} {p : Pos} (h : namesB X.N X.env.scope is ts = true) : PG X (.Tuple ts k p) (gTup X.K is.length (gNames is)) := by
  obtain ⟨h1, h2, h3⟩ := pgs_names K is ts h
  exact pg_tup K.calm h1 h2 h3
theorem sole_sw {t e : Expr} {l : Nat} {env : Env} (h : noComp e = true) : swapsWithSole [t] e l env = pure false := noComp_sw h (some t) l env
theorem sns_setT {is : List Nat} {e : E} : SndS G fu (.setT is e) := by
  intro X es W sx K hr m F0 H0 F H st σ r Z S ev P
  obtain ⟨ts, k, p, v, pos, rfl, hn, m1, ht⟩ := mS_setT m
  refine ss_of (ps_asg pe_se (pg_names K hn) (sole_sw (noTup_comp ht)) (noTup_sw ht _ _) rfl) ?_
  rw [evS] at ev
  refine oneS K m1 S ev P fun k d v H1 F1 e1 e2 g S1 r1 f1 => ?_
  split at e2
  · rename_i ds
    cases e3 : setAll is ds st with
    | none => rw [e3] at e2; cases e2
    | some st' =>
      rw [e3] at e2
      cases e2
      obtain ⟨a, vs, rfl, ea, qa⟩ := r1.tup
      refine ⟨a, vs, rfl, SqT.of (g.fh _ _ ea), by rw [qa.length, setAll_length e3], ?_⟩
      exact names_read is ds vs st st' σ e3 qa S1 fun σ' S' => P σ' H1 F1 S' g.ff
  · cases e2
/-! ### own lists -/
theorem onOwn_some {i : Nat} {f : List D → Option (List D)} (e : onOwn st i f = some r) : ∃ ds ys, st[i]? = some (some (true, .list ds)) ∧ f ds = some ys ∧ r = .nx (st.set i (some (true, .list ys))) := by
  unfold onOwn at e
  split at e
  · rename_i ds h
    cases e2 : f ds with
    | none => rw [e2] at e; cases e
    | some ys =>
      rw [e2] at e
      cases e
      exact ⟨_, _, h, e2, rfl⟩
  · cases e
theorem own_lst (S : StOK G.K F0 H0 F H st σ) {i : Nat} {ds : List D} (e : st[i]? = some (some (true, .list ds))) : ∃ p vs, σ[i]? = some (some (.ref p)) ∧ F p = none ∧ H0 p = none ∧ H p = some (.lst vs) ∧ Rps G.K F vs ds := by
  obtain ⟨p, h1, h2, h3, vs, h4, h5⟩ := S.own i _ e
  exact ⟨p, vs, h1, h2, h3, h4, h5⟩
/-- a slot's own list is changed -/
theorem chg_own (S : StOK G.K F0 H0 F H st σ) {i : Nat} {ds ys : List D} {p : Addr} {ws : List V} (e : st[i]? = some (some (true, .list ds))) (hp : σ[i]? = some (some (.ref p))) (q : Rps G.K F ws ys) : StOK G.K F0 H0 F (upd H p (.lst ws)) (st.set i (some (true, .list ys))) σ :=
  S.chg e hp ⟨ws, upd_same, q⟩
theorem pv_of {x : Str} {i : Nat} {pos : Pos} (hb : rdB X.N X.env.scope x i = true) : PE X (.Name x pos) (tVar i) := by
  obtain ⟨hN, hv, hp⟩ := rdB_all hb
  obtain ⟨h1, h2, h3⟩ := plain_all hp
  exact pe_var hN hv h1 h2
theorem share {k : Kd} {d : D} {v : V} (g : Gr F H F1 H1) (r1 : RV G.K F1 H1 k d v) (f1 : Fresh H k v) (hk : k ≠ .brw) : ∃ F2, Gr F H F2 H1 ∧ Rp G.K F2 v d := by
  obtain ⟨F2, g2, r2⟩ := shareA g r1 f1
  refine ⟨F2, g2, ?_⟩
  cases k with
  | brw => exact absurd rfl hk
  | shr => exact r2
  | frs => exact r2
theorem guard_some {i : Nat} {q : Option SO} (S : StOK G.K F0 H0 F H st σ) (h : guardO st i q = some r) : ∃ p, σ[i]? = some (some (.ref p)) ∧ q = some r := by
  unfold guardO at h
  split at h
  · rename_i ds e
    obtain ⟨p, vs, h1, _⟩ := own_lst S e
    exact ⟨p, h1, h⟩
  · cases h
theorem guard_own {i : Nat} {q : Option SO} (h : guardO st i q = some r) : ∃ ds, st[i]? = some (some (true, .list ds)) := by
  unfold guardO at h
  split at h
  · exact ⟨_, by assumption⟩
  · cases h
theorem sizeLt {n : Nat} (h : n ≤ lim) : n < sizeLine := Nat.lt_of_le_of_lt h (by rw [sizeLine_eq]; decide)
theorem ix_sub {o j : Expr} {pos : Pos} {env : Env} (h : okEx j = true) (v : Value) : assign (.Subscript o j pos) env v = (do
      let ov ← holding [v] (eval o env)
      let iv ← holding [v, ov] (eval j env)
      standAt pos
      holding [v, ov, iv] (setItem ov iv v)
      release [v, ov, iv] []) := by
  cases j <;> first | rfl | (simp [okEx] at h)
theorem sub_sw {o j e : Expr} {pos : Pos} {env : Env} : swappedStores [.Subscript o j pos] e env = pure none := rfl
theorem sns_setI {i : Nat} {k e : E} : SndS G fu (.setI i k e) := by
  intro X es W sx K hr m F0 H0 F H st σ r Z S ev P
  obtain ⟨x, px, j, p, v, pos, rfl, hb, m1, m2, hc⟩ := mS_setI m
  refine ss_of (ps_asg pe_se (pg_sub (pv_of hb) pe_se set_list (ix_sub (mE_ok m1))) (sole_sw hc) sub_sw rfl) ?_
  rw [evS] at ev
  obtain ⟨w, hw, ev⟩ := guard_some S ev
  refine oneS K m2 S ev P fun ke d v H1 F1 e1 e2 g1 S1 r1 f1 => ?_
  split at e2
  · cases e2
  · rename_i hk
    obtain ⟨F2, g2, rv⟩ := share g1 r1 f1 hk
    have S2 := S.mono g2
    refine ⟨_, hw, ?_⟩
    refine oneS K m1 S2 e2 (P.sub g2.ff) fun kk jd u H3 F3 e3 e4 g3 S3 r3 f3 => ?_
    split at e4
    · rename_i jj
      obtain ⟨ds, ys, h1, h2, rfl⟩ := onOwn_some e4
      obtain ⟨q, vs, h4, n, n0, hq, qv⟩ := own_lst S3 h1
      rw [hw] at h4
      cases h4
      cases e5 : ixN ds.length jj with
      | none => rw [e5] at h2; cases h2
      | some mm =>
        rw [e5] at h2
        cases h2
        refine ⟨_, vs, jj, mm, rfl, r3.int, hq, by rw [qv.length]; exact e5, ?_⟩
        exact P _ _ F3 (chg_own S3 h1 hw (qv.set (rv.to g3.ff) mm)) (g2.ff.trans g3.ff)
    · cases e4
theorem sns_dput {i : Nat} {k e : E} : SndS G fu (.dput i k e) := by
  intro X es W sx K hr m F0 H0 F H st σ r Z S ev P
  obtain ⟨x, px, j, p, v, pos, rfl, hb, m1, m2, hc⟩ := mS_dput m
  have hu := K.hu
  rw [evS] at ev
  unfold guardD at ev
  split at ev
  · rename_i kvs0 hd
    obtain ⟨q, hq, n, n0, t0⟩ := S.own i _ hd
    by_cases hk : ∃ r0, kvs0 = (.bool true, .none) :: r0
    · refine ss_of (ps_tput hu (pv_of hb) pe_se pe_se (noComp_sw hc _ _ _)) ?_
      refine oneS K m2 S ev P fun ke d v H1 F1 e1 e2 g1 S1 r1 f1 => ?_
      split at e2
      · cases e2
      · rename_i hkb
        obtain ⟨F2, g2, rv⟩ := share g1 r1 f1 hkb
        have S2 := S.mono g2
        refine ⟨_, hq, ?_⟩
        refine oneS K m1 S2 e2 (P.sub g2.ff) fun kk jd u H3 F3 e3 e4 g3 S3 r3 f3 => ?_
        have rv3 := rv.to g3.ff
        rw [hd] at e4
        split at e4
        · rename_i jj kvs hh
          cases hh
          obtain ⟨r0, rfl⟩ := hk
          split at e4
          · rename_i hl
            exact absurd hl.2 (by simp [realD, isIntD])
          · cases e4
        · rename_i xs kvs hh
          cases hh
          obtain ⟨r0, rfl⟩ := hk
          split at e4
          · rename_i r' nk h1 h2
            cases (tkOf_eq h1)
            split at e4
            · rename_i hl
              cases e4
              obtain ⟨q', h5, h6, h7, t3⟩ := S3.own i _ hd
              rw [hq] at h5
              cases h5
              rcases t3 with ⟨ks, _, z⟩ | ⟨ys, r1', z0, z1, z2⟩
              · cases z
              · cases z0
                obtain ⟨b, ws, rfl, eb, qb⟩ := r3.tup
                obtain ⟨h8, h9⟩ := tkey_all h2
                refine ⟨_, G.K, F3, ys, _, _, nk, d, rfl, ⟨S3.fh, z1, z2, h8, h9, .tup eb qb, ⟨b, rfl⟩⟩, sizeLt (Nat.le_of_lt hl), rv3, fun xs' z4 => ?_⟩
                exact P _ _ F3 (S3.chg hd hq (.inr ⟨_, _, rfl, upd_same, z4⟩)) (g2.ff.trans g3.ff)
            · cases e4
          · cases e4
        · cases e4
    · refine ss_of (ps_dput (by omega) (pv_of hb) pe_se pe_se (noComp_sw hc _ _ _)) ?_
      refine oneS K m2 S ev P fun ke d v H1 F1 e1 e2 g1 S1 r1 f1 => ?_
      split at e2
      · cases e2
      · rename_i hkb
        obtain ⟨F2, g2, rv⟩ := share g1 r1 f1 hkb
        have S2 := S.mono g2
        refine ⟨_, hq, ?_⟩
        refine oneS K m1 S2 e2 (P.sub g2.ff) fun kk jd u H3 F3 e3 e4 g3 S3 r3 f3 => ?_
        have rv3 := rv.to g3.ff
        rw [hd] at e4
        split at e4
        · rename_i jj kvs hh
          cases hh
          split at e4
          · rename_i hl
            cases e4
            obtain ⟨q', h1, h2, h3, t3⟩ := S3.own i _ hd
            rw [hq] at h1
            cases h1
            rcases t3 with ⟨ks, h4, h5⟩ | ⟨ys, r1', z0, z1, z2⟩
            · refine ⟨_, _, rfl, by rw [r3.int]; exact DPut.k (k := Sum.inl jj) h4 (sizeLt (by rw [h5.length]; exact Nat.le_of_lt hl.1)), ?_⟩
              exact P _ _ F3 (S3.chg hd hq (.inl ⟨_, upd_same, h5.put rv3⟩)) (g2.ff.trans g3.ff)
            · exact absurd ⟨_, z0⟩ hk
          · cases e4
        · rename_i xs kvs hh
          cases hh
          split at e4
          · rename_i r' nk h1 h2
            exact absurd ⟨_, tkOf_eq h1⟩ hk
          · cases e4
        · cases e4
  · cases ev
/-! ### methods -/
theorem ty_lst {p : Addr} {vs : List V} (h : H p = some (.lst vs)) : tyV X.K "list" (.ref p) H := .inl ⟨rfl, _, .inl (.inl h)⟩
theorem sns_app {i : Nat} {e : E} : SndS G fu (.app i e) := by
  intro X es W sx K hr m F0 H0 F H st σ r Z S ev P
  obtain ⟨f, a, p, pos, rfl, hf, m1⟩ := mS_app m
  obtain ⟨x, px, apos, rfl, hb, hl⟩ := recv_all hf
  have ok := mE_ok m1
  refine ss_of (ps_expr (pe_bm PySem.F.plainAttrs_list PySem.F.slot_list_append PySem.F.type_list_append mt_append (pv_of hb) (arg1 ok) rfl (by rw [ok_star ok]; rfl) hl (ok_star ok) rfl) rfl) ?_
  rw [evS] at ev
  obtain ⟨ds, hd⟩ := guard_own ev
  obtain ⟨q, hq, ev⟩ := guard_some S ev
  obtain ⟨q', vs, h1, n, n0, hl', qv⟩ := own_lst S hd
  rw [hq] at h1
  cases h1
  refine ⟨_, hq, ty_lst hl', ?_⟩
  refine oneS K m1 S ev P fun k d v H1 F1 e1 e2 g1 S1 r1 f1 => ?_
  split at e2
  · cases e2
  · rename_i hk
    obtain ⟨F2, g2, rv⟩ := share g1 r1 f1 hk
    have S2 := S.mono g2
    obtain ⟨ds', ys, k1, k2, rfl⟩ := onOwn_some e2
    obtain ⟨q', vs', h4, n', n0', hq', qv'⟩ := own_lst S2 k1
    rw [hq] at h4
    cases h4
    split at k2
    · rename_i hz
      cases k2
      refine ⟨q, vs', v, rfl, rfl, hq', sizeLt (by rw [qv'.length]; exact Nat.le_of_lt hz), ?_⟩
      exact P _ _ F2 (chg_own S2 k1 hq (qv'.append (.cons rv .nil))) g2.ff
    · cases k2
theorem sns_ext {i : Nat} {e : E} : SndS G fu (.ext i e) := by
  intro X es W sx K hr m F0 H0 F H st σ r Z S ev P
  obtain ⟨f, a, p, pos, rfl, hf, m1⟩ := mS_ext m
  obtain ⟨x, px, apos, rfl, hb, hl⟩ := recv_all hf
  have ok := mE_ok m1
  refine ss_of (ps_expr (pe_bm PySem.F.plainAttrs_list PySem.F.slot_list_extend PySem.F.type_list_extend mt_extend (pv_of hb) (arg1 ok) rfl (by rw [ok_star ok]; rfl) hl (ok_star ok) rfl) rfl) ?_
  rw [evS] at ev
  obtain ⟨ds, hd⟩ := guard_own ev
  obtain ⟨q, hq, ev⟩ := guard_some S ev
  obtain ⟨q', vs, h1, n, n0, hl', qv⟩ := own_lst S hd
  rw [hq] at h1
  cases h1
  refine ⟨_, hq, ty_lst hl', ?_⟩
  refine oneS K m1 S ev P fun k d v H1 F1 e1 e2 g1 S1 r1 f1 => ?_
  split at e2
  · cases e2
  · rename_i hk
    obtain ⟨F2, g2, rv⟩ := share g1 r1 f1 hk
    have S2 := S.mono g2
    split at e2
    · rename_i zs
      obtain ⟨ds', ys, k1, k2, rfl⟩ := onOwn_some e2
      obtain ⟨q', vs', h4, n', n0', hq', qv'⟩ := own_lst S2 k1
      rw [hq] at h4
      cases h4
      obtain ⟨b, ws, rfl, eb, qb⟩ := (show RV G.K F2 H1 .shr (.list zs) v from rv).lst g2.fh
      split at k2
      · rename_i hz
        cases k2
        refine ⟨q, b, vs', ws, rfl, rfl, hq', eb, sizeL (by rw [qv'.length, qb.length]; exact hz), ?_⟩
        exact P _ _ F2 (chg_own S2 k1 hq (qv'.append qb)) g2.ff
      · cases k2
    · cases e2
theorem arg2 {X : Cx} {e f : Expr} (h : okEx e = true) (h' : okEx f = true) : PA X [e, f] (tCons (SE X e) (tCons (SE X f) tNil)) := pa_cons pe_se (arg1 h') (ok_star h)
theorem sns_ins {i : Nat} {k e : E} : SndS G fu (.ins i k e) := by
  intro X es W sx K hr m F0 H0 F H st σ r Z S ev P
  obtain ⟨f, b, a, p, pos, rfl, hf, m0, m1⟩ := mS_ins m
  obtain ⟨x, px, apos, rfl, hb, hl⟩ := recv_all hf
  have ok0 := mE_ok m0
  have ok := mE_ok m1
  refine ss_of (ps_expr (pe_bm PySem.F.plainAttrs_list PySem.F.slot_list_insert PySem.F.type_list_insert mt_insert (pv_of hb) (arg2 ok0 ok) rfl (by rw [ok_star ok0, ok_star ok]; rfl) hl (ok_star ok0) (by rw [ok_star ok]; rfl)) rfl) ?_
  rw [evS] at ev
  obtain ⟨ds, hd⟩ := guard_own ev
  obtain ⟨q, hq, ev⟩ := guard_some S ev
  obtain ⟨q', vs, h1, n, n0, hl', qv⟩ := own_lst S hd
  rw [hq] at h1
  cases h1
  refine ⟨_, hq, ty_lst hl', ?_⟩
  refine oneS K m0 S ev P fun k0 j u H0' F0' e0 e1 g0 S0 r0 f0 => ?_
  refine oneS K m1 S0 e1 (P.sub g0.ff) fun k d v H1 F1 e1 e2 g1 S1 r1 f1 => ?_
  split at e2
  · cases e2
  · rename_i hk
    obtain ⟨F2, g2, rv⟩ := share g1 r1 f1 hk
    have S2 := S0.mono g2
    split at e2
    · rename_i jj
      split at e2
      · rename_i hj
        obtain ⟨ds', ys, k1, k2, rfl⟩ := onOwn_some e2
        obtain ⟨q', vs', h4, n', n0', hq', qv'⟩ := own_lst S2 k1
        rw [hq] at h4
        cases h4
        split at k2
        · rename_i hz
          cases k2
          refine ⟨q, vs', jj, v, rfl, by rw [r0.int], hq', sizeLt (by rw [qv'.length]; exact Nat.le_of_lt hz), hj.1, by omega, ?_⟩
          exact P _ _ F2 (chg_own S2 k1 hq (((qv'.take _).append (.cons rv .nil)).append (qv'.drop _))) (g0.ff.trans g2.ff)
        · cases k2
      · cases e2
    · cases e2
theorem sns_clr {i : Nat} : SndS G fu (.clr i) := by
  intro X es W sx K hr m F0 H0 F H st σ r Z S ev P
  obtain ⟨f, p, pos, rfl, hf⟩ := mS_clr m
  obtain ⟨x, px, apos, rfl, hb, hl⟩ := recv_all hf
  refine ss_of (ps_expr (pe_bm0 PySem.F.plainAttrs_list PySem.F.slot_list_clear PySem.F.type_list_clear mt_clear (pv_of hb) rfl hl) rfl) ?_
  rw [evS] at ev
  obtain ⟨ds, ys, k1, k2, rfl⟩ := onOwn_some ev
  cases k2
  obtain ⟨q, vs, h1, n, n0, hl', qv⟩ := own_lst S k1
  exact ⟨_, h1, ty_lst hl', q, vs, rfl, rfl, hl', P _ _ F (chg_own S k1 h1 .nil) (Sub.refl F)⟩
/-! ### returns, dropped values, raises -/
theorem sns_ret {e : E} : SndS G fu (.ret e) := by
  intro X es W sx K hr m F0 H0 F H st σ r Z S ev P
  obtain ⟨v, pos, rfl, m1⟩ := mS_ret m
  refine ss_of (ps_ret pe_se) ?_
  rw [evS] at ev
  by_cases hb : ∃ i d, e = .var i ∧ st[i]? = some (some (true, d))
  · obtain ⟨i, d, rfl, hd⟩ := hb
    obtain ⟨x, p, rfl, hx⟩ := mE_var m1
    obtain ⟨q, h1, n, n0, t⟩ := S.own i d hd
    simp only [evE, hd, onV, if_pos] at ev
    cases ev
    exact se_of (pv_of hx) ⟨_, h1, P _ H F S.gr ⟨q, rfl, n, t⟩ fun _ p z => by cases z; exact n0⟩
  · refine oneS K m1 S ev P fun k d w H1 F1 e1 e2 g1 S1 r1 f1 => ?_
    split at e2
    · rename_i hk
      subst hk
      split at e2
      · rename_i i
        rw [evE] at e1
        split at e1
        · rename_i d' q
          exact absurd ⟨i, d', rfl, q⟩ hb
        · cases e1
        · cases e1
      · cases e2
    · rename_i hk
      cases e2
      exact P w H1 F1 S1.gr r1 fun e p q => S.gr.hh.none (f1 e p q)
theorem sns_retN : SndS G fu .retN := by
  intro X es W sx K hr m F0 H0 F H st σ r Z S ev P
  obtain ⟨pos, rfl⟩ := mS_retN m
  rw [evS] at ev
  cases ev
  exact ss_of ps_retN (P _ H F S.gr (show Rp G.K _ _ _ from .non) fun e => nomatch e)
theorem sns_exp {e : E} : SndS G fu (.exp e) := by
  intro X es W sx K hr m F0 H0 F H st σ r Z S ev P
  obtain ⟨v, pos, rfl, m1, hc⟩ := mS_exp m
  refine ss_of (ps_expr pe_se (noComp_sw hc _ _ _)) ?_
  rw [evS] at ev
  refine oneS K m1 S ev P fun k d w H1 F1 e1 e2 g1 S1 r1 f1 => ?_
  cases e2
  exact P _ _ F1 S1 g1.ff
theorem sns_rai {c : Str} : SndS G fu (.rai c) := by
  intro X es W sx K hr m F0 H0 F H st σ r Z S ev P
  obtain ⟨f, t, k, p2, p, pos, rfl, hg⟩ := mS_rai m
  obtain ⟨p3, rfl, hgl, hpl⟩ := isG_name hg
  rw [evS] at ev
  cases ev
  exact ss_of (ps_raise K.calm K.tk (K.rs c (hr c (by simp [raises])) (glB_gl hgl) hpl t k p3 p2 p)) (P σ H S.gr.hh)
end
end Dv

/-! Dv, part Lh: the suite of an except clause. -/
namespace Dv
open PySem PySem.Spec PyProof.Rows L2

/-- isinstance(e, (c1, ..)), e the exception that the suite holds, the tuple laid for it -/
def rIsEs (K : PySem.W.Frag) (D a : Addr) : List V → Hp → VK → Prop := fun xs H Q => ∃ (tp : Addr) (cs : List V) (us : List Value) (b : Bool), xs = [.ref a, .ref tp] ∧ H tp = some (.tup cs) ∧ Paired ClsV cs us ∧ PySem.W.kitAny K (.ref D) us = some b ∧ Q (.bl b) H
theorem call_isEs {X : Cx} {a D : Addr} {oe : Obj} {pn : List (Addr × Obj)} (C : ExcC X.K D) (hz : Zc (.ref D) none oe) (hf : ∃ vs, oe.data = .fields vs) : CallR (X.suite a ((a, oe) :: pn)) (.builtin "isinstance") (rIsEs X.K D a) := by
  intro pins s σ H xs us Q I r h
  obtain ⟨tp, cs, ws, b, rfl, hT, k, e, q⟩ := h
  obtain ⟨u1, u2, rfl, r1, r2⟩ := vals2 r
  cases (show u1 = Value.ref a from r1)
  cases (show u2 = Value.ref tp from r2)
  have J : PySem.W.InstAt s.heap a oe D none := by
    have hg := (I.pin (a, oe) (List.mem_append.mpr (.inl List.mem_cons_self))).1
    obtain ⟨vs, hv⟩ := hf
    obtain ⟨oc, od, oda, osl⟩ := oe
    simp only [Zc] at hz
    dsimp only at hv
    obtain ⟨z1, z2⟩ := hz
    subst z1 z2 hv
    exact ⟨hg, rfl, rfl, trivial⟩
  obtain ⟨_, its, rv, o, h1, h2, n, h3⟩ := (show ObjOk X.prog X.w H s.heap tp (.tup cs) from I.hok tp _ hT)
  have e3 := ClsV.all k rv
  subst e3
  obtain ⟨o1, o2, o3, o4⟩ := o
  dsimp only at h2 h3
  subst h2 h3
  exact PySem.W.kia_tup (PySem.W.handS_kitx_exc C.hg C.hk C.hs C.hd C.ha C.hn C.ht C.hm) I.kIn J h1 e (fun z => nomatch z) fun tk => ⟨.bl b, H, I.kept (t' := tk) fun _ _ z => z, rfl, q⟩

/-- a value of the suite -/
def hvR (Hs H : Hp) : HV → V → Prop
  | .b x, v => v = .bl x
  | .l xs, v => ∃ p, v = .ref p ∧ H p = some (.lst (xs.map V.str)) ∧ Hs p = none
theorem hvR.sub {Hs H H' : Hp} {x : HV} {v : V} (r : hvR Hs H x v) (s : Sub H H') : hvR Hs H' x v := by
  cases x with
  | b x => exact r
  | l xs => obtain ⟨p, e, h, n⟩ := r; exact ⟨p, e, s _ _ h, n⟩
def hotσ (Hs H : Hp) (σ : L2.St) (env : List (Nat × HV)) : Prop := ∀ j x, env.lookup j = some x → ∃ v, σ[j]? = some (some v) ∧ hvR Hs H x v
theorem hotσ.sub {Hs H H' : Hp} {σ : L2.St} {env : List (Nat × HV)} (r : hotσ Hs H σ env) (s : Sub H H') : hotσ Hs H' σ env := fun j x e => by
  obtain ⟨v, h1, h2⟩ := r j x e
  exact ⟨v, h1, h2.sub s⟩
section
variable {G : GI} {W : WX} {es : List Str} {X : Cx} {a : Addr} {oe : Obj} {pn : List (Addr × Obj)} {c : Str} {i : Nat}
theorem isN_name {sc : Scope} {d : Str} {e : Expr} {C : Cc} (m : isN C sc d e = true) : ∃ p, e = .Name d p ∧ glB sc d = true ∧ plainName d = true ∧ d ∈ C.ht := by
  unfold isN at m
  split at m
  · simp only [Bool.and_eq_true, decide_eq_true_eq] at m
    obtain ⟨⟨⟨rfl, h1⟩, h2⟩, h3⟩ := m
    exact ⟨_, rfl, h1, h2, h3⟩
  · cases m
theorem pe_cls (K : CKS G es W X) (ho : HotOK X.K G.ea c G.ht) {d : Str} {e : Expr} (m : isN (cc G X) X.env.scope d e = true) : PE (X.suite a ((a, oe) :: pn)) e (tC (.ref (G.ea d))) := by
  obtain ⟨p, rfl, h1, h2, h3⟩ := isN_name m
  exact pe_glob (X := X.suite a ((a, oe) :: pn)) (glB_gl h1) (K.hg d h3) rfl (plain_all h2).1
theorem pa_cls (K : CKS G es W X) (ho : HotOK X.K G.ea c G.ht) : ∀ (ds : List Str) (fs : List Expr), isNs (cc G X) X.env.scope ds fs = true → PA (X.suite a ((a, oe) :: pn)) fs (fun σ H Q => Q (ds.map fun d => .ref (G.ea d)) H)
  | [], [], _ => pa_nil
  | d :: ds, f :: fs, h => by
    simp only [isNs, Bool.and_eq_true] at h
    obtain ⟨p, rfl, _⟩ := isN_name h.1
    have q := pa_cons (pe_cls (a := a) (oe := oe) (pn := pn) K ho h.1) (pa_cls K ho ds fs h.2) rfl
    exact ⟨fun pos pins s σ H Q I hq => q.run pos pins s σ H Q I hq⟩
  | [], _ :: _, h => by simp [isNs] at h
  | _ :: _, [], h => by simp [isNs] at h
theorem paired_cls : ∀ ds : List Str, Paired ClsV (ds.map fun d => V.ref (G.ea d)) (ds.map fun d => Value.ref (G.ea d))
  | [] => .nil
  | d :: ds => .cons (.own _) (paired_cls ds)
theorem kit_cls (ho : HotOK X.K G.ea c G.ht) : ∀ ds : List Str, (∀ d ∈ ds, d ∈ G.ht) → PySem.W.kitAny X.K (.ref (G.ea c)) (ds.map fun d => Value.ref (G.ea d)) = some (ds.any (isSub c))
  | [], _ => kitAny_nil
  | d :: ds, h => by
    rw [List.map_cons, List.any_cons]
    refine kitAny_cons (ho.one d (h d (by simp))) (fun z => ?_) fun z => ?_
    · rw [z, Bool.false_or]; exact kit_cls ho ds fun x hx => h x (by simp [hx])
    · rw [z, Bool.true_or]
theorem isNs_mem {C : Cc} {sc : Scope} : ∀ (ds : List Str) (fs : List Expr), isNs C sc ds fs = true → ∀ d ∈ ds, d ∈ C.ht
  | [], _, _, d, hd => by simp at hd
  | d :: ds, f :: fs, h, x, hx => by
    simp only [isNs, Bool.and_eq_true] at h
    rcases List.mem_cons.mp hx with rfl | hx
    · obtain ⟨_, _, _, _, z⟩ := isN_name h.1
      exact z
    · exact isNs_mem ds fs h.2 x hx
  | _ :: _, [], h, _, _ => by simp [isNs] at h
theorem snd_H (K : CKS G es W X) (ho : HotOK X.K G.ea c G.ht) (hz : Zc (.ref (G.ea c)) none oe) (hf : ∃ vs, oe.data = .fields vs) {Hs : Hp} : ∀ (h : HX) (ex : Expr), mH (cc G X) X.env.scope i h ex = true → ∀ (σ : L2.St) (H : Hp) (env : List (Nat × HV)) (x : HV) (Q : VK), σ[i]? = some (some (.ref a)) → hotσ Hs H σ env → Sub Hs H → evH c env h = some x →
    (∀ v H', Sub H H' → hvR Hs H' x v → Q v H') → SE (X.suite a ((a, oe) :: pn)) ex σ H Q := by
  intro h
  induction h with
  | isE d =>
    intro ex m σ H env x Q hi hσ hs ev P
    unfold mH at m
    split at m <;> first | contradiction | skip
    rename_i h
    cases h
    simp only [Bool.and_eq_true] at m
    obtain ⟨⟨hg, hx⟩, hk⟩ := m
    obtain ⟨p2, rfl, hgl, hpl⟩ := isG_name hg
    obtain ⟨h1, h2, h3⟩ := plain_all hpl
    have hk' := hk
    obtain ⟨p3, rfl, _, _, hd⟩ := isN_name hk
    rw [evH] at ev
    cases ev
    refine se_of (pe_callB (call_isE ho.ec hz hf) (glB_gl hgl) (K.bl _ (by decide +kernel)) (by decide +kernel) (pa_cons (pv_of hx) (pa_cons (pe_cls K ho hk') pa_nil rfl) rfl) h3 h1 rfl) ?_
    exact ⟨_, hi, _, _, _, rfl, fun u r => r, ho.one d hd, P _ _ (Sub.refl H) rfl⟩
  | isV =>
    intro ex m σ H env x Q hi hσ hs ev P
    unfold mH at m
    split at m <;> first | contradiction | skip
    rename_i h
    cases h
    simp only [Bool.and_eq_true] at m
    obtain ⟨⟨hg, hx⟩, hk⟩ := m
    obtain ⟨p2, rfl, hgl, hpl⟩ := isG_name hg
    obtain ⟨h1, h2, h3⟩ := plain_all hpl
    obtain ⟨p3, rfl, hkl, hkp⟩ := isG_name hk
    obtain ⟨h4, h5, h6⟩ := plain_all hkp
    rw [evH] at ev
    cases ev
    refine se_of (pe_callB (call_isE ho.ec hz hf) (glB_gl hgl) (K.bl _ (by decide +kernel)) (by decide +kernel) (pa_cons (pv_of hx) (pa_cons (pe_bltn (v := .ty "ValueError") (glB_gl hkl) (K.bl _ (by decide +kernel)) (by decide +kernel) rfl h6 h4) pa_nil rfl) rfl) h3 h1 rfl) ?_
    exact ⟨_, hi, _, _, _, rfl, fun u r => r, ho.v, P _ _ (Sub.refl H) rfl⟩
  | isEs ds =>
    intro ex m σ H env x Q hi hσ hs ev P
    unfold mH at m
    split at m <;> first | contradiction | skip
    rename_i h
    cases h
    simp only [Bool.and_eq_true, decide_eq_true_eq] at m
    obtain ⟨⟨⟨hg, hx⟩, hk⟩, hl⟩ := m
    obtain ⟨p2, rfl, hgl, hpl⟩ := isG_name hg
    obtain ⟨h1, h2, h3⟩ := plain_all hpl
    rw [evH] at ev
    cases ev
    refine se_of (pe_callB (call_isEs ho.ec hz hf) (glB_gl hgl) (K.bl _ (by decide +kernel)) (by decide +kernel) (pa_cons (pv_of hx) (pa_cons (pe_tup (pa_cls K ho ds _ hk)) pa_nil rfl) rfl) h3 h1 rfl) ?_
    refine ⟨_, hi, sizeL (by rw [List.length_map]; exact Nat.le_trans hl (by decide)), fun p n => ⟨p, _, _, _, rfl, upd_same, paired_cls ds, kit_cls ho ds (isNs_mem ds _ hk), P _ _ (fun a o e => ?_) rfl⟩⟩
    rw [upd_ne (ne_of_none e n)]; exact e
  | var j =>
    intro ex m σ H env x Q hi hσ hs ev P
    unfold mH at m
    split at m <;> first | contradiction | skip
    rename_i h
    cases h
    rw [evH] at ev
    obtain ⟨v, h1, h2⟩ := hσ _ _ ev
    exact se_of (pv_of m) ⟨v, h1, P v H (Sub.refl H) h2⟩
  | not b ih =>
    intro ex m σ H env x Q hi hσ hs ev P
    unfold mH at m
    split at m <;> first | contradiction | skip
    rename_i h
    cases h
    rw [evH] at ev
    split at ev
    · rename_i y e1
      cases ev
      exact se_of (pe_not pe_se) (ih _ m σ H env _ _ hi hσ hs e1 fun v H' s r => ⟨y, r, P _ _ s rfl⟩)
    · cases ev
  | and3 b1 b2 b3 ih1 ih2 ih3 =>
    intro ex m σ H env x Q hi hσ hs ev P
    unfold mH at m
    split at m <;> first | contradiction | skip
    rename_i h
    cases h
    simp only [Bool.and_eq_true] at m
    obtain ⟨⟨m1, m2⟩, m3⟩ := m
    rw [evH] at ev
    split at ev
    · rename_i p q r e1 e2 e3
      cases ev
      refine se_of (pe_and pe_se pe_se) (ih1 _ m1 σ H env _ _ hi hσ hs e1 fun v H1 s1 r1 => ⟨p, r1, ?_⟩)
      cases p with
      | false => exact P _ _ s1 rfl
      | true =>
        refine se_of (pe_and pe_se (pe_one pe_se)) (ih2 _ m2 σ H1 env _ _ hi (hσ.sub s1) (hs.trans s1) e2 fun v H2 s2 r2 => ⟨q, r2, ?_⟩)
        cases q with
        | false => exact P _ _ (s1.trans s2) rfl
        | true => exact ih3 _ m3 σ H2 env _ _ hi (hσ.sub (s1.trans s2)) (hs.trans (s1.trans s2)) e3 fun v H3 s3 r3 => P _ _ (s1.trans (s2.trans s3)) r3
    · cases ev
  | rep t b ih =>
    intro ex m σ H env x Q hi hσ hs ev P
    unfold mH at m
    split at m <;> first | contradiction | skip
    rename_i h
    cases h
    simp only [Bool.and_eq_true, decide_eq_true_eq] at m
    obtain ⟨⟨rfl, hg⟩, m1⟩ := m
    obtain ⟨p2, rfl, hgl, hpl⟩ := isG_name hg
    obtain ⟨h1, h2, h3⟩ := plain_all hpl
    rw [evH] at ev
    split at ev
    · rename_i y e1
      cases ev
      have star : ∀ e : Expr, mH (cc G X) X.env.scope i b e = true → starEach [e] X.env = (false, eval e X.env) :: starEach [] X.env := fun e m => by
        cases e <;> first | rfl | (unfold mH at m; split at m <;> contradiction)
      refine se_of (pe_op op_rep (pe_lst (pa_cons pe_str pa_nil rfl)) (pe_callTy call_int1 (glB_gl hgl) (K.bl _ (by decide +kernel)) (by decide +kernel) (pa_cons pe_se pa_nil (star _ m1)) h3 h1 (star _ m1))) ?_
      refine ⟨sizeL (by show 1 ≤ lim; decide), fun p n => ?_⟩
      have s0 : Sub H (upd H p (.lst [.str t])) := fun a o e => by rw [upd_ne (ne_of_none e n)]; exact e
      refine ih _ m1 σ _ env _ _ hi (hσ.sub s0) (hs.trans s0) e1 fun v H1 s1 r1 => .inr ⟨y, by rw [r1], ?_⟩
      refine ⟨p, _, _, rfl, rfl, s1 _ _ upd_same, ?_, ?_, ?_, fun p' n' => ?_⟩
      · cases y <;> decide
      · cases y <;> decide
      · cases y <;> exact sizeL (Nat.le_trans (Nat.mul_le_mul_left 1 (by decide : _ ≤ 1)) (by decide))
      · have s2 : ∀ o, Sub H1 (upd H1 p' o) := fun o a u e => by rw [upd_ne (ne_of_none e n')]; exact e
        refine P _ _ (s0.trans (s1.trans (s2 _))) ⟨p', rfl, ?_, (hs.trans (s0.trans s1)).none n'⟩
        rw [upd_same]
        cases y <;> rfl
    · cases ev
  | add b1 b2 ih1 ih2 =>
    intro ex m σ H env x Q hi hσ hs ev P
    unfold mH at m
    split at m <;> first | contradiction | skip
    rename_i h
    cases h
    simp only [Bool.and_eq_true] at m
    obtain ⟨m1, m2⟩ := m
    rw [evH] at ev
    split at ev
    · rename_i xs ys e1 e2
      split at ev
      · rename_i hl
        cases ev
        refine se_of (pe_op op_cat pe_se pe_se) (ih1 _ m1 σ H env _ _ hi hσ hs e1 fun v H1 s1 r1 => ih2 _ m2 σ H1 env _ _ hi (hσ.sub s1) (hs.trans s1) e2 fun u H2 s2 r2 => ?_)
        obtain ⟨p, rfl, hp, _⟩ := r1
        obtain ⟨q, rfl, hq, _⟩ := r2
        refine ⟨p, q, _, _, rfl, rfl, s2 _ _ hp, hq, sizeL (by rw [List.length_map, List.length_map]; exact Nat.le_trans hl (by decide)), fun p' n' => ?_⟩
        have s3 : ∀ o, Sub H2 (upd H2 p' o) := fun o a u e => by rw [upd_ne (ne_of_none e n')]; exact e
        exact P _ _ (s1.trans (s2.trans (s3 _))) ⟨p', rfl, by rw [upd_same, List.map_append], (hs.trans (s1.trans s2)).none n'⟩
      · cases ev
    · cases ev
theorem snd_Hs (K : CKS G es W X) (ho : HotOK X.K G.ea c G.ht) (hz : Zc (.ref (G.ea c)) none oe) (hf : ∃ vs, oe.data = .fields vs) {Hs : Hp} : ∀ (hs : List (Nat × HX)) (r : HX) (sx : List Stmt), mHs (cc G X) X.env.scope i hs r sx = true → ∀ (σ : L2.St) (H : Hp) (env : List (Nat × HV)) (x : HV) (Z : Ends), σ.length = X.N.length → σ[i]? = some (some (.ref a)) → hotσ Hs H σ env → Sub Hs H →
    evHs c env hs r = some x → (∀ v H', Sub H H' → hvR Hs H' x v → Z.rt v H') → SSs (X.suite a ((a, oe) :: pn)) sx Z σ H := by
  intro hs
  induction hs with
  | nil =>
    intro r sx m σ H env x Z hl hi hσ hs ev P
    unfold mHs at m
    split at m <;> first | contradiction | skip
    · rename_i h1 h2
      rw [evHs] at ev
      exact sss_of (pss_one (ps_ret pe_se)) (snd_H K ho hz hf _ _ m σ H env x _ hi hσ hs ev P)
  | cons q hs ih =>
    intro r sx m σ H env x Z hl hi hσ hs' ev P
    unfold mHs at m
    split at m <;> first | contradiction | skip
    · rename_i r0 _ _ _ j h hs1 y py v pos ss hh
      cases hh
      simp only [Bool.and_eq_true, decide_eq_true_eq] at m
      obtain ⟨⟨⟨⟨hw, hne⟩, hc⟩, m1⟩, m2⟩ := m
      obtain ⟨hN, hlo⟩ := wrB_all hw
      have hj : j < σ.length := by rw [hl]; exact (List.getElem?_eq_some_iff.mp hN).1
      rw [evHs] at ev
      split at ev
      · rename_i w e1
        refine sss_of (pss_cons (ps_set K.nd hN hlo pe_se (noComp_sw hc _ _ _) (.inl (K.fnT y))) pss_sss) ?_
        refine snd_H K ho hz hf _ _ m1 σ H env w _ hi hσ hs' e1 fun u H1 s1 r1 => ?_
        refine ih r0 ss m2 (σ.set j (some u)) H1 _ x Z (by rw [List.length_set]; exact hl) ?_ ?_ (hs'.trans s1) ev fun v H2 s2 r2 => P v H2 (s1.trans s2) r2
        · rw [List.getElem?_set_ne hne]; exact hi
        · intro k z e
          by_cases hk : k = j
          · subst hk
            have : w = z := by simpa [List.lookup] using e
            subst this
            exact ⟨u, List.getElem?_set_self hj, r1⟩
          · rw [List.lookup, show (k == j) = false by simpa using hk] at e
            obtain ⟨v2, q1, q2⟩ := hσ k z e
            exact ⟨v2, by rw [List.getElem?_set_ne (Ne.symm hk)]; exact q1, q2.sub s1⟩
      · cases ev
theorem mS_try {C : Cc} {sc : Scope} {sx : Stmt} {e : E} {cs : List Str} {hs : List (Nat × HX)} {r : HX} (m : mS C sc (.tryC i e cs hs r) sx = true) : ∃ v pe py n suite pos' pos, sx = .Try [.Expr v pe] [.ExceptHandler (some (.Name "SwapError" py)) (some n) suite pos'] [] [] pos ∧
    mE C sc e v = true ∧ noComp v = true ∧ glB sc "SwapError" = true ∧ ("SwapError" : Str) ∈ C.ht ∧ C.N[i]? = some n ∧ sc.names.lookup n = some .local ∧ (∀ d ∈ cs, d ∈ C.hc) ∧ mHs C sc i hs r suite = true := by
  unfold mS at m
  split at m <;> first | contradiction | skip
  rename_i h
  cases h
  simp only [Bool.and_eq_true, decide_eq_true_eq, List.all_eq_true] at m
  obtain ⟨⟨⟨⟨⟨⟨⟨⟨m1, m2⟩, rfl⟩, m4⟩, m5⟩, m6⟩, m7⟩, m8⟩, m9⟩ := m
  exact ⟨_, _, _, _, _, _, _, rfl, m1, m2, m4, m5, m6, m7, m8, m9⟩
theorem mHs_cons {C : Cc} {sc : Scope} : ∀ {hs : List (Nat × HX)} {r : HX} {sx : List Stmt}, mHs C sc i hs r sx = true → ∃ b ss, sx = b :: ss
  | [], r, [], m => by simp [mHs] at m
  | _ :: _, r, [], m => by simp [mHs] at m
  | _, r, b :: ss, m => ⟨b, ss, rfl⟩
theorem sns_try {fu : Nat} {e : E} {cs : List Str} {hs : List (Nat × HX)} {r : HX} : SndS G fu (.tryC i e cs hs r) := by
  intro X es W sx K hr m F0 H0 F H st σ o Z S ev P
  obtain ⟨v, pe, py, n, suite, pos', pos, rfl, m1, hc, hg, ht, hN, hlo, hcs, m2⟩ := mS_try m
  obtain ⟨b0, ss, rfl⟩ := mHs_cons m2
  intro pins s I
  have hlen : σ.length = X.N.length := I.len
  rw [evS] at ev
  have hot : ∀ c ∈ cs, HotOK X.K G.ea c G.ht := fun c h => K.hot c (hcs c h)
  refine (ss_of (ps_try_as K.stk K.frm K.nd hN hlo (c := .ref (G.ea "SwapError")) ⟨glB_gl hg, by decide +kernel, .inl (K.hg _ ht)⟩ K.tk (tb := fun W' D σ H => ∀ pn xe, Takes (X.tr pn xe) W' → PassesOwn (model X.prog X.w) X.A X.env xe → SSs (X.tr pn xe) [.Expr v pe] D σ H)
    (ts := fun a cls d D σ H => ∀ oe pn, Zc cls d oe → (∃ vs, oe.data = .fields vs) → SSs (X.suite a ((a, oe) :: pn)) (b0 :: ss) D σ H) (fun W' pn xe tk po => ⟨fun pins s σ H D I h => h pn xe tk po pins s I⟩) (fun a oe cls d pn hz hf => ⟨fun pins s σ H D I h => h oe pn hz hf pins s I⟩)) ?_) pins s I
  intro pn xe tk po
  refine sss_of (pss_one (ps_expr pe_se (noComp_sw hc _ _ _))) ?_
  have K' : CK G (wAs X.K (.ref (G.ea "SwapError")) i (fun a cls d D σ H => ∀ oe pn, Zc cls d oe → (∃ vs, oe.data = .fields vs) → SSs (X.suite a ((a, oe) :: pn)) (b0 :: ss) D σ H) W Z) (X.tr pn xe) := ⟨K.kk, K.nd, K.calm, K.room, K.bl, K.fn, K.gl, tk⟩
  cases e1 : evE G.Φ e st with
  | none => rw [e1] at ev; cases ev
  | some q =>
    rw [e1] at ev
    cases q with
    | ok k d =>
      cases ev
      exact (sndE e).1 (X.tr pn xe) _ v K' m1 F0 H0 F H st σ _ _ S e1 fun y H1 F1 g r1 f1 => P σ H1 F1 (S.mono g) g.ff
    | ex c =>
      simp only at ev
      split at ev
      · rename_i hcm
        have ho := hot c hcm
        cases e2 : evHs c [] hs r with
        | none => rw [e2] at ev; cases ev
        | some x =>
          rw [e2] at ev
          cases ev
          refine (sndE e).1 (X.tr pn xe) _ v K' m1 F0 H0 F H st σ _ _ S e1 ?_
          intro H1 s1
          refine ⟨true, ho.ex, fun _ a na => ?_, fun z => nomatch z⟩
          intro oe pn' hz hf
          have hi : i < σ.length := by rw [hlen]; exact (List.getElem?_eq_some_iff.mp hN).1
          refine snd_Hs K ho hz hf hs r _ m2 _ H1 [] x _ (by rw [List.length_set]; exact hlen) (List.getElem?_set_self hi) (fun j z h => by simp at h) (Sub.refl H1) e2 ?_
          intro w H2 s2 r2
          have g : Gr F H F H2 := ⟨Sub.refl F, (S.fh.trans s1).trans s2, s1.trans s2, fun _ _ e => .inl e⟩
          cases x with
          | b y => exact P w H2 F (S.gr.trans g) (by rw [show w = .bl y from r2]; exact .bl y) fun z => nomatch z
          | l xs =>
            obtain ⟨p, rfl, hp, hn⟩ := r2
            refine P _ H2 F (S.gr.trans g) ⟨p, rfl, (S.fh.trans s1).none hn, xs.map V.str, hp, ?_⟩ fun _ q z => ?_
            · clear hp e2 P
              induction xs with
              | nil => exact .nil
              | cons y ys ih => exact .cons (.str y) ih
            · cases z
              exact (S.gr.hh.trans s1).none hn
      · cases ev
end
end Dv

/-! Dv, part M: ifs, loops, blocks; every statement. -/
namespace Dv
open PySem PySem.Spec PyProof.Rows L2

section
variable {G : GI} {fu : Nat} {es : List Str} {W : WX} {X : Cx} {F0 H0 F H F1 H1 : Hp} {st : Ev} {σ : L2.St} {r : SO} {Z : Ends}
theorem mem_l {a b : List Str} {es : List Str} (h : ∀ c ∈ a ++ b, c ∈ es) : (∀ c ∈ a, c ∈ es) ∧ ∀ c ∈ b, c ∈ es :=
  ⟨fun c m => h c (List.mem_append_left _ m), fun c m => h c (List.mem_append_right _ m)⟩
theorem sns_ite {d : E} {a b : List S} (ha : SndSs G fu a) (hb : SndSs G fu b) : SndS G fu (.ite d a b) := by
  intro X es W sx K hr m F0 H0 F H st σ r Z S ev P
  obtain ⟨t, x, y, pos, rfl, m1, m2, m3⟩ := mS_ite m
  rw [raises] at hr
  obtain ⟨hr1, hr2⟩ := mem_l hr
  refine ss_of (ps_if pt_st pss_sss pss_sss) ?_
  rw [evS] at ev
  rcases onB_some ev with ⟨b, e1, e2⟩ | ⟨c, e1, rfl⟩
  · refine (sndE d).2 X W t K.toCK m1 F0 H0 F H st σ _ _ S e1 fun H1 F1 g1 => ?_
    cases b with
    | true =>
      rw [if_pos rfl] at e2 ⊢
      exact ha X es W x K hr1 m2 F0 H0 F1 H1 st σ r Z (S.mono g1) e2 (P.sub g1.ff)
    | false =>
      rw [if_neg Bool.false_ne_true] at e2 ⊢
      exact hb X es W y K hr2 m3 F0 H0 F1 H1 st σ r Z (S.mono g1) e2 (P.sub g1.ff)
  · exact (sndE d).2 X W t K.toCK m1 F0 H0 F H st σ _ _ S e1 fun H' s => P σ H' (S.gr.hh.trans s)

/-! ### loops -/
/-- ahead of a turn -/
def FI (G : GI) (F0 H0 F1 : Hp) (f : D → Ev → Option SO) (r : SO) (rest : List D) (σ : L2.St) (H : Hp) : Prop :=
  ∃ st F, StOK G.K F0 H0 F H st σ ∧ Sub F1 F ∧ forGo f rest st = some r
/-- one turn of a loop over data: the body's own end, by what is left -/
theorem turn_post {f : D → Ev → Option SO} {d : D} {rest : List D} {N : L2.St → Hp → Prop} (P : PostS G W F0 H0 F1 r Z) (s : Sub F1 F) (e : forGo f (d :: rest) st = some r)
    (hN : ∀ σ H, FI G F0 H0 F1 f r rest σ H → N σ H) : ∃ q, f d st = some q ∧ PostS G W F0 H0 F q { Z with nx := N, ct := N, bk := Z.nx } := by
  rw [forGo] at e
  unfold thenS at e
  split at e
  · rename_i st' h
    exact ⟨_, h, fun σ' H' F' S' z => hN σ' H' ⟨st', F', S', s.trans z, e⟩⟩
  · rename_i h
    cases q : f d st with
    | none => rw [q] at e; cases e
    | some q' =>
      rw [q] at e
      cases e
      refine ⟨_, rfl, ?_⟩
      cases r with
      | nx st' => exact absurd q (h st')
      | rt k d => exact P
      | ex c => exact P
theorem sns_for {i : Nat} {src : E} {b : List S} (hb : SndSs G fu b) : SndS G fu (.for i src b) := by
  intro X es W sx K hr m F0 H0 F H st σ r Z S ev P
  obtain ⟨x, px, it, body, pos, rfl, hw, m1, m2⟩ := mS_for m
  obtain ⟨hN, hl⟩ := wrB_all hw
  rw [raises] at hr
  rw [evS] at ev
  have go : ∀ {vs : List V} {ds : List D} {F1 H1 F2 : Hp}, Gr F H F2 H1 → Rps G.K F2 vs ds → forGo (fun d st => evSs G.Φ fu b (st.set i (some (false, d)))) ds st = some r →
      (FI G F0 H0 F2 (fun d st => evSs G.Φ fu b (st.set i (some (false, d)))) r (ds.drop 0) σ H1) ∧
      (∀ (j : Nat) (v : V) (σ' : L2.St) (H' : Hp), vs[j]? = some v → FI G F0 H0 F2 (fun d st => evSs G.Φ fu b (st.set i (some (false, d)))) r (ds.drop j) σ' H' →
        gName i v σ' H' fun σ2 H2 => SSs X body { Z with nx := FI G F0 H0 F2 (fun d st => evSs G.Φ fu b (st.set i (some (false, d)))) r (ds.drop (j + 1)), ct := FI G F0 H0 F2 (fun d st => evSs G.Φ fu b (st.set i (some (false, d)))) r (ds.drop (j + 1)), bk := Z.nx } σ2 H2) ∧
      (∀ (σ' : L2.St) (H' : Hp), FI G F0 H0 F2 (fun d st => evSs G.Φ fu b (st.set i (some (false, d)))) r (ds.drop vs.length) σ' H' → Z.nx σ' H') := fun {vs ds F1 H1 F2} g q e => by
    refine ⟨⟨st, F2, S.mono g, Sub.refl _, e⟩, fun j v σ' H' hv I => ?_, fun σ' H' I => ?_⟩
    · obtain ⟨d, hd, rd⟩ := q.getV hv
      rw [drop_cons hd] at I
      obtain ⟨st', F', S', s', e'⟩ := I
      obtain ⟨o, e2, P2⟩ := turn_post (P.sub g.ff) s' e' fun _ _ h => h
      exact hb X es W body K hr m2 F0 H0 F' H' _ _ o _ (S'.setS i (rd.to s')) e2 P2
    · rw [q.length, List.drop_length] at I
      obtain ⟨st', F', S', s', e'⟩ := I
      rw [forGo] at e'
      cases e'
      exact P σ' H' F' S' (g.ff.trans s')
  have exc : ∀ (c : Str), evE G.Φ src st = some (.ex c) → r = .ex c → SS X (.For (.Name x px) it body [] pos) Z σ H := fun c e1 er => by
    subst er
    refine ss_of (ps_for K.po K.calm (pi_list pe_se) (pg_name K.nd hN hl (.inl (K.fnT x))) pss_sss (ok_set (mE_ok m1))) ?_
    exact (sndE src).1 X W it K.toCK m1 F0 H0 F H st σ _ _ S e1 (ex_ok P S)
  rcases onV_some ev with ⟨k, d, e1, e2⟩ | ⟨c, e1, er⟩
  · split at e2
    · cases e2
    · rename_i hk
      cases e3 : itemsD d with
      | none => rw [e3] at e2; cases e2
      | some ds =>
        rw [e3] at e2
        simp only at e2
        cases d with
        | list xs =>
          cases e3
          refine ss_of (ps_for K.po K.calm (pi_list pe_se) (pg_name K.nd hN hl (.inl (K.fnT x))) pss_sss (ok_set (mE_ok m1))) ?_
          refine (sndE src).1 X W it K.toCK m1 F0 H0 F H st σ _ _ S e1 fun v H1 F1 g1 r1 f1 => ?_
          obtain ⟨F2, g2, rv⟩ := share g1 r1 f1 hk
          cases rv with
          | lst ea qa =>
            rename_i a vs
            obtain ⟨i1, i2, i3⟩ := go (F1 := F1) g2 qa e2
            refine ⟨a, rfl, ⟨vs, .inl (.inl (g2.fh _ _ ea))⟩, ?_⟩
            exact for_list (xs := vs) (fun j => FI G F0 H0 F2 _ r (ds.drop j)) i1 (fun j σ' H' _ I => by
              obtain ⟨st', F', S', s', _⟩ := I
              exact .inl (.inl ((s'.trans S'.fh) _ _ ea))) i2 i3
        | tuple xs =>
          cases e3
          refine ss_of (ps_for K.po K.calm (pi_tup pe_se) (pg_name K.nd hN hl (.inl (K.fnT x))) pss_sss (ok_set (mE_ok m1))) ?_
          refine (sndE src).1 X W it K.toCK m1 F0 H0 F H st σ _ _ S e1 fun v H1 F1 g1 r1 f1 => ?_
          obtain ⟨F2, g2, rv⟩ := share g1 r1 f1 hk
          cases rv with
          | tup ea qa =>
            rename_i a vs
            obtain ⟨i1, i2, i3⟩ := go (F1 := F1) g2 qa e2
            refine ⟨a, rfl, ⟨vs, SqT.of (g2.fh _ _ ea)⟩, ?_⟩
            exact for_tup (xs := vs) (fun j => FI G F0 H0 F2 _ r (ds.drop j)) i1 (fun j σ' H' _ I => by
              obtain ⟨st', F', S', s', _⟩ := I
              exact SqT.of ((s'.trans S'.fh) _ _ ea)) i2 i3
        | _ => cases e3
  · exact exc c e1 er
theorem sns_forT {is : List Nat} {src : E} {b : List S} (hb : SndSs G fu b) : SndS G fu (.forT is src b) := by
  intro X es W sx K hr m F0 H0 F H st σ r Z S ev P
  obtain ⟨ts, kk, p, it, body, pos, rfl, hn, m1, m2⟩ := mS_forT m
  rw [raises] at hr
  rw [evS] at ev
  generalize hf : (fun (d : D) (st : Ev) => match d with
      | .tuple xs => match setAll is xs st with
        | some st => evSs G.Φ fu b st
        | none => none
      | _ => none) = f at ev
  have go : ∀ {vs : List V} {ds : List D} {F1 H1 F2 : Hp}, Gr F H F2 H1 → Rps G.K F2 vs ds → forGo f ds st = some r →
      (FI G F0 H0 F2 f r (ds.drop 0) σ H1) ∧
      (∀ (j : Nat) (v : V) (σ' : L2.St) (H' : Hp), vs[j]? = some v → FI G F0 H0 F2 f r (ds.drop j) σ' H' →
        gTup X.K is.length (gNames is) v σ' H' fun σ2 H2 => SSs X body { Z with nx := FI G F0 H0 F2 f r (ds.drop (j + 1)), ct := FI G F0 H0 F2 f r (ds.drop (j + 1)), bk := Z.nx } σ2 H2) ∧
      (∀ (σ' : L2.St) (H' : Hp), FI G F0 H0 F2 f r (ds.drop vs.length) σ' H' → Z.nx σ' H') := fun {vs ds F1 H1 F2} g q e => by
    refine ⟨⟨st, F2, S.mono g, Sub.refl _, e⟩, fun j v σ' H' hv I => ?_, fun σ' H' I => ?_⟩
    · obtain ⟨d, hd, rd⟩ := q.getV hv
      rw [drop_cons hd] at I
      obtain ⟨st', F', S', s', e'⟩ := I
      obtain ⟨o, e2, P2⟩ := turn_post (P.sub g.ff) s' e' fun _ _ h => h
      rw [← hf] at e2
      simp only at e2
      split at e2
      · rename_i xs
        split at e2
        · rename_i st2 e4
          cases rd with
          | tup ea qa =>
            rename_i a ws
            refine ⟨a, ws, rfl, SqT.of (S'.fh _ _ (s' _ _ ea)), by rw [qa.length, setAll_length e4], ?_⟩
            exact names_read is xs ws st' st2 σ' e4 (qa.to s') S' fun σ2 S2 => hb X es W body K hr m2 F0 H0 F' H' _ _ o _ S2 e2 P2
        · cases e2
      · cases e2
    · rw [q.length, List.drop_length] at I
      obtain ⟨st', F', S', s', e'⟩ := I
      rw [forGo] at e'
      cases e'
      exact P σ' H' F' S' (g.ff.trans s')
  have exc : ∀ (c : Str), evE G.Φ src st = some (.ex c) → r = .ex c → SS X (.For (.Tuple ts kk p) it body [] pos) Z σ H := fun c e1 er => by
    subst er
    refine ss_of (ps_for K.po K.calm (pi_list pe_se) (pg_names K hn) pss_sss (ok_set (mE_ok m1))) ?_
    exact (sndE src).1 X W it K.toCK m1 F0 H0 F H st σ _ _ S e1 (ex_ok P S)
  rcases onV_some ev with ⟨k, d, e1, e2⟩ | ⟨c, e1, er⟩
  · split at e2
    · cases e2
    · rename_i hk
      cases e3 : itemsD d with
      | none => rw [e3] at e2; cases e2
      | some ds =>
        rw [e3] at e2
        simp only at e2
        cases d with
        | list xs =>
          cases e3
          refine ss_of (ps_for K.po K.calm (pi_list pe_se) (pg_names K hn) pss_sss (ok_set (mE_ok m1))) ?_
          refine (sndE src).1 X W it K.toCK m1 F0 H0 F H st σ _ _ S e1 fun v H1 F1 g1 r1 f1 => ?_
          obtain ⟨F2, g2, rv⟩ := share g1 r1 f1 hk
          cases rv with
          | lst ea qa =>
            rename_i a vs
            obtain ⟨i1, i2, i3⟩ := go (F1 := F1) g2 qa e2
            refine ⟨a, rfl, ⟨vs, .inl (.inl (g2.fh _ _ ea))⟩, ?_⟩
            exact for_list (xs := vs) (fun j => FI G F0 H0 F2 f r (ds.drop j)) i1 (fun j σ' H' _ I => by
              obtain ⟨st', F', S', s', _⟩ := I
              exact .inl (.inl ((s'.trans S'.fh) _ _ ea))) i2 i3
        | tuple xs =>
          cases e3
          refine ss_of (ps_for K.po K.calm (pi_tup pe_se) (pg_names K hn) pss_sss (ok_set (mE_ok m1))) ?_
          refine (sndE src).1 X W it K.toCK m1 F0 H0 F H st σ _ _ S e1 fun v H1 F1 g1 r1 f1 => ?_
          obtain ⟨F2, g2, rv⟩ := share g1 r1 f1 hk
          cases rv with
          | tup ea qa =>
            rename_i a vs
            obtain ⟨i1, i2, i3⟩ := go (F1 := F1) g2 qa e2
            refine ⟨a, rfl, ⟨vs, SqT.of (g2.fh _ _ ea)⟩, ?_⟩
            exact for_tup (xs := vs) (fun j => FI G F0 H0 F2 f r (ds.drop j)) i1 (fun j σ' H' _ I => by
              obtain ⟨st', F', S', s', _⟩ := I
              exact SqT.of ((s'.trans S'.fh) _ _ ea)) i2 i3
        | _ => cases e3
  · exact exc c e1 er
theorem sns_forR {i : Nat} {n : E} {b : List S} (hb : SndSs G fu b) : SndS G fu (.forR i n b) := by
  intro X es W sx K hr m F0 H0 F H st σ r Z S ev P
  obtain ⟨x, px, g0, it, p, body, pos, rfl, hw, hg, m1, m2⟩ := mS_forR m
  obtain ⟨hN, hl⟩ := wrB_all hw
  obtain ⟨p3, rfl, hgl, hpl⟩ := isG_name hg
  rw [raises] at hr
  rw [evS] at ev
  refine ss_of (ps_for K.po K.calm (pi_range1 (glB_gl hgl) (K.bl _ (by decide +kernel)) (arg1 (mE_ok m1)) (ok_star (mE_ok m1))) (pg_name K.nd hN hl (.inl (K.fnT x))) pss_sss (fun _ => rfl)) ?_
  refine oneS (R := fun v H1 => ∃ j : Int, [v] = [V.int j] ∧ -(2 ^ 62) ≤ j ∧ j < 2 ^ 62 ∧ _) K m1 S ev P fun k d v H1 F1 e1 e2 g1 S1 r1 f1 => ?_
  split at e2
  · rename_i nn
    split at e2
    · rename_i hnn
      refine ⟨nn, by rw [r1.int], by omega, by omega, ?_⟩
      generalize hf : (fun (d : D) (st : Ev) => evSs G.Φ fu b (st.set i (some (false, d)))) = f at e2
      refine for_range (lo := 0) (n := nn.toNat) (fun j => FI G F0 H0 F1 f r ((rngD nn.toNat).drop j)) ⟨st, F1, S1, Sub.refl _, e2⟩ (fun j σ' H' hj I => ?_) fun σ' H' I => ?_
      · have hd : (rngD nn.toNat)[j]? = some (.int (j : Int)) := by
          unfold rngD
          rw [List.getElem?_map, List.getElem?_range hj]
          rfl
        rw [drop_cons hd] at I
        obtain ⟨st', F', S', s', e'⟩ := I
        obtain ⟨o, e3, P2⟩ := turn_post (P.sub g1.ff) s' e' fun _ _ h => h
        rw [← hf] at e3
        have rj : Rp G.K F' (.int (0 + (j : Int))) (.int (j : Int)) := by rw [Int.zero_add]; exact .int _
        exact hb X es W body K hr m2 F0 H0 F' H' _ _ o _ (S'.setS i rj) e3 P2
      · have hlen : (rngD nn.toNat).length = nn.toNat := by unfold rngD; rw [List.length_map, List.length_range]
        rw [List.drop_of_length_le (Nat.le_of_eq hlen)] at I
        obtain ⟨st', F', S', s', e'⟩ := I
        rw [forGo] at e'
        cases e'
        exact P σ' H' F' S' (g1.ff.trans s')
    · cases e2
  · cases e2
theorem sns_whl {d : E} {b : List S} (hb : SndSs G fu b) : SndS G fu (.whl d b) := by
  intro X es W sx K hr m F0 H0 F H st σ r Z S ev P
  obtain ⟨t, body, pos, rfl, m1, m2⟩ := mS_whl m
  rw [raises] at hr
  rw [evS] at ev
  refine ss_of (ps_while K.po pt_st pss_sss) ?_
  refine ⟨fun n σ' H' => ∃ st' F', StOK G.K F0 H0 F' H' st' σ' ∧ Sub F F' ∧ whlGo (evE G.Φ d) (evSs G.Φ fu b) n st' = some r, ⟨fu, st, F, S, Sub.refl F, ev⟩, ?_⟩
  rintro n σ' H' ⟨st', F', S', s', e⟩
  cases n with
  | zero => rw [whlGo] at e; cases e
  | succ n =>
    rw [whlGo] at e
    rcases onB_some e with ⟨b', e1, e2⟩ | ⟨c, e1, rfl⟩
    · refine (sndE d).2 X W t K.toCK m1 F0 H0 F' H' st' σ' _ _ S' e1 fun H1 F1 g1 => ?_
      cases b' with
      | true =>
        rw [if_pos rfl] at e2 ⊢
        refine ⟨fun σ2 H2 => ∃ st2 F2, StOK G.K F0 H0 F2 H2 st2 σ2 ∧ Sub F F2 ∧ whlGo (evE G.Φ d) (evSs G.Φ fu b) n st2 = some r, fun σ2 H2 h => ⟨n, Nat.lt_succ_self n, h⟩, ?_⟩
        unfold thenS at e2
        split at e2
        · rename_i st2 h2
          exact hb X es W body K hr m2 F0 H0 F1 H1 st' σ' _ _ (S'.mono g1) h2 fun σ2 H2 F2 S2 z => ⟨st2, F2, S2, (s'.trans g1.ff).trans z, e2⟩
        · rename_i h
          cases q : evSs G.Φ fu b st' with
          | none => rw [q] at e2; cases e2
          | some q' =>
            rw [q] at e2
            cases e2
            refine hb X es W body K hr m2 F0 H0 F1 H1 st' σ' _ _ (S'.mono g1) q ?_
            cases r with
            | nx st2 => exact absurd q (h st2)
            | rt k d => exact P
            | ex c => exact P
      | false =>
        rw [if_neg Bool.false_ne_true] at e2 ⊢
        cases e2
        exact P σ' H1 F1 (S'.mono g1) (s'.trans g1.ff)
    · exact (sndE d).2 X W t K.toCK m1 F0 H0 F' H' st' σ' _ _ S' e1 fun H2 s => P σ' H2 (S'.gr.hh.trans s)

/-! ### blocks -/
theorem mSs_nil {c : Cc} {sc : Scope} {sx : List Stmt} (m : mSs c sc [] sx = true) : sx = [] := by
  cases sx with
  | nil => rfl
  | cons s sx => simp [mSs] at m
def isFrz : S → Bool
  | .frz _ => true
  | _ => false
theorem mSs_cons {c : Cc} {sc : Scope} {s : S} {ss : List S} {sx : List Stmt} (h : isFrz s = false) (m : mSs c sc (s :: ss) sx = true) : ∃ x xs, sx = x :: xs ∧ mS c sc s x = true ∧ mSs c sc ss xs = true := by
  cases sx with
  | nil => cases s <;> simp_all [mSs, isFrz]
  | cons x xs =>
    refine ⟨x, xs, rfl, ?_⟩
    cases s <;> simp_all [mSs, isFrz]
theorem sss_nil : SndSs G fu [] := by
  intro X es W sx K hr m F0 H0 F H st σ r Z S ev P
  cases mSs_nil m
  rw [evSs] at ev
  cases ev
  exact sss_of pss_nil (P σ H F S (Sub.refl F))
theorem sss_frz {i : Nat} {ss : List S} (hs : SndSs G fu ss) : SndSs G fu (.frz i :: ss) := by
  intro X es W sx K hr m F0 H0 F H st σ r Z S ev P
  rw [mSs] at m
  rw [raisesL] at hr
  rw [evSs, evS] at ev
  split at ev
  · rename_i b d hd
    simp only [thenS] at ev
    cases b with
    | true =>
      obtain ⟨F', f, S'⟩ := S.frz hd
      exact hs X es W sx K (mem_l hr).2 m F0 H0 F' H _ _ r Z S' ev (P.sub f)
    | false =>
      obtain ⟨v, h1, h2⟩ := S.shr i d hd
      have e : σ.set i (some v) = σ := by
        obtain ⟨hl, q⟩ := List.getElem?_eq_some_iff.mp h1
        rw [← q]
        exact List.set_getElem_self hl
      have S' := S.setS i h2
      rw [e] at S'
      exact hs X es W sx K (mem_l hr).2 m F0 H0 F H _ _ r Z S' ev P
  · simp [thenS] at ev
theorem sss_cons {s : S} {ss : List S} (h : isFrz s = false) (h1 : SndS G fu s) (hs : SndSs G fu ss) : SndSs G fu (s :: ss) := by
  intro X es W sx K hr m F0 H0 F H st σ r Z S ev P
  obtain ⟨x, xs, rfl, m1, m2⟩ := mSs_cons h m
  rw [raisesL] at hr
  obtain ⟨hr1, hr2⟩ := mem_l hr
  rw [evSs] at ev
  refine sss_of (pss_cons ps_ss pss_sss) ?_
  unfold thenS at ev
  split at ev
  · rename_i st' e
    exact h1 X es W x K hr1 m1 F0 H0 F H st σ _ _ S e fun σ' H' F' S' z => hs X es W xs K hr2 m2 F0 H0 F' H' st' σ' r Z S' ev (P.sub z)
  · rename_i h
    cases q : evS G.Φ fu s st with
    | none => rw [q] at ev; cases ev
    | some q' =>
      rw [q] at ev
      cases ev
      refine h1 X es W x K hr1 m1 F0 H0 F H st σ _ _ S q ?_
      cases r with
      | nx st2 => exact absurd q (h st2)
      | rt k d => exact P
      | ex c => exact P
theorem snd_frz {i : Nat} : SndS G fu (.frz i) := by
  intro X es W sx K hr m
  exfalso
  unfold mS at m
  cases m
mutual
theorem sndS : ∀ s : S, SndS G fu s
  | .set i e => sns_set
  | .setT is e => sns_setT
  | .setI i k e => sns_setI
  | .dput i k e => sns_dput
  | .app i e => sns_app
  | .ins i k e => sns_ins
  | .ext i e => sns_ext
  | .clr i => sns_clr
  | .frz i => snd_frz
  | .ite c a b => sns_ite (sndSs a) (sndSs b)
  | .for i src b => sns_for (sndSs b)
  | .forR i n b => sns_forR (sndSs b)
  | .forT is src b => sns_forT (sndSs b)
  | .whl c b => sns_whl (sndSs b)
  | .ret e => sns_ret
  | .retN => sns_retN
  | .exp e => sns_exp
  | .rai c => sns_rai
  | .tryC _ _ _ _ _ => sns_try
theorem sndSs : ∀ ss : List S, SndSs G fu ss
  | [] => sss_nil
  | .frz i :: ss => sss_frz (sndSs ss)
  | s :: ss => if h : isFrz s = false then sss_cons h (sndS s) (sndSs ss) else by
      cases s <;> first | (simp [isFrz] at h; done) | exact sss_frz (sndSs ss)
end
end
end Dv

/-! Dv, part N: defs. -/
namespace Dv
open PySem PySem.Spec PyProof.Rows L2

/-- an own error class over ValueError, as it stands behind the top -/
structure ExcOK (K : PySem.W.Frag) (mg : Str → Option Value) (c : Str) (C : Addr) : Prop where
  g : mg c = some (.ref C)
  q : PySem.W.excIn K C [.type "ValueError", .type "Exception", .type "BaseException", .type "object"] "ValueError.__new__" = true
  k : PySem.W.keepIn K (.ref C) = true
  b : PySem.W.subIn K (.ref C) (.type "BaseException") = some true
  t : PySem.W.typeIn K (.ref C) = some (.type "type")
theorem kit_own {K : PySem.W.Frag} {C D : Addr} {b : Bool} (i : PySem.W.isClsIn K D = true) (t : PySem.W.typeIn K (.ref D) = some (.type "type")) (sd : PySem.W.subIn K (.ref D) (.ref D) = some true) (s : PySem.W.subIn K (.ref C) (.ref D) = some b) : PySem.W.kitOne K (.ref C) (.ref D) = some b := by
  unfold PySem.W.kitOne
  split
  · rename_i h
    have e : C = D := by simpa using h
    subst e
    rw [sd] at s
    exact s
  · have i' : (PySem.W.clsIn K D).isSome = true := i
    show (if ((PySem.W.clsIn K D).isSome && PySem.W.typeIn K (.ref D) == some (.type "type")) = true then PySem.W.subIn K (.ref C) (.ref D) else none) = some b
    rw [i', t, if_pos (by rfl)]
    exact s
theorem kit_val {K : PySem.W.Frag} {C : Addr} {T : String} {b : Bool} (m : PySem.W.kitMeta T = true) (s : PySem.W.subIn K (.ref C) (.type T) = some b) : PySem.W.kitOne K (.ref C) (.type T) = some b := by
  show (if PySem.W.kitMeta T = true then PySem.W.subIn K (.ref C) (.type T) else none) = some b
  rw [if_pos m]
  exact s
theorem exm_own {K : PySem.W.Frag} {C D : Addr} {b : Bool} (h : PySem.W.subIn K (.ref D) (.type "BaseException") = some true) (i : PySem.W.isClsIn K D = true) (t : PySem.W.typeIn K (.ref D) = some (.type "type")) (s : PySem.W.subIn K (.ref C) (.ref D) = some b) : PySem.W.exmOne K (.ref C) (.ref D) = some b := by
  have i' : (PySem.W.clsIn K D).isSome = true := i
  show (if (PySem.W.subIn K (.ref D) (.type "BaseException") == some true) = true then (if ((PySem.W.clsIn K D).isSome && PySem.W.typeIn K (.ref D) == some (.type "type")) = true then PySem.W.subIn K (.ref C) (.ref D) else none) else none) = some b
  rw [h, if_pos (by rfl), i', t, if_pos (by rfl)]
  exact s
/-- the top's facts -/
structure TopOK (K : PySem.W.Frag) (mg : Str → Option Value) (cs : List (Str × Int)) (hc ht es : List Str) (ea : Str → Addr) : Prop where
  bl : ∀ x ∈ bnames, mg x = none
  gl : ∀ x i, (x, i) ∈ cs → ∃ t, mg x = some (.int i t)
  ex : ∀ c ∈ es, ExcOK K mg c (ea c)
  hot : ∀ c ∈ hc, HotOK K ea c ht
  hg : ∀ d ∈ ht, mg d = some (.ref (ea d))
/-- a def, as it stands behind the top, held against its reading -/
structure DefAt (K : PySem.W.Frag) (mg : Str → Option Value) (cs : List (Str × Int)) (hc ht es : List Str) (f : Str) (d : DefI) (fa : Addr) (fd : FuncData) (st : Stmt) : Prop where
  g : mg f = some (.ref fa)
  fn : Fun K f f st fa fd
  ba : ∀ us : List Value, us.length = (d.nm.take d.np).length → bindArgs fd ⟨us, []⟩ = pure ((d.nm.take d.np).zip us)
  sc : FnScope d.nm (d.nm.take d.np) (defScope st)
  bd : mSs ⟨d.nm, cs, hc, ht⟩ (defScope st) d.body (defBody st) = true
  rs : ∀ c ∈ raisesL d.body, c ∈ es
  np : d.np ≤ d.nm.length
section
variable {P : Program} {w : World} {K : PySem.W.Frag} {mg : Str → Option Value} {base : Heap} {cs : List (Str × Int)} {hc ht es : List Str} {ea : Str → Addr}
theorem start_ok {F H : Hp} {vs : List V} {ds : List D} {d : DefI} (s : Sub F H) (q : Rps K F vs ds) (hl : ds.length = d.np) (hn : d.np ≤ d.nm.length) : StOK K F H F H (Dv.start d ds) (L2.start d.nm vs) := by
  have hv := q.length
  have get : ∀ (i : Nat) (b : Bool) (e : D), (Dv.start d ds)[i]? = some (some (b, e)) → b = false ∧ ds[i]? = some e := fun i b e h => by
    unfold Dv.start at h
    by_cases hi : i < ds.length
    · rw [List.getElem?_append_left (by simpa using hi), List.getElem?_map] at h
      cases q : ds[i]? with
      | none => rw [q] at h; cases h
      | some x => rw [q] at h; cases h; exact ⟨rfl, rfl⟩
    · rw [List.getElem?_append_right (by simpa using hi), List.getElem?_replicate] at h
      split at h <;> cases h
  refine ⟨Gr.refl s, ?_, fun i e h => ?_, fun i e h => ?_, fun i j p di dj h => ?_⟩
  · unfold Dv.start L2.start
    rw [List.length_append, List.length_append, List.length_map, List.length_map, List.length_replicate, List.length_replicate, hv]
  · obtain ⟨_, h2⟩ := get i false e h
    obtain ⟨v, h3, h4⟩ := q.get h2
    refine ⟨v, ?_, h4⟩
    unfold L2.start
    rw [List.getElem?_append_left (by simpa using (List.getElem?_eq_some_iff.mp h3).1), List.getElem?_map, h3]
    rfl
  · have := (get i true e h).1
    cases this
  · have := (get i true di h).1
    cases this
theorem sp_len {κ : PySem.W.Frag} {φ : List D → Option EO} {n : Nat} (h : ∀ ds r, φ ds = some r → ds.length = n) : ∀ vs H Q E, spOf κ ea φ vs H Q E → vs.length = n := fun vs H Q E ⟨F, ds, r, _, q, e, _⟩ => by
  rw [q.length]
  exact h ds r e
theorem RV.boolV {κ : PySem.W.Frag} {F H : Hp} {k : Kd} {b : Bool} {v : V} (h : RV κ F H k (.bool b) v) : v = .bl b := by
  cases k with
  | shr => cases (show Rp κ F v (.bool b) from h); rfl
  | brw => obtain ⟨p, _, _, t⟩ := h; exact False.elim t
  | frs => obtain ⟨p, _, _, t⟩ := h; exact False.elim t
theorem runD_len {Φ : Str → List D → Option EO} {fu : Nat} {d : DefI} {ds : List D} {r : EO} (h : runD Φ fu d ds = some r) : ds.length = d.np := by
  unfold runD at h
  split at h
  · assumption
  · cases h
/-- a def whose callees keep their promises keeps its own -/
theorem fn_at {Φ : Str → List D → Option EO} {n fu : Nat} {f : Str} {d : DefI} {fa : Addr} {fd : FuncData} {st : Stmt} (T : TopOK K mg cs hc ht es ea) (A : DefAt K mg cs hc ht es f d fa fd st)
    (ih : ∀ f ds r, Φ f ds = some r → ∃ fa fd ps, mg f = some (.ref fa) ∧ PySem.W.keepIn K (.ref fa) = true ∧ Binds K fd ps [] ∧ FnOk P w K mg base (L2.CX P w) n fa fd ps (spOf K ea (Φ f))) :
    FnOk P w K mg base (L2.CX P w) (n + 1) fa fd (d.nm.take d.np) (spOf K ea (runD Φ fu d)) := by
  have hlen : (d.nm.take d.np).length = d.np := by rw [List.length_take]; exact Nat.min_eq_left A.np
  refine A.fn.okX A.sc (fun vs H Q E h => ?_) fun cdv Ar outer s H vs Q E hr h => ?_
  · rw [hlen]
    exact sp_len (fun ds r e => runD_len e) vs H Q E h
  · obtain ⟨F, ds, r, hs, q, e, p⟩ := h
    have hdl := runD_len e
    unfold runD at e
    rw [if_pos hdl] at e
    cases eb : evSs Φ fu d.body (Dv.start d ds) with
    | none => rw [eb] at e; cases e
    | some o =>
      rw [eb] at e
      have KS : CKS ⟨K, Φ, ea, n, cs, hc, ht⟩ es (fun cls dd _ H => E cls dd H) (cxOf (L2.CX P w) P w K mg base d.nm f (defScope st) fa cdv Ar outer s H E) :=
        { kk := rfl, nd := A.sc.nd, calm := rfl, room := hr, bl := T.bl, fn := ih, gl := T.gl, tk := takes_of rfl rfl rfl rfl, po := passes_of rfl, fnT := fun _ => rfl, kd := A.sc.kind, hot := T.hot, hg := T.hg, stk := rfl, frm := rfl,
          rs := fun c hc hg hp m j p p2 pos => by
            have X := T.ex c hc
            exact pmk_own PySem.F.excBase_ValueError X.q X.g X.k (raises_own X.b X.t) hg (plain_all hp).1 }
      refine ⟨_, pss_sss, ?_⟩
      refine sndSs d.body _ es _ _ KS A.rs A.bd F H F H _ _ o _ (start_ok hs q hdl A.np) eb ?_
      cases o with
      | nx st2 =>
        cases e
        exact fun σ' H' F' S' z => p _ H' F' S'.gr (show Rp _ _ _ _ from .non) fun e => nomatch e
      | rt k dd =>
        cases k with
        | brw => cases e
        | shr => cases e; exact fun v H' F' g r f => p v H' F' g r f
        | frs => cases e; exact fun v H' F' g r f => p v H' F' g r f
      | ex c =>
        cases e
        exact fun σ' H' s' => p H' s'
theorem run_eq {tab : List (Str × DefI)} {fu n : Nat} {f : Str} {d : DefI} (h : tab.lookup f = some d) : run tab fu (n + 1) f = runD (run tab fu n) fu d := by
  funext ds
  rw [run, h]
/-- every def of a table -/
theorem all_ok {tab : List (Str × DefI)} {fu : Nat} (T : TopOK K mg cs hc ht es ea) (DA : ∀ p ∈ tab, ∃ fa fd st, DefAt K mg cs hc ht es p.1 p.2 fa fd st) : ∀ (n : Nat) (f : Str) (ds : List D) (r : EO), run tab fu n f ds = some r →
    ∃ fa fd ps, mg f = some (.ref fa) ∧ PySem.W.keepIn K (.ref fa) = true ∧ Binds K fd ps [] ∧ FnOk P w K mg base (L2.CX P w) n fa fd ps (spOf K ea (run tab fu n f))
  | 0, f, ds, r, h => by rw [run] at h; cases h
  | n + 1, f, ds, r, h => by
    cases e : tab.lookup f with
    | none => rw [run, e] at h; cases h
    | some d =>
      obtain ⟨fa, fd, st, A⟩ := DA (f, d) (PySem.mem_of_lookup e)
      have F := fn_at (Φ := run tab fu n) (P := P) (w := w) (base := base) (fu := fu) T A fun f ds r => all_ok T DA n f ds r
      rw [run_eq e]
      exact ⟨fa, fd, _, A.g, A.fn.kp, Binds.all A.ba, F⟩
/-- the law's promise: it tells True -/
def spLaw (κ : PySem.W.Frag) (φ : List D → Option EO) : Sp := fun vs H Q _ => ∃ F ds k, Sub F H ∧ Rps κ F vs ds ∧ φ ds = some (.ok k (.bool true)) ∧ ∀ H', Q (.bl true) H'
theorem law_ok {tab : List (Str × DefI)} {fu n : Nat} {d : DefI} {f : Str} {fa : Addr} {fd : FuncData} {st : Stmt} (T : TopOK K mg cs hc ht es ea) (DA : ∀ p ∈ tab, ∃ fa fd st, DefAt K mg cs hc ht es p.1 p.2 fa fd st) (A : DefAt K mg cs hc ht es f d fa fd st) (h : tab.lookup f = some d) :
    FnOk P w K mg base (L2.CX P w) (n + 1) fa fd (d.nm.take d.np) (spLaw K (run tab fu (n + 1) f)) := by
  have F := fn_at (Φ := run tab fu n) (P := P) (w := w) (base := base) (fu := fu) (n := n) T A fun f ds r => all_ok T DA n f ds r
  rw [run_eq h]
  refine F.imp fun vs H Q E ⟨F', ds, k, h1, h2, h3, h4⟩ => ⟨F', ds, _, h1, h2, h3, ?_⟩
  exact fun v H' F2 g r f => by rw [r.boolV]; exact h4 H'
end
/-- what is fixed in the text itself -/
structure DefS (cs : List (Str × Int)) (hc ht es : List Str) (f : Str) (d : DefI) (st : Stmt) : Prop where
  sc : FnScope d.nm (d.nm.take d.np) (defScope st)
  bd : mSs ⟨d.nm, cs, hc, ht⟩ (defScope st) d.body (defBody st) = true
  rs : ∀ c ∈ raisesL d.body, c ∈ es
  np : d.np ≤ d.nm.length
  ba : ∀ (kV doc pm : Value) (an : Option Addr) (cdv ct : Value) (us : List Value), us.length = (d.nm.take d.np).length → bindArgs (PySem.W.fnOf f f (defArgs st) (defBody st) (defScope st) .none kV doc pm an cdv ct) ⟨us, []⟩ = pure ((d.nm.take d.np).zip us)
theorem DefS.at {K : PySem.W.Frag} {h : Heap} {mg : Str → Option Value} {cs : List (Str × Int)} {hc ht es : List Str} {f : Str} {d : DefI} {st : Stmt} {fa : Addr} {oc : Value} {od an : Option Addr} {osl : Array (Option Value)} {kV doc pm cdv ct : Value} (S : DefS cs hc ht es f d st) (X : K.In h) (G : h.Ns mainGlobals mg)
    (a : PySem.W.nsIn K mainGlobals f = some (some (.ref fa))) (l : K.lookup fa = some ⟨oc, od, .func (PySem.W.fnOf f f (defArgs st) (defBody st) (defScope st) .none kV doc pm an cdv ct), osl⟩) (c : PySem.W.codeIn K cdv f = true) (k : PySem.W.keepIn K (.ref fa) = true) :
    DefAt K mg cs hc ht es f d fa (PySem.W.fnOf f f (defArgs st) (defBody st) (defScope st) .none kV doc pm an cdv ct) st :=
  ⟨PySem.W.mg_of X G a, fun_mk l c k, S.ba kV doc pm an cdv ct, S.sc, S.bd, S.rs, S.np⟩
theorem DefAt.law {K : PySem.W.Frag} {mg : Str → Option Value} {cs : List (Str × Int)} {hc ht es : List Str} {f : Str} {d : DefI} {fa : Addr} {fd : FuncData} {st : Stmt} {x : Str} (A : DefAt K mg cs hc ht es f d fa fd st) (h : d.nm.take d.np = [x]) (s : Shared) (u : Value) : BindsTo s fd ⟨[u], []⟩ [(x, u)] := by
  have := A.ba [u] (by rw [h]; rfl)
  rw [h] at this
  exact .of_eq this
/-- the end of a law row -/
theorem law_walk {l : PySem.W.OpenLaw} {n : Nat} {q : Program} {loose : List Str} {XP : (Str → Option Value) → Heap → Prop} {YP : World → Heap → Prop} {dr : DefRec} {K : Params → PySem.W.Frag} {tab : List (Str × DefI)} {fu : Nat} {cs : List (Str × Int)} {hc ht es : List Str} {d : DefI} {st : Stmt} {x : Str}
    (hn : l.most = some 63) (hdf : dr.params.defaults = []) (hr : Room (n + 1) callerA) (hx : d.nm.take d.np = [x]) (hl : tab.lookup dr.name = some d)
    (hY : ∀ (w : World) (h : Heap), YP w h → (K w.params).In h)
    (F : ∀ (w : World) (mg : Str → Option Value) (h : Heap), (K w.params).In h → h.Ns mainGlobals mg →
      ∃ ea fa fd, TopOK (K w.params) mg cs hc ht es ea ∧ (∀ p ∈ tab, ∃ fa fd st, DefAt (K w.params) mg cs hc ht es p.1 p.2 fa fd st) ∧ DefAt (K w.params) mg cs hc ht es dr.name d fa fd st)
    (hrun : ∀ ns : List Int, ns.length ≤ 63 → ∃ k, run tab fu (n + 1) dr.name [scrD ns] = some (.ok k (.bool true))) :
    PySem.W.WalkO q loose XP YP l.row.toRowW dr [] (fun f vs => PySem.call f vs) := by
  refine L2.walk_of (n := 63) (k := n + 1) (x := x) (CX := fun w => L2.CX l.prog w) (sp := fun w => spLaw (K w.params) (run tab fu (n + 1) dr.name)) hn (by decide) hdf hr hY (fun w mg fa h X G hm => ?_) (fun w H a ns hlen _ hS => ?_) fun w H s e s' z => ?_
  · obtain ⟨ea, fa', fd, T, DA, A⟩ := F w mg h X G
    have e := hm.symm.trans A.g
    cases e
    refine ⟨fd, fun s u => A.law hx s u, fun base _ _ => ?_⟩
    rw [← hx]
    exact law_ok T DA A hl
  · obtain ⟨k, e⟩ := hrun ns hlen
    exact ⟨H, [scrD ns], k, Sub.refl H, .cons (.scr hS) .nil, e, fun _ => rfl⟩
  · obtain ⟨_, _, _, _, _, _, _, _, _, _, _, _, z⟩ := z
    exact z
end Dv

namespace Law
open PySem PySem.Spec PyProof.Rows L2 Dv

def top (i : Nat) : Stmt := PySem.Challenge.pw_liveswap_k07_met.main.body.getD i (.Pass ⟨0, 0, 0, 0⟩)
def cs : List (Str × Int) := []
def es : List Str := ["BadState"]
def hc : List Str := ["BadState"]
def ht : List Str := ["SwapError", "BadCount", "BadPlaces", "BadProgram", "BadState", "Busy", "Over", "Unsafe"]
def d_is_among : DefI := ⟨3, ["thing", "least", "most"], [
    .ret (.and [.isi (.var 0) .int, .not (.isi (.var 0) .bool), .chn .le .le (.var 1) (.var 0) (.var 2)])]⟩
def i_is_begin_0 : List E := []
def e_is_begin_1 : E := .call "is_among" [.var 2, .int 0, .idx (.var 0) (.int 1)]
def d_is_begin : DefI := ⟨2, ["program", "thing", "number"], [
    .ite (.or [.not (.isi (.var 1) .tuple), .cmp .ne (.fn .len (.var 1)) (.idx (.var 0) (.int 0))]) [
      .ret (.bl false)] [
],
    .ret (.fn .all (.cmpL e_is_begin_1 2 (.var 1) i_is_begin_0))]⟩
def d_need_state : DefI := ⟨2, ["program", "thing"], [
    .ite (.or [.not (.isi (.var 1) .tuple), .cmp .ne (.fn .len (.var 1)) (.int 2), .not (.call "is_among" [.idx (.var 1) (.int 0), .int 0, .bin .sub (.fn .len (.idx (.var 0) (.int 2))) (.int 1)])]) [
      .rai "BadState"] [
],
    .ite (.not (.call "is_begin" [.var 0, .idx (.var 1) (.int 1)])) [
      .rai "BadState"] [
],
    .ret (.var 1)]⟩
def d_with_number : DefI := ⟨3, ["numbers", "box", "number"], [
    .ret (.bin .add (.bin .add (.slc (.var 0) none (some (.var 1))) (.tup [.var 2])) (.slc (.var 0) (some (.bin .add (.var 1) (.int 1))) none))]⟩
def d_next_state : DefI := ⟨2, ["program", "state", "at", "numbers", "row"], [
    .setT [2, 3] (.var 1),
    .set 4 (.idx (.idx (.var 0) (.int 2)) (.var 2)),
    .ite (.cmp .eq (.idx (.var 4) (.int 0)) (.str "stop")) [
      .ret .non] [
],
    .ite (.cmp .eq (.idx (.var 4) (.int 0)) (.str "go")) [
      .ret (.tup [.idx (.var 4) (.int 1), .var 3])] [
],
    .ite (.cmp .eq (.idx (.var 4) (.int 0)) (.str "ask")) [
      .ret (.tup [.ife (.cmp .eq (.idx (.var 3) (.idx (.var 4) (.int 1))) (.int 0)) (.idx (.var 4) (.int 2)) (.bin .add (.var 2) (.int 1)), .var 3])] [
],
    .ite (.cmp .eq (.idx (.var 4) (.int 0)) (.str "put")) [
      .ret (.tup [.bin .add (.var 2) (.int 1), .call "with_number" [.var 3, .idx (.var 4) (.int 1), .idx (.var 4) (.int 2)]])] [
],
    .ite (.cmp .eq (.idx (.var 4) (.int 0)) (.str "more")) [
      .ret (.tup [.bin .add (.var 2) (.int 1), .call "with_number" [.var 3, .idx (.var 4) (.int 1), .bin .mod (.bin .add (.idx (.var 3) (.idx (.var 4) (.int 1))) (.int 1)) (.bin .add (.idx (.var 0) (.int 1)) (.int 1))]])] [
],
    .ite (.cmp .eq (.idx (.var 4) (.int 0)) (.str "copy")) [
      .ret (.tup [.bin .add (.var 2) (.int 1), .call "with_number" [.var 3, .idx (.var 4) (.int 1), .idx (.var 3) (.idx (.var 4) (.int 2))]])] [
],
    .ret (.tup [.bin .add (.var 2) (.int 1), .var 3])]⟩
def b_turned_0 : List S := [
      .ite (.cmp .eq (.idx (.var 3) (.int 0)) (.str "is")) [
        .app 2 (.idx (.var 3) (.int 1))] [
        .app 2 (.idx (.idx (.var 3) (.int 2)) (.idx (.var 1) (.idx (.var 3) (.int 1))))]]
def d_turned : DefI := ⟨2, ["rules", "numbers", "found", "rule"], [
    .set 2 (.lst []),
    .for 3 (.var 0) b_turned_0,
    .ite (.cmp .mem .non (.var 2)) [
      .ret .non] [
],
    .ret (.fn .tup (.var 2))]⟩
def b_rules_of_0 : List S := [
      .dput 1 (.idx (.var 2) (.int 0)) (.idx (.var 2) (.int 2))]
def d_rules_of : DefI := ⟨1, ["places", "found", "place"], [
    .set 1 .dic,
    .for 2 (.var 0) b_rules_of_0,
    .ret (.var 1)]⟩
def e_met_0 : E := .and [.cmp .isn (.var 2) .non, .cmp .nmem (.var 2) (.var 4), .cmp .nmem (.idx (.var 2) (.int 0)) (.var 3)]
def b_met_1 : List S := [
      .dput 4 (.var 2) (.fn .len (.var 4)),
      .set 2 (.call "next_state" [.var 0, .var 2])]
def d_met : DefI := ⟨3, ["one", "places", "state", "rules", "came"], [
    .exp (.call "need_state" [.var 0, .var 2]),
    .set 3 (.call "rules_of" [.var 1]),
    .set 4 .dicT,
    .whl e_met_0 b_met_1,
    .ite (.cmp .is (.var 2) .non) [
      .ret (.tup [.str "over", .fn .len (.var 4)])] [
],
    .ite (.cmp .mem (.var 2) (.var 4)) [
      .ret (.tup [.str "missed", .idx (.var 4) (.var 2), .bin .sub (.fn .len (.var 4)) (.idx (.var 4) (.var 2))])] [
],
    .ite (.cmp .is (.call "turned" [.idx (.var 3) (.idx (.var 2) (.int 0)), .idx (.var 2) (.int 1)]) .non) [
      .ret (.tup [.str "stuck", .fn .len (.var 4)])] [
],
    .ret (.tup [.str "comes", .fn .len (.var 4)])]⟩
def d_law_cell_at : DefI := ⟨2, ["_law_script", "_law_k"], [
    .ite (.cmp .lt (.var 1) (.fn .len (.var 0))) [
      .ret (.idx (.var 0) (.var 1))] [
],
    .ret (.int 0)]⟩
def d_law_next : DefI := ⟨1, ["_law_seed"], [
    .ret (.bin .mod (.bin .add (.bin .mul (.var 0) (.int 48271)) (.int 11)) (.int 2147483647))]⟩
def d_law_row : DefI := ⟨4, ["_law_seed", "_law_boxes", "_law_most", "_law_many", "_law_pick", "_law_box"], [
    .set 4 (.bin .mod (.var 0) (.int 10)),
    .ite (.cmp .eq (.var 1) (.int 0)) [
      .ret (.idx (.lst [.tup [.str "go", .bin .mod (.bin .fdiv (.var 0) (.int 10)) (.var 3)], .tup [.str "stop"]]) (.bin .fdiv (.var 4) (.int 7)))] [
],
    .set 5 (.bin .mod (.bin .fdiv (.var 0) (.int 10)) (.var 1)),
    .ite (.cmp .lt (.var 4) (.int 2)) [
      .ret (.tup [.str "put", .var 5, .bin .mod (.bin .fdiv (.var 0) (.int 50)) (.bin .add (.var 2) (.int 1))])] [
],
    .ite (.cmp .lt (.var 4) (.int 4)) [
      .ret (.tup [.str "more", .var 5])] [
],
    .ite (.cmp .eq (.var 4) (.int 4)) [
      .ret (.tup [.str "copy", .var 5, .bin .mod (.bin .fdiv (.var 0) (.int 50)) (.var 1)])] [
],
    .ite (.cmp .lt (.var 4) (.int 7)) [
      .ret (.tup [.str "tell", .var 5])] [
],
    .ite (.cmp .eq (.var 4) (.int 7)) [
      .ret (.idx (.lst [.tup [.str "go", .bin .mod (.bin .fdiv (.var 0) (.int 50)) (.var 3)], .tup [.str "stop"]]) (.bin .mod (.bin .fdiv (.var 0) (.int 20)) (.int 2)))] [
],
    .ret (.tup [.str "ask", .var 5, .bin .mod (.bin .fdiv (.var 0) (.int 50)) (.var 3)])]⟩
def b_law_program_0 : List S := [
      .set 1 (.call "_law_next" [.bin .add (.var 1) (.var 6)]),
      .app 5 (.call "_law_row" [.var 1, .var 2, .var 3, .var 4])]
def d_law_program : DefI := ⟨1, ["_law_cell", "_law_seed", "_law_boxes", "_law_most", "_law_many", "_law_rows", "_law_k"], [
    .set 1 (.call "_law_next" [.var 0]),
    .set 2 (.idx (.lst [.int 1, .int 2, .int 1, .int 2, .int 0, .int 3]) (.bin .mod (.var 1) (.int 6))),
    .set 3 (.bin .add (.int 1) (.bin .mod (.bin .fdiv (.var 1) (.int 6)) (.int 4))),
    .set 4 (.bin .add (.bin .add (.int 1) (.bin .mod (.bin .fdiv (.var 1) (.int 24)) (.int 7))) (.bin .mul (.int 9) (.fn .int (.cmp .eq (.bin .mod (.bin .fdiv (.var 1) (.int 200)) (.int 8)) (.int 3))))),
    .set 5 (.lst []),
    .forR 6 (.var 4) b_law_program_0,
    .ite (.cmp .nmem (.idx (.idx (.var 5) (.neg (.int 1))) (.int 0)) (.tup [.str "go", .str "stop"])) [
      .setI 5 (.neg (.int 1)) (.idx (.lst [.tup [.str "go", .bin .mod (.bin .fdiv (.var 1) (.int 7)) (.var 4)], .tup [.str "stop"]]) (.bin .fdiv (.bin .mod (.bin .fdiv (.var 1) (.int 1000)) (.int 3)) (.int 2)))] [
],
    .frz 5,
    .ret (.tup [.var 2, .var 3, .var 5])]⟩
def b_law_rule_0 : List S := [
      .app 3 (.idx (.lst [.bin .mod (.bin .fdiv (.var 0) (.bin .add (.int 4) (.bin .mul (.int 5) (.var 4)))) (.bin .add (.idx (.var 2) (.int 1)) (.int 1)), .non]) (.fn .int (.cmp .eq (.bin .mod (.bin .fdiv (.var 0) (.bin .add (.int 40) (.bin .mul (.int 7) (.var 4)))) (.int 23)) (.int 1))))]
def d_law_rule : DefI := ⟨3, ["_law_seed", "_law_one", "_law_two", "_law_numbers_here", "_law_k"], [
    .ite (.or [.cmp .eq (.idx (.var 1) (.int 0)) (.int 0), .cmp .eq (.bin .mod (.var 0) (.int 4)) (.int 0)]) [
      .ret (.tup [.str "is", .idx (.lst [.bin .mod (.bin .fdiv (.var 0) (.int 4)) (.bin .add (.idx (.var 2) (.int 1)) (.int 1)), .non]) (.fn .int (.cmp .eq (.bin .mod (.bin .fdiv (.var 0) (.int 40)) (.int 13)) (.int 1)))])] [
],
    .set 3 (.lst []),
    .forR 4 (.bin .add (.idx (.var 1) (.int 1)) (.int 1)) b_law_rule_0,
    .ret (.tup [.str "by", .bin .mod (.bin .fdiv (.var 0) (.int 400)) (.idx (.var 1) (.int 0)), .fn .tup (.var 3)])]⟩
def i_law_places_0 : List E := []
def e_law_places_1 : E := .call "_law_rule" [.call "_law_next" [.bin .add (.var 4) (.bin .mul (.int 7) (.var 7))], .var 1, .var 2]
def b_law_places_2 : List S := [
      .set 4 (.call "_law_next" [.bin .add (.var 4) (.var 5)]),
      .ite (.cmp .gt (.bin .mod (.var 4) (.int 3)) (.int 0)) [
        .set 6 (.fn .tup (.cmpR e_law_places_1 7 (.idx (.var 2) (.int 0)) i_law_places_0)),
        .ins 3 (.bin .mod (.bin .fdiv (.var 4) (.int 9)) (.bin .add (.fn .len (.var 3)) (.int 1))) (.tup [.var 5, .bin .mod (.bin .fdiv (.var 4) (.int 5)) (.fn .len (.idx (.var 2) (.int 2))), .var 6])] [
]]
def d_law_places : DefI := ⟨3, ["_law_cell", "_law_one", "_law_two", "_law_found", "_law_seed", "_law_row_here", "_law_rules_here", "_law_k"], [
    .set 3 (.lst []),
    .set 4 (.call "_law_next" [.var 0]),
    .forR 5 (.fn .len (.idx (.var 1) (.int 2))) b_law_places_2,
    .ret (.var 3)]⟩
def b_law_numbers_0 : List S := [
      .set 0 (.call "_law_next" [.bin .add (.var 0) (.var 3)]),
      .set 2 (.bin .add (.var 2) (.tup [.bin .mod (.bin .fdiv (.var 0) (.int 3)) (.bin .add (.idx (.var 1) (.int 1)) (.int 1))]))]
def d_law_numbers : DefI := ⟨2, ["_law_seed", "_law_program_here", "_law_found", "_law_box"], [
    .set 2 (.tup []),
    .forR 3 (.idx (.var 1) (.int 0)) b_law_numbers_0,
    .ret (.var 2)]⟩
def d_law_put : DefI := ⟨3, ["_law_numbers_here", "_law_box", "_law_number", "_law_row_here"], [
    .set 3 (.fn .lst (.var 0)),
    .setI 3 (.var 1) (.var 2),
    .ret (.fn .tup (.var 3))]⟩
def d_law_step : DefI := ⟨2, ["_law_program_here", "_law_state", "_law_at", "_law_numbers_here", "_law_row_here", "_law_more"], [
    .set 2 (.idx (.var 1) (.int 0)),
    .set 3 (.idx (.var 1) (.int 1)),
    .set 4 (.idx (.idx (.var 0) (.int 2)) (.var 2)),
    .ite (.cmp .eq (.idx (.var 4) (.int 0)) (.str "stop")) [
      .ret (.tup [.non, .non])] [
],
    .ite (.cmp .eq (.idx (.var 4) (.int 0)) (.str "tell")) [
      .ret (.tup [.tup [.bin .add (.var 2) (.int 1), .var 3], .idx (.var 3) (.idx (.var 4) (.int 1))])] [
],
    .ite (.or [.cmp .eq (.idx (.var 4) (.int 0)) (.str "go"), .and [.cmp .eq (.idx (.var 4) (.int 0)) (.str "ask"), .cmp .eq (.idx (.var 3) (.idx (.var 4) (.int 1))) (.int 0)]]) [
      .ret (.tup [.tup [.idx (.var 4) (.neg (.int 1)), .var 3], .non])] [
],
    .ite (.cmp .eq (.idx (.var 4) (.int 0)) (.str "put")) [
      .set 3 (.call "_law_put" [.var 3, .idx (.var 4) (.int 1), .idx (.var 4) (.int 2)])] [
],
    .ite (.cmp .eq (.idx (.var 4) (.int 0)) (.str "copy")) [
      .set 3 (.call "_law_put" [.var 3, .idx (.var 4) (.int 1), .idx (.var 3) (.idx (.var 4) (.int 2))])] [
],
    .ite (.cmp .eq (.idx (.var 4) (.int 0)) (.str "more")) [
      .set 5 (.bin .add (.idx (.var 3) (.idx (.var 4) (.int 1))) (.int 1)),
      .set 3 (.call "_law_put" [.var 3, .idx (.var 4) (.int 1), .idx (.lst [.var 5, .int 0]) (.fn .int (.cmp .gt (.var 5) (.idx (.var 0) (.int 1))))])] [
],
    .ret (.tup [.tup [.bin .add (.var 2) (.int 1), .var 3], .non])]⟩
def b_law_turned_0 : List S := [
      .set 4 (.idx (.var 3) (.int 1)),
      .ite (.cmp .eq (.idx (.var 3) (.int 0)) (.str "by")) [
        .set 4 (.idx (.idx (.var 3) (.int 2)) (.idx (.var 1) (.idx (.var 3) (.int 1))))] [
],
      .ite (.cmp .is (.var 4) .non) [
        .ret .non] [
],
      .app 2 (.var 4)]
def d_law_turned : DefI := ⟨2, ["_law_rules_here", "_law_numbers_here", "_law_found", "_law_rule_here", "_law_number"], [
    .set 2 (.lst []),
    .for 3 (.var 0) b_law_turned_0,
    .ret (.fn .tup (.var 2))]⟩
def b_law_rules_0 : List S := [
      .dput 1 (.idx (.var 2) (.int 0)) (.idx (.var 2) (.int 2))]
def d_law_rules : DefI := ⟨1, ["_law_places_here", "_law_rules_here", "_law_place"], [
    .set 1 .dic,
    .for 2 (.var 0) b_law_rules_0,
    .ret (.var 1)]⟩
def e_law_met_0 : E := .cmp .isn (.var 2) .non
def b_law_met_1 : List S := [
      .ite (.cmp .mem (.var 2) (.var 3)) [
        .ret (.tup [.str "missed", .idx (.var 3) (.var 2), .bin .sub (.fn .len (.var 3)) (.idx (.var 3) (.var 2))])] [
],
      .ite (.cmp .mem (.idx (.var 2) (.int 0)) (.var 1)) [
        .ret (.tup [.idx (.lst [.str "comes", .str "stuck"]) (.fn .int (.cmp .is (.call "_law_turned" [.idx (.var 1) (.idx (.var 2) (.int 0)), .idx (.var 2) (.int 1)]) .non)), .fn .len (.var 3)])] [
],
      .dput 3 (.var 2) (.fn .len (.var 3)),
      .set 2 (.idx (.call "_law_step" [.var 0, .var 2]) (.int 0))]
def d_law_met : DefI := ⟨3, ["_law_one", "_law_rules_here", "_law_state", "_law_came"], [
    .set 3 .dicT,
    .whl e_law_met_0 b_law_met_1,
    .ret (.tup [.str "over", .fn .len (.var 3)])]⟩
def i_law_is_0 : List E := []
def e_law_is_1 : E := .and [.isi (.var 2) .int, .not (.isi (.var 2) .bool)]
def d_law_is : DefI := ⟨2, ["_law_found", "_law_due", "_law_many"], [
    .ite (.or [.not (.isi (.var 0) .tuple), .cmp .ne (.var 0) (.var 1)]) [
      .ret (.bl false)] [
],
    .ret (.fn .all (.cmpL e_law_is_1 2 (.slc (.var 0) (some (.int 1)) none) i_law_is_0))]⟩
def d_law_refused : DefI := ⟨3, ["_law_one", "_law_places_here", "_law_thing", "e", "_law_others"], [
    .tryC 3 (.call "met" [.var 0, .var 1, .var 2]) hc [(4, .isEs ["BadCount", "BadPlaces", "BadProgram", "Busy", "Over", "Unsafe"])] (.and3 (.isE "BadState") (.isV) (.not (.var 4))),
    .ret (.bl false)]⟩
def b_law_0 : List S := [
      .set 11 (.call "_law_met" [.var 1, .var 8, .var 10]),
      .ite (.not (.call "_law_is" [.call "met" [.var 1, .var 3, .var 10], .var 11])) [
        .ret (.bl false)] [
]]
def d_law : DefI := ⟨1, ["_law_script", "_law_one", "_law_two", "_law_places_here", "_law_at", "_law_state", "_law_some", "_law_kept", "_law_rules_here", "_law_later", "_law_here", "_law_due"], [
    .set 1 (.call "_law_program" [.call "_law_cell_at" [.var 0, .int 0]]),
    .set 2 (.call "_law_program" [.call "_law_cell_at" [.var 0, .int 1]]),
    .set 3 (.call "_law_places" [.call "_law_cell_at" [.var 0, .int 2], .var 1, .var 2]),
    .ite (.cmp .eq (.bin .mod (.call "_law_cell_at" [.var 0, .int 3]) (.int 2)) (.int 1)) [
      .set 4 (.bin .mod (.bin .fdiv (.call "_law_cell_at" [.var 0, .int 3]) (.int 4)) (.bin .add (.fn .len (.var 3)) (.int 1))),
      .set 3 (.slc (.var 3) (some (.var 4)) (some (.bin .add (.var 4) (.bin .mod (.bin .fdiv (.call "_law_cell_at" [.var 0, .int 3]) (.int 2)) (.int 2)))))] [
],
    .set 5 (.tup [.bin .mod (.call "_law_cell_at" [.var 0, .int 4]) (.fn .len (.idx (.var 1) (.int 2))), .call "_law_numbers" [.call "_law_cell_at" [.var 0, .int 5], .var 1]]),
    .ite (.cmp .eq (.bin .mod (.call "_law_cell_at" [.var 0, .int 6]) (.int 5)) (.int 1)) [
      .set 6 (.lst [.non, .tup [.fn .len (.idx (.var 1) (.int 2)), .idx (.var 5) (.int 1)], .tup [.idx (.var 5) (.int 0), .bin .add (.idx (.var 5) (.int 1)) (.tup [.int 0])], .tup [.bl true, .idx (.var 5) (.int 1)], .fn .lst (.var 5)]),
      .frz 3,
      .ret (.call "_law_refused" [.var 1, .var 3, .idx (.var 6) (.bin .mod (.bin .fdiv (.call "_law_cell_at" [.var 0, .int 6]) (.int 5)) (.int 5))])] [
],
    .set 7 (.lst [.fn .lst (.idx (.var 1) (.int 2)), .fn .lst (.var 3)]),
    .frz 3,
    .set 8 (.call "_law_rules" [.var 3]),
    .set 9 (.idx (.call "_law_step" [.var 1, .var 5]) (.int 0)),
    .frz 8,
    .for 10 (.bin .add (.bin .add (.lst [.var 5]) (.bin .mul (.lst [.var 9]) (.fn .int (.cmp .isn (.var 9) .non)))) (.lst [.var 5])) b_law_0,
    .ret (.cmp .eq (.var 7) (.lst [.idx (.var 1) (.int 2), .var 3]))]⟩
def tab : List (Str × DefI) := [("is_among", d_is_among), ("is_begin", d_is_begin), ("need_state", d_need_state), ("with_number", d_with_number), ("next_state", d_next_state), ("turned", d_turned), ("rules_of", d_rules_of), ("met", d_met), ("_law_cell_at", d_law_cell_at), ("_law_next", d_law_next), ("_law_row", d_law_row), ("_law_program", d_law_program), ("_law_rule", d_law_rule), ("_law_places", d_law_places), ("_law_numbers", d_law_numbers), ("_law_put", d_law_put), ("_law_step", d_law_step), ("_law_turned", d_law_turned), ("_law_rules", d_law_rules), ("_law_met", d_law_met), ("_law_is", d_law_is), ("_law_refused", d_law_refused), ("law", d_law)]
theorem run_is_among {fu n : Nat} : run tab fu (n + 1) "is_among" = runD (run tab fu n) fu d_is_among := run_eq rfl
theorem run_is_begin {fu n : Nat} : run tab fu (n + 1) "is_begin" = runD (run tab fu n) fu d_is_begin := run_eq rfl
theorem run_need_state {fu n : Nat} : run tab fu (n + 1) "need_state" = runD (run tab fu n) fu d_need_state := run_eq rfl
theorem run_with_number {fu n : Nat} : run tab fu (n + 1) "with_number" = runD (run tab fu n) fu d_with_number := run_eq rfl
theorem run_next_state {fu n : Nat} : run tab fu (n + 1) "next_state" = runD (run tab fu n) fu d_next_state := run_eq rfl
theorem run_turned {fu n : Nat} : run tab fu (n + 1) "turned" = runD (run tab fu n) fu d_turned := run_eq rfl
theorem run_rules_of {fu n : Nat} : run tab fu (n + 1) "rules_of" = runD (run tab fu n) fu d_rules_of := run_eq rfl
theorem run_met {fu n : Nat} : run tab fu (n + 1) "met" = runD (run tab fu n) fu d_met := run_eq rfl
theorem run_law_cell_at {fu n : Nat} : run tab fu (n + 1) "_law_cell_at" = runD (run tab fu n) fu d_law_cell_at := run_eq rfl
theorem run_law_next {fu n : Nat} : run tab fu (n + 1) "_law_next" = runD (run tab fu n) fu d_law_next := run_eq rfl
theorem run_law_row {fu n : Nat} : run tab fu (n + 1) "_law_row" = runD (run tab fu n) fu d_law_row := run_eq rfl
theorem run_law_program {fu n : Nat} : run tab fu (n + 1) "_law_program" = runD (run tab fu n) fu d_law_program := run_eq rfl
theorem run_law_rule {fu n : Nat} : run tab fu (n + 1) "_law_rule" = runD (run tab fu n) fu d_law_rule := run_eq rfl
theorem run_law_places {fu n : Nat} : run tab fu (n + 1) "_law_places" = runD (run tab fu n) fu d_law_places := run_eq rfl
theorem run_law_numbers {fu n : Nat} : run tab fu (n + 1) "_law_numbers" = runD (run tab fu n) fu d_law_numbers := run_eq rfl
theorem run_law_put {fu n : Nat} : run tab fu (n + 1) "_law_put" = runD (run tab fu n) fu d_law_put := run_eq rfl
theorem run_law_step {fu n : Nat} : run tab fu (n + 1) "_law_step" = runD (run tab fu n) fu d_law_step := run_eq rfl
theorem run_law_turned {fu n : Nat} : run tab fu (n + 1) "_law_turned" = runD (run tab fu n) fu d_law_turned := run_eq rfl
theorem run_law_rules {fu n : Nat} : run tab fu (n + 1) "_law_rules" = runD (run tab fu n) fu d_law_rules := run_eq rfl
theorem run_law_met {fu n : Nat} : run tab fu (n + 1) "_law_met" = runD (run tab fu n) fu d_law_met := run_eq rfl
theorem run_law_is {fu n : Nat} : run tab fu (n + 1) "_law_is" = runD (run tab fu n) fu d_law_is := run_eq rfl
theorem run_law_refused {fu n : Nat} : run tab fu (n + 1) "_law_refused" = runD (run tab fu n) fu d_law_refused := run_eq rfl
theorem run_law {fu n : Nat} : run tab fu (n + 1) "law" = runD (run tab fu n) fu d_law := run_eq rfl
theorem s_is_among : DefS cs hc ht es "is_among" d_is_among (top 10) :=
  ⟨⟨rfl, rfl, rfl, by decide +kernel, rfl, by decide +kernel, by decide +kernel⟩, by decide +kernel, by decide +kernel, by decide, fun _ _ _ _ _ _ us hl => match us, hl with | [_, _, _], _ => rfl⟩
theorem s_is_begin : DefS cs hc ht es "is_begin" d_is_begin (top 11) :=
  ⟨⟨rfl, rfl, rfl, by decide +kernel, rfl, by decide +kernel, by decide +kernel⟩, by decide +kernel, by decide +kernel, by decide, fun _ _ _ _ _ _ us hl => match us, hl with | [_, _], _ => rfl⟩
theorem s_need_state : DefS cs hc ht es "need_state" d_need_state (top 12) :=
  ⟨⟨rfl, rfl, rfl, by decide +kernel, rfl, by decide +kernel, by decide +kernel⟩, by decide +kernel, by decide +kernel, by decide, fun _ _ _ _ _ _ us hl => match us, hl with | [_, _], _ => rfl⟩
theorem s_with_number : DefS cs hc ht es "with_number" d_with_number (top 13) :=
  ⟨⟨rfl, rfl, rfl, by decide +kernel, rfl, by decide +kernel, by decide +kernel⟩, by decide +kernel, by decide +kernel, by decide, fun _ _ _ _ _ _ us hl => match us, hl with | [_, _, _], _ => rfl⟩
theorem s_next_state : DefS cs hc ht es "next_state" d_next_state (top 14) :=
  ⟨⟨rfl, rfl, rfl, by decide +kernel, rfl, by decide +kernel, by decide +kernel⟩, by decide +kernel, by decide +kernel, by decide, fun _ _ _ _ _ _ us hl => match us, hl with | [_, _], _ => rfl⟩
theorem s_turned : DefS cs hc ht es "turned" d_turned (top 16) :=
  ⟨⟨rfl, rfl, rfl, by decide +kernel, rfl, by decide +kernel, by decide +kernel⟩, by decide +kernel, by decide +kernel, by decide, fun _ _ _ _ _ _ us hl => match us, hl with | [_, _], _ => rfl⟩
theorem s_rules_of : DefS cs hc ht es "rules_of" d_rules_of (top 18) :=
  ⟨⟨rfl, rfl, rfl, by decide +kernel, rfl, by decide +kernel, by decide +kernel⟩, by decide +kernel, by decide +kernel, by decide, fun _ _ _ _ _ _ us hl => match us, hl with | [_], _ => rfl⟩
theorem s_met : DefS cs hc ht es "met" d_met (top 19) :=
  ⟨⟨rfl, rfl, rfl, by decide +kernel, rfl, by decide +kernel, by decide +kernel⟩, by decide +kernel, by decide +kernel, by decide, fun _ _ _ _ _ _ us hl => match us, hl with | [_, _, _], _ => rfl⟩
theorem s_law_cell_at : DefS cs hc ht es "_law_cell_at" d_law_cell_at (top 21) :=
  ⟨⟨rfl, rfl, rfl, by decide +kernel, rfl, by decide +kernel, by decide +kernel⟩, by decide +kernel, by decide +kernel, by decide, fun _ _ _ _ _ _ us hl => match us, hl with | [_, _], _ => rfl⟩
theorem s_law_next : DefS cs hc ht es "_law_next" d_law_next (top 22) :=
  ⟨⟨rfl, rfl, rfl, by decide +kernel, rfl, by decide +kernel, by decide +kernel⟩, by decide +kernel, by decide +kernel, by decide, fun _ _ _ _ _ _ us hl => match us, hl with | [_], _ => rfl⟩
theorem s_law_row : DefS cs hc ht es "_law_row" d_law_row (top 23) :=
  ⟨⟨rfl, rfl, rfl, by decide +kernel, rfl, by decide +kernel, by decide +kernel⟩, by decide +kernel, by decide +kernel, by decide, fun _ _ _ _ _ _ us hl => match us, hl with | [_, _, _, _], _ => rfl⟩
theorem s_law_program : DefS cs hc ht es "_law_program" d_law_program (top 24) :=
  ⟨⟨rfl, rfl, rfl, by decide +kernel, rfl, by decide +kernel, by decide +kernel⟩, by decide +kernel, by decide +kernel, by decide, fun _ _ _ _ _ _ us hl => match us, hl with | [_], _ => rfl⟩
theorem s_law_rule : DefS cs hc ht es "_law_rule" d_law_rule (top 25) :=
  ⟨⟨rfl, rfl, rfl, by decide +kernel, rfl, by decide +kernel, by decide +kernel⟩, by decide +kernel, by decide +kernel, by decide, fun _ _ _ _ _ _ us hl => match us, hl with | [_, _, _], _ => rfl⟩
theorem s_law_places : DefS cs hc ht es "_law_places" d_law_places (top 26) :=
  ⟨⟨rfl, rfl, rfl, by decide +kernel, rfl, by decide +kernel, by decide +kernel⟩, by decide +kernel, by decide +kernel, by decide, fun _ _ _ _ _ _ us hl => match us, hl with | [_, _, _], _ => rfl⟩
theorem s_law_numbers : DefS cs hc ht es "_law_numbers" d_law_numbers (top 27) :=
  ⟨⟨rfl, rfl, rfl, by decide +kernel, rfl, by decide +kernel, by decide +kernel⟩, by decide +kernel, by decide +kernel, by decide, fun _ _ _ _ _ _ us hl => match us, hl with | [_, _], _ => rfl⟩
theorem s_law_put : DefS cs hc ht es "_law_put" d_law_put (top 28) :=
  ⟨⟨rfl, rfl, rfl, by decide +kernel, rfl, by decide +kernel, by decide +kernel⟩, by decide +kernel, by decide +kernel, by decide, fun _ _ _ _ _ _ us hl => match us, hl with | [_, _, _], _ => rfl⟩
theorem s_law_step : DefS cs hc ht es "_law_step" d_law_step (top 29) :=
  ⟨⟨rfl, rfl, rfl, by decide +kernel, rfl, by decide +kernel, by decide +kernel⟩, by decide +kernel, by decide +kernel, by decide, fun _ _ _ _ _ _ us hl => match us, hl with | [_, _], _ => rfl⟩
theorem s_law_turned : DefS cs hc ht es "_law_turned" d_law_turned (top 30) :=
  ⟨⟨rfl, rfl, rfl, by decide +kernel, rfl, by decide +kernel, by decide +kernel⟩, by decide +kernel, by decide +kernel, by decide, fun _ _ _ _ _ _ us hl => match us, hl with | [_, _], _ => rfl⟩
theorem s_law_rules : DefS cs hc ht es "_law_rules" d_law_rules (top 31) :=
  ⟨⟨rfl, rfl, rfl, by decide +kernel, rfl, by decide +kernel, by decide +kernel⟩, by decide +kernel, by decide +kernel, by decide, fun _ _ _ _ _ _ us hl => match us, hl with | [_], _ => rfl⟩
theorem s_law_met : DefS cs hc ht es "_law_met" d_law_met (top 32) :=
  ⟨⟨rfl, rfl, rfl, by decide +kernel, rfl, by decide +kernel, by decide +kernel⟩, by decide +kernel, by decide +kernel, by decide, fun _ _ _ _ _ _ us hl => match us, hl with | [_, _, _], _ => rfl⟩
theorem s_law_is : DefS cs hc ht es "_law_is" d_law_is (top 33) :=
  ⟨⟨rfl, rfl, rfl, by decide +kernel, rfl, by decide +kernel, by decide +kernel⟩, by decide +kernel, by decide +kernel, by decide, fun _ _ _ _ _ _ us hl => match us, hl with | [_, _], _ => rfl⟩
theorem s_law_refused : DefS cs hc ht es "_law_refused" d_law_refused (top 34) :=
  ⟨⟨rfl, rfl, rfl, by decide +kernel, rfl, by decide +kernel, by decide +kernel⟩, by decide +kernel, by decide +kernel, by decide, fun _ _ _ _ _ _ us hl => match us, hl with | [_, _, _], _ => rfl⟩
theorem s_law : DefS cs hc ht es "law" d_law (top 35) :=
  ⟨⟨rfl, rfl, rfl, by decide +kernel, rfl, by decide +kernel, by decide +kernel⟩, by decide +kernel, by decide +kernel, by decide, fun _ _ _ _ _ _ us hl => match us, hl with | [_], _ => rfl⟩
theorem all_mk {K : PySem.W.Frag} {h : Heap} {mg : Str → Option Value} (X : K.In h) (G : h.Ns mainGlobals mg)
    {fa0 : Addr} {od0 an0 : Option Addr} {sl0 : Array (Option Value)} {oc0 kV0 dc0 pm0 cd0 ct0 : Value}
    {fa1 : Addr} {od1 an1 : Option Addr} {sl1 : Array (Option Value)} {oc1 kV1 dc1 pm1 cd1 ct1 : Value}
    {fa2 : Addr} {od2 an2 : Option Addr} {sl2 : Array (Option Value)} {oc2 kV2 dc2 pm2 cd2 ct2 : Value}
    {fa3 : Addr} {od3 an3 : Option Addr} {sl3 : Array (Option Value)} {oc3 kV3 dc3 pm3 cd3 ct3 : Value}
    {fa4 : Addr} {od4 an4 : Option Addr} {sl4 : Array (Option Value)} {oc4 kV4 dc4 pm4 cd4 ct4 : Value}
    {fa5 : Addr} {od5 an5 : Option Addr} {sl5 : Array (Option Value)} {oc5 kV5 dc5 pm5 cd5 ct5 : Value}
    {fa6 : Addr} {od6 an6 : Option Addr} {sl6 : Array (Option Value)} {oc6 kV6 dc6 pm6 cd6 ct6 : Value}
    {fa7 : Addr} {od7 an7 : Option Addr} {sl7 : Array (Option Value)} {oc7 kV7 dc7 pm7 cd7 ct7 : Value}
    {fa8 : Addr} {od8 an8 : Option Addr} {sl8 : Array (Option Value)} {oc8 kV8 dc8 pm8 cd8 ct8 : Value}
    {fa9 : Addr} {od9 an9 : Option Addr} {sl9 : Array (Option Value)} {oc9 kV9 dc9 pm9 cd9 ct9 : Value}
    {fa10 : Addr} {od10 an10 : Option Addr} {sl10 : Array (Option Value)} {oc10 kV10 dc10 pm10 cd10 ct10 : Value}
    {fa11 : Addr} {od11 an11 : Option Addr} {sl11 : Array (Option Value)} {oc11 kV11 dc11 pm11 cd11 ct11 : Value}
    {fa12 : Addr} {od12 an12 : Option Addr} {sl12 : Array (Option Value)} {oc12 kV12 dc12 pm12 cd12 ct12 : Value}
    {fa13 : Addr} {od13 an13 : Option Addr} {sl13 : Array (Option Value)} {oc13 kV13 dc13 pm13 cd13 ct13 : Value}
    {fa14 : Addr} {od14 an14 : Option Addr} {sl14 : Array (Option Value)} {oc14 kV14 dc14 pm14 cd14 ct14 : Value}
    {fa15 : Addr} {od15 an15 : Option Addr} {sl15 : Array (Option Value)} {oc15 kV15 dc15 pm15 cd15 ct15 : Value}
    {fa16 : Addr} {od16 an16 : Option Addr} {sl16 : Array (Option Value)} {oc16 kV16 dc16 pm16 cd16 ct16 : Value}
    {fa17 : Addr} {od17 an17 : Option Addr} {sl17 : Array (Option Value)} {oc17 kV17 dc17 pm17 cd17 ct17 : Value}
    {fa18 : Addr} {od18 an18 : Option Addr} {sl18 : Array (Option Value)} {oc18 kV18 dc18 pm18 cd18 ct18 : Value}
    {fa19 : Addr} {od19 an19 : Option Addr} {sl19 : Array (Option Value)} {oc19 kV19 dc19 pm19 cd19 ct19 : Value}
    {fa20 : Addr} {od20 an20 : Option Addr} {sl20 : Array (Option Value)} {oc20 kV20 dc20 pm20 cd20 ct20 : Value}
    {fa21 : Addr} {od21 an21 : Option Addr} {sl21 : Array (Option Value)} {oc21 kV21 dc21 pm21 cd21 ct21 : Value}
    {fa22 : Addr} {od22 an22 : Option Addr} {sl22 : Array (Option Value)} {oc22 kV22 dc22 pm22 cd22 ct22 : Value}
    {C0 : Addr}
    {C1 : Addr}
    {C2 : Addr}
    {C3 : Addr}
    {C4 : Addr}
    {C5 : Addr}
    {C6 : Addr}
    {C7 : Addr}
    (a0 : PySem.W.nsIn K mainGlobals "is_among" = some (some (.ref fa0))) (l0 : K.lookup fa0 = some ⟨oc0, od0, .func (PySem.W.fnOf "is_among" "is_among" (defArgs (top 10)) (defBody (top 10)) (defScope (top 10)) .none kV0 dc0 pm0 an0 cd0 ct0), sl0⟩) (c0 : PySem.W.codeIn K cd0 "is_among" = true) (k0 : PySem.W.keepIn K (.ref fa0) = true)
    (a1 : PySem.W.nsIn K mainGlobals "is_begin" = some (some (.ref fa1))) (l1 : K.lookup fa1 = some ⟨oc1, od1, .func (PySem.W.fnOf "is_begin" "is_begin" (defArgs (top 11)) (defBody (top 11)) (defScope (top 11)) .none kV1 dc1 pm1 an1 cd1 ct1), sl1⟩) (c1 : PySem.W.codeIn K cd1 "is_begin" = true) (k1 : PySem.W.keepIn K (.ref fa1) = true)
    (a2 : PySem.W.nsIn K mainGlobals "need_state" = some (some (.ref fa2))) (l2 : K.lookup fa2 = some ⟨oc2, od2, .func (PySem.W.fnOf "need_state" "need_state" (defArgs (top 12)) (defBody (top 12)) (defScope (top 12)) .none kV2 dc2 pm2 an2 cd2 ct2), sl2⟩) (c2 : PySem.W.codeIn K cd2 "need_state" = true) (k2 : PySem.W.keepIn K (.ref fa2) = true)
    (a3 : PySem.W.nsIn K mainGlobals "with_number" = some (some (.ref fa3))) (l3 : K.lookup fa3 = some ⟨oc3, od3, .func (PySem.W.fnOf "with_number" "with_number" (defArgs (top 13)) (defBody (top 13)) (defScope (top 13)) .none kV3 dc3 pm3 an3 cd3 ct3), sl3⟩) (c3 : PySem.W.codeIn K cd3 "with_number" = true) (k3 : PySem.W.keepIn K (.ref fa3) = true)
    (a4 : PySem.W.nsIn K mainGlobals "next_state" = some (some (.ref fa4))) (l4 : K.lookup fa4 = some ⟨oc4, od4, .func (PySem.W.fnOf "next_state" "next_state" (defArgs (top 14)) (defBody (top 14)) (defScope (top 14)) .none kV4 dc4 pm4 an4 cd4 ct4), sl4⟩) (c4 : PySem.W.codeIn K cd4 "next_state" = true) (k4 : PySem.W.keepIn K (.ref fa4) = true)
    (a5 : PySem.W.nsIn K mainGlobals "turned" = some (some (.ref fa5))) (l5 : K.lookup fa5 = some ⟨oc5, od5, .func (PySem.W.fnOf "turned" "turned" (defArgs (top 16)) (defBody (top 16)) (defScope (top 16)) .none kV5 dc5 pm5 an5 cd5 ct5), sl5⟩) (c5 : PySem.W.codeIn K cd5 "turned" = true) (k5 : PySem.W.keepIn K (.ref fa5) = true)
    (a6 : PySem.W.nsIn K mainGlobals "rules_of" = some (some (.ref fa6))) (l6 : K.lookup fa6 = some ⟨oc6, od6, .func (PySem.W.fnOf "rules_of" "rules_of" (defArgs (top 18)) (defBody (top 18)) (defScope (top 18)) .none kV6 dc6 pm6 an6 cd6 ct6), sl6⟩) (c6 : PySem.W.codeIn K cd6 "rules_of" = true) (k6 : PySem.W.keepIn K (.ref fa6) = true)
    (a7 : PySem.W.nsIn K mainGlobals "met" = some (some (.ref fa7))) (l7 : K.lookup fa7 = some ⟨oc7, od7, .func (PySem.W.fnOf "met" "met" (defArgs (top 19)) (defBody (top 19)) (defScope (top 19)) .none kV7 dc7 pm7 an7 cd7 ct7), sl7⟩) (c7 : PySem.W.codeIn K cd7 "met" = true) (k7 : PySem.W.keepIn K (.ref fa7) = true)
    (a8 : PySem.W.nsIn K mainGlobals "_law_cell_at" = some (some (.ref fa8))) (l8 : K.lookup fa8 = some ⟨oc8, od8, .func (PySem.W.fnOf "_law_cell_at" "_law_cell_at" (defArgs (top 21)) (defBody (top 21)) (defScope (top 21)) .none kV8 dc8 pm8 an8 cd8 ct8), sl8⟩) (c8 : PySem.W.codeIn K cd8 "_law_cell_at" = true) (k8 : PySem.W.keepIn K (.ref fa8) = true)
    (a9 : PySem.W.nsIn K mainGlobals "_law_next" = some (some (.ref fa9))) (l9 : K.lookup fa9 = some ⟨oc9, od9, .func (PySem.W.fnOf "_law_next" "_law_next" (defArgs (top 22)) (defBody (top 22)) (defScope (top 22)) .none kV9 dc9 pm9 an9 cd9 ct9), sl9⟩) (c9 : PySem.W.codeIn K cd9 "_law_next" = true) (k9 : PySem.W.keepIn K (.ref fa9) = true)
    (a10 : PySem.W.nsIn K mainGlobals "_law_row" = some (some (.ref fa10))) (l10 : K.lookup fa10 = some ⟨oc10, od10, .func (PySem.W.fnOf "_law_row" "_law_row" (defArgs (top 23)) (defBody (top 23)) (defScope (top 23)) .none kV10 dc10 pm10 an10 cd10 ct10), sl10⟩) (c10 : PySem.W.codeIn K cd10 "_law_row" = true) (k10 : PySem.W.keepIn K (.ref fa10) = true)
    (a11 : PySem.W.nsIn K mainGlobals "_law_program" = some (some (.ref fa11))) (l11 : K.lookup fa11 = some ⟨oc11, od11, .func (PySem.W.fnOf "_law_program" "_law_program" (defArgs (top 24)) (defBody (top 24)) (defScope (top 24)) .none kV11 dc11 pm11 an11 cd11 ct11), sl11⟩) (c11 : PySem.W.codeIn K cd11 "_law_program" = true) (k11 : PySem.W.keepIn K (.ref fa11) = true)
    (a12 : PySem.W.nsIn K mainGlobals "_law_rule" = some (some (.ref fa12))) (l12 : K.lookup fa12 = some ⟨oc12, od12, .func (PySem.W.fnOf "_law_rule" "_law_rule" (defArgs (top 25)) (defBody (top 25)) (defScope (top 25)) .none kV12 dc12 pm12 an12 cd12 ct12), sl12⟩) (c12 : PySem.W.codeIn K cd12 "_law_rule" = true) (k12 : PySem.W.keepIn K (.ref fa12) = true)
    (a13 : PySem.W.nsIn K mainGlobals "_law_places" = some (some (.ref fa13))) (l13 : K.lookup fa13 = some ⟨oc13, od13, .func (PySem.W.fnOf "_law_places" "_law_places" (defArgs (top 26)) (defBody (top 26)) (defScope (top 26)) .none kV13 dc13 pm13 an13 cd13 ct13), sl13⟩) (c13 : PySem.W.codeIn K cd13 "_law_places" = true) (k13 : PySem.W.keepIn K (.ref fa13) = true)
    (a14 : PySem.W.nsIn K mainGlobals "_law_numbers" = some (some (.ref fa14))) (l14 : K.lookup fa14 = some ⟨oc14, od14, .func (PySem.W.fnOf "_law_numbers" "_law_numbers" (defArgs (top 27)) (defBody (top 27)) (defScope (top 27)) .none kV14 dc14 pm14 an14 cd14 ct14), sl14⟩) (c14 : PySem.W.codeIn K cd14 "_law_numbers" = true) (k14 : PySem.W.keepIn K (.ref fa14) = true)
    (a15 : PySem.W.nsIn K mainGlobals "_law_put" = some (some (.ref fa15))) (l15 : K.lookup fa15 = some ⟨oc15, od15, .func (PySem.W.fnOf "_law_put" "_law_put" (defArgs (top 28)) (defBody (top 28)) (defScope (top 28)) .none kV15 dc15 pm15 an15 cd15 ct15), sl15⟩) (c15 : PySem.W.codeIn K cd15 "_law_put" = true) (k15 : PySem.W.keepIn K (.ref fa15) = true)
    (a16 : PySem.W.nsIn K mainGlobals "_law_step" = some (some (.ref fa16))) (l16 : K.lookup fa16 = some ⟨oc16, od16, .func (PySem.W.fnOf "_law_step" "_law_step" (defArgs (top 29)) (defBody (top 29)) (defScope (top 29)) .none kV16 dc16 pm16 an16 cd16 ct16), sl16⟩) (c16 : PySem.W.codeIn K cd16 "_law_step" = true) (k16 : PySem.W.keepIn K (.ref fa16) = true)
    (a17 : PySem.W.nsIn K mainGlobals "_law_turned" = some (some (.ref fa17))) (l17 : K.lookup fa17 = some ⟨oc17, od17, .func (PySem.W.fnOf "_law_turned" "_law_turned" (defArgs (top 30)) (defBody (top 30)) (defScope (top 30)) .none kV17 dc17 pm17 an17 cd17 ct17), sl17⟩) (c17 : PySem.W.codeIn K cd17 "_law_turned" = true) (k17 : PySem.W.keepIn K (.ref fa17) = true)
    (a18 : PySem.W.nsIn K mainGlobals "_law_rules" = some (some (.ref fa18))) (l18 : K.lookup fa18 = some ⟨oc18, od18, .func (PySem.W.fnOf "_law_rules" "_law_rules" (defArgs (top 31)) (defBody (top 31)) (defScope (top 31)) .none kV18 dc18 pm18 an18 cd18 ct18), sl18⟩) (c18 : PySem.W.codeIn K cd18 "_law_rules" = true) (k18 : PySem.W.keepIn K (.ref fa18) = true)
    (a19 : PySem.W.nsIn K mainGlobals "_law_met" = some (some (.ref fa19))) (l19 : K.lookup fa19 = some ⟨oc19, od19, .func (PySem.W.fnOf "_law_met" "_law_met" (defArgs (top 32)) (defBody (top 32)) (defScope (top 32)) .none kV19 dc19 pm19 an19 cd19 ct19), sl19⟩) (c19 : PySem.W.codeIn K cd19 "_law_met" = true) (k19 : PySem.W.keepIn K (.ref fa19) = true)
    (a20 : PySem.W.nsIn K mainGlobals "_law_is" = some (some (.ref fa20))) (l20 : K.lookup fa20 = some ⟨oc20, od20, .func (PySem.W.fnOf "_law_is" "_law_is" (defArgs (top 33)) (defBody (top 33)) (defScope (top 33)) .none kV20 dc20 pm20 an20 cd20 ct20), sl20⟩) (c20 : PySem.W.codeIn K cd20 "_law_is" = true) (k20 : PySem.W.keepIn K (.ref fa20) = true)
    (a21 : PySem.W.nsIn K mainGlobals "_law_refused" = some (some (.ref fa21))) (l21 : K.lookup fa21 = some ⟨oc21, od21, .func (PySem.W.fnOf "_law_refused" "_law_refused" (defArgs (top 34)) (defBody (top 34)) (defScope (top 34)) .none kV21 dc21 pm21 an21 cd21 ct21), sl21⟩) (c21 : PySem.W.codeIn K cd21 "_law_refused" = true) (k21 : PySem.W.keepIn K (.ref fa21) = true)
    (a22 : PySem.W.nsIn K mainGlobals "law" = some (some (.ref fa22))) (l22 : K.lookup fa22 = some ⟨oc22, od22, .func (PySem.W.fnOf "law" "law" (defArgs (top 35)) (defBody (top 35)) (defScope (top 35)) .none kV22 dc22 pm22 an22 cd22 ct22), sl22⟩) (c22 : PySem.W.codeIn K cd22 "law" = true) (k22 : PySem.W.keepIn K (.ref fa22) = true)
    (z0 : PySem.W.nsIn K mainGlobals "len" = some none)
    (z1 : PySem.W.nsIn K mainGlobals "range" = some none)
    (z2 : PySem.W.nsIn K mainGlobals "int" = some none)
    (z3 : PySem.W.nsIn K mainGlobals "str" = some none)
    (z4 : PySem.W.nsIn K mainGlobals "tuple" = some none)
    (z5 : PySem.W.nsIn K mainGlobals "list" = some none)
    (z6 : PySem.W.nsIn K mainGlobals "all" = some none)
    (z7 : PySem.W.nsIn K mainGlobals "isinstance" = some none)
    (z8 : PySem.W.nsIn K mainGlobals "bool" = some none)
    (z9 : PySem.W.nsIn K mainGlobals "dict" = some none)
    (z10 : PySem.W.nsIn K mainGlobals "ValueError" = some none)
    (z11 : PySem.W.nsIn K mainGlobals "set" = some none)
    (z12 : PySem.W.nsIn K mainGlobals "any" = some none)
    (xg0 : PySem.W.nsIn K mainGlobals "BadState" = some (some (.ref C0)))
    (xq0 : PySem.W.excIn K C0 [.type "ValueError", .type "Exception", .type "BaseException", .type "object"] "ValueError.__new__" = true) (xk0 : PySem.W.keepIn K (.ref C0) = true) (xb0 : PySem.W.subIn K (.ref C0) (.type "BaseException") = some true) (xt0 : PySem.W.typeIn K (.ref C0) = some (.type "type"))
    (xg1 : PySem.W.nsIn K mainGlobals "SwapError" = some (some (.ref C1)))
    (xg2 : PySem.W.nsIn K mainGlobals "BadCount" = some (some (.ref C2)))
    (xg3 : PySem.W.nsIn K mainGlobals "BadPlaces" = some (some (.ref C3)))
    (xg4 : PySem.W.nsIn K mainGlobals "BadProgram" = some (some (.ref C4)))
    (xg5 : PySem.W.nsIn K mainGlobals "Busy" = some (some (.ref C5)))
    (xg6 : PySem.W.nsIn K mainGlobals "Over" = some (some (.ref C6)))
    (xg7 : PySem.W.nsIn K mainGlobals "Unsafe" = some (some (.ref C7)))
    (i1_ : PySem.W.isClsIn K C1 = true)
    (y1 : PySem.W.typeIn K (.ref C1) = some (.type "type"))
    (s1_ : PySem.W.subIn K (.ref C1) (.ref C1) = some true)
    (yb : PySem.W.subIn K (.ref C1) (.type "BaseException") = some true)
    (i2_ : PySem.W.isClsIn K C2 = true)
    (y2 : PySem.W.typeIn K (.ref C2) = some (.type "type"))
    (s2_ : PySem.W.subIn K (.ref C2) (.ref C2) = some true)
    (i3_ : PySem.W.isClsIn K C3 = true)
    (y3 : PySem.W.typeIn K (.ref C3) = some (.type "type"))
    (s3_ : PySem.W.subIn K (.ref C3) (.ref C3) = some true)
    (i4_ : PySem.W.isClsIn K C4 = true)
    (y4 : PySem.W.typeIn K (.ref C4) = some (.type "type"))
    (s4_ : PySem.W.subIn K (.ref C4) (.ref C4) = some true)
    (i0_ : PySem.W.isClsIn K C0 = true)
    (y0 : PySem.W.typeIn K (.ref C0) = some (.type "type"))
    (s0_ : PySem.W.subIn K (.ref C0) (.ref C0) = some true)
    (i5_ : PySem.W.isClsIn K C5 = true)
    (y5 : PySem.W.typeIn K (.ref C5) = some (.type "type"))
    (s5_ : PySem.W.subIn K (.ref C5) (.ref C5) = some true)
    (i6_ : PySem.W.isClsIn K C6 = true)
    (y6 : PySem.W.typeIn K (.ref C6) = some (.type "type"))
    (s6_ : PySem.W.subIn K (.ref C6) (.ref C6) = some true)
    (i7_ : PySem.W.isClsIn K C7 = true)
    (y7 : PySem.W.typeIn K (.ref C7) = some (.type "type"))
    (s7_ : PySem.W.subIn K (.ref C7) (.ref C7) = some true)
    (hg0 : PySem.W.findIn K (.ref C0) "__getattribute__" = some (some (.builtin "BaseException.__getattribute__")))
    (hk0 : PySem.W.findIn K (.ref C0) "__getattr__" = some none)
    (hs0 : PySem.W.subIn K (.ref C0) (.type "BaseException") = some true)
    (hd0 : PySem.W.hasDictIn K C0 = true)
    (ha0 : PySem.W.findIn K (.ref C0) "__class__" = some (some (.builtin "object.__class__")))
    (hn0 : PySem.W.specialIn K (.builtin "object.__class__") "__get__" = some (some (.builtin "getset_descriptor.__get__")))
    (ht0 : PySem.W.takesIn K (.builtin "object.__class__") = some true)
    (hm0 : PySem.W.mroIn K C0 (.type "object") = some true)
    (kv0 : PySem.W.subIn K (.ref C0) (.type "ValueError") = some true)
    (ko1_0 : PySem.W.subIn K (.ref C0) (.ref C1) = some true)
    (ko2_0 : PySem.W.subIn K (.ref C0) (.ref C2) = some false)
    (ko3_0 : PySem.W.subIn K (.ref C0) (.ref C3) = some false)
    (ko4_0 : PySem.W.subIn K (.ref C0) (.ref C4) = some false)
    (ko0_0 : PySem.W.subIn K (.ref C0) (.ref C0) = some true)
    (ko5_0 : PySem.W.subIn K (.ref C0) (.ref C5) = some false)
    (ko6_0 : PySem.W.subIn K (.ref C0) (.ref C6) = some false)
    (ko7_0 : PySem.W.subIn K (.ref C0) (.ref C7) = some false) :
    ∃ ea fa fd, TopOK K mg cs hc ht es ea ∧ (∀ p ∈ tab, ∃ fa fd st, DefAt K mg cs hc ht es p.1 p.2 fa fd st) ∧ DefAt K mg cs hc ht es "law" d_law fa fd (top 35) :=
  ⟨fun c => if c = "BadState" then C0 else if c = "SwapError" then C1 else if c = "BadCount" then C2 else if c = "BadPlaces" then C3 else if c = "BadProgram" then C4 else if c = "Busy" then C5 else if c = "Over" then C6 else if c = "Unsafe" then C7 else 0, _, _, ⟨List.forall_mem_cons.mpr ⟨PySem.W.mg_none_of X G z0, List.forall_mem_cons.mpr ⟨PySem.W.mg_none_of X G z1, List.forall_mem_cons.mpr ⟨PySem.W.mg_none_of X G z2, List.forall_mem_cons.mpr ⟨PySem.W.mg_none_of X G z3, List.forall_mem_cons.mpr ⟨PySem.W.mg_none_of X G z4, List.forall_mem_cons.mpr ⟨PySem.W.mg_none_of X G z5, List.forall_mem_cons.mpr ⟨PySem.W.mg_none_of X G z6, List.forall_mem_cons.mpr ⟨PySem.W.mg_none_of X G z7, List.forall_mem_cons.mpr ⟨PySem.W.mg_none_of X G z8, List.forall_mem_cons.mpr ⟨PySem.W.mg_none_of X G z9, List.forall_mem_cons.mpr ⟨PySem.W.mg_none_of X G z10, List.forall_mem_cons.mpr ⟨PySem.W.mg_none_of X G z11, List.forall_mem_cons.mpr ⟨PySem.W.mg_none_of X G z12, fun _ m => absurd m List.not_mem_nil⟩⟩⟩⟩⟩⟩⟩⟩⟩⟩⟩⟩⟩, fun x i m => absurd m List.not_mem_nil, List.forall_mem_cons.mpr ⟨⟨PySem.W.mg_of X G xg0, xq0, xk0, xb0, xt0⟩, fun _ m => absurd m List.not_mem_nil⟩, List.forall_mem_cons.mpr ⟨⟨⟨hg0, hk0, hs0, hd0, ha0, hn0, ht0, hm0⟩, (List.forall_mem_cons.mpr ⟨kit_own i1_ y1 s1_ ko1_0, List.forall_mem_cons.mpr ⟨kit_own i2_ y2 s2_ ko2_0, List.forall_mem_cons.mpr ⟨kit_own i3_ y3 s3_ ko3_0, List.forall_mem_cons.mpr ⟨kit_own i4_ y4 s4_ ko4_0, List.forall_mem_cons.mpr ⟨kit_own i0_ y0 s0_ ko0_0, List.forall_mem_cons.mpr ⟨kit_own i5_ y5 s5_ ko5_0, List.forall_mem_cons.mpr ⟨kit_own i6_ y6 s6_ ko6_0, List.forall_mem_cons.mpr ⟨kit_own i7_ y7 s7_ ko7_0, fun _ m => absurd m List.not_mem_nil⟩⟩⟩⟩⟩⟩⟩⟩), kit_val (by decide +kernel) kv0, exm_own yb i1_ y1 ko1_0⟩, fun _ m => absurd m List.not_mem_nil⟩, List.forall_mem_cons.mpr ⟨PySem.W.mg_of X G xg1, List.forall_mem_cons.mpr ⟨PySem.W.mg_of X G xg2, List.forall_mem_cons.mpr ⟨PySem.W.mg_of X G xg3, List.forall_mem_cons.mpr ⟨PySem.W.mg_of X G xg4, List.forall_mem_cons.mpr ⟨PySem.W.mg_of X G xg0, List.forall_mem_cons.mpr ⟨PySem.W.mg_of X G xg5, List.forall_mem_cons.mpr ⟨PySem.W.mg_of X G xg6, List.forall_mem_cons.mpr ⟨PySem.W.mg_of X G xg7, fun _ m => absurd m List.not_mem_nil⟩⟩⟩⟩⟩⟩⟩⟩⟩,
    List.forall_mem_cons.mpr ⟨⟨_, _, _, s_is_among.at X G a0 l0 c0 k0⟩, List.forall_mem_cons.mpr ⟨⟨_, _, _, s_is_begin.at X G a1 l1 c1 k1⟩, List.forall_mem_cons.mpr ⟨⟨_, _, _, s_need_state.at X G a2 l2 c2 k2⟩, List.forall_mem_cons.mpr ⟨⟨_, _, _, s_with_number.at X G a3 l3 c3 k3⟩, List.forall_mem_cons.mpr ⟨⟨_, _, _, s_next_state.at X G a4 l4 c4 k4⟩, List.forall_mem_cons.mpr ⟨⟨_, _, _, s_turned.at X G a5 l5 c5 k5⟩, List.forall_mem_cons.mpr ⟨⟨_, _, _, s_rules_of.at X G a6 l6 c6 k6⟩, List.forall_mem_cons.mpr ⟨⟨_, _, _, s_met.at X G a7 l7 c7 k7⟩, List.forall_mem_cons.mpr ⟨⟨_, _, _, s_law_cell_at.at X G a8 l8 c8 k8⟩, List.forall_mem_cons.mpr ⟨⟨_, _, _, s_law_next.at X G a9 l9 c9 k9⟩, List.forall_mem_cons.mpr ⟨⟨_, _, _, s_law_row.at X G a10 l10 c10 k10⟩, List.forall_mem_cons.mpr ⟨⟨_, _, _, s_law_program.at X G a11 l11 c11 k11⟩, List.forall_mem_cons.mpr ⟨⟨_, _, _, s_law_rule.at X G a12 l12 c12 k12⟩, List.forall_mem_cons.mpr ⟨⟨_, _, _, s_law_places.at X G a13 l13 c13 k13⟩, List.forall_mem_cons.mpr ⟨⟨_, _, _, s_law_numbers.at X G a14 l14 c14 k14⟩, List.forall_mem_cons.mpr ⟨⟨_, _, _, s_law_put.at X G a15 l15 c15 k15⟩, List.forall_mem_cons.mpr ⟨⟨_, _, _, s_law_step.at X G a16 l16 c16 k16⟩, List.forall_mem_cons.mpr ⟨⟨_, _, _, s_law_turned.at X G a17 l17 c17 k17⟩, List.forall_mem_cons.mpr ⟨⟨_, _, _, s_law_rules.at X G a18 l18 c18 k18⟩, List.forall_mem_cons.mpr ⟨⟨_, _, _, s_law_met.at X G a19 l19 c19 k19⟩, List.forall_mem_cons.mpr ⟨⟨_, _, _, s_law_is.at X G a20 l20 c20 k20⟩, List.forall_mem_cons.mpr ⟨⟨_, _, _, s_law_refused.at X G a21 l21 c21 k21⟩, List.forall_mem_cons.mpr ⟨⟨_, _, _, s_law.at X G a22 l22 c22 k22⟩, fun _ m => absurd m List.not_mem_nil⟩⟩⟩⟩⟩⟩⟩⟩⟩⟩⟩⟩⟩⟩⟩⟩⟩⟩⟩⟩⟩⟩⟩,
    s_law.at X G a22 l22 c22 k22⟩
end Law

namespace Law
open PySem Dv
theorem eqv_ii (i j : Int) : PyData.eqv (.int i) (.int j) = (i == j) := by simp [PyData.eqv]
theorem eqv_ss (x y : Str) : PyData.eqv (.str x) (.str y) = (x == y) := by simp [PyData.eqv]
theorem eqv_bb (x y : Bool) : PyData.eqv (.bool x) (.bool y) = (x == y) := by simp [PyData.eqv]
theorem eqv_nn : PyData.eqv .none .none = true := by simp [PyData.eqv]
theorem eqv_in (i : Int) : PyData.eqv (.int i) .none = false := by simp [PyData.eqv]
theorem eqv_ni (i : Int) : PyData.eqv .none (.int i) = false := by simp [PyData.eqv]
theorem eqv_tn (xs : List D) : PyData.eqv (.tuple xs) .none = false := by simp [PyData.eqv]
theorem eqv_nt (xs : List D) : PyData.eqv .none (.tuple xs) = false := by simp [PyData.eqv]
theorem eqv_ti (xs : List D) (i : Int) : PyData.eqv (.tuple xs) (.int i) = false := by simp [PyData.eqv]
theorem eqv_tt (xs ys : List D) : PyData.eqv (.tuple xs) (.tuple ys) = PyData.eqvAll xs ys := by simp [PyData.eqv]
theorem eqv_ll (xs ys : List D) : PyData.eqv (.list xs) (.list ys) = PyData.eqvAll xs ys := by simp [PyData.eqv]
theorem eqvAll_nil : PyData.eqvAll [] [] = true := by simp [PyData.eqvAll]
theorem eqvAll_cons (x y : D) (xs ys : List D) : PyData.eqvAll (x :: xs) (y :: ys) = (PyData.eqv x y && PyData.eqvAll xs ys) := by simp [PyData.eqvAll]
theorem eqvAll_nc (y : D) (ys : List D) : PyData.eqvAll [] (y :: ys) = false := by simp [PyData.eqvAll]
theorem eqvAll_cn (y : D) (ys : List D) : PyData.eqvAll (y :: ys) [] = false := by simp [PyData.eqvAll]
mutual
theorem eqv_refl : ∀ d : D, d.canLay0 = true → PyData.eqv d d = true
  | .none, _ => by simp [PyData.eqv]
  | .bool b, _ => by simp [PyData.eqv]
  | .int i, _ => by simp [PyData.eqv]
  | .str s, _ => by simp [PyData.eqv]
  | .list xs, h => by rw [eqv_ll]; exact eqvAll_refl xs (by simpa [PyData.canLay0] using h)
  | .tuple xs, h => by rw [eqv_tt]; exact eqvAll_refl xs (by simpa [PyData.canLay0] using h)
  | .dict _, h => by simp [PyData.canLay0] at h
theorem eqvAll_refl : ∀ ds : List D, PyData.canLayAll0 ds = true → PyData.eqvAll ds ds = true
  | [], _ => eqvAll_nil
  | d :: ds, h => by
    simp only [PyData.canLayAll0, Bool.and_eq_true] at h
    rw [eqvAll_cons, eqv_refl d h.1, eqvAll_refl ds h.2]
    rfl
end
/-- told by parts: may be compared -/
def fine (n : Nat) (d : D) : Prop := d.canLay0 = true ∧ d.depth ≤ n
theorem fine.shaped {n : Nat} {d : D} (h : fine n d) (hn : n ≤ 64) : SeqAt.shaped d = true := by
  unfold SeqAt.shaped
  rw [h.1, Bool.true_and]
  exact decide_eq_true (Nat.le_trans h.2 hn)
theorem fine.refl {n : Nat} {d : D} (h : fine n d) : PyData.eqv d d = true := eqv_refl d h.1
theorem fine_all {n : Nat} : ∀ ds : List D, (∀ d ∈ ds, fine n d) → PyData.canLayAll0 ds = true ∧ PyData.depthAll ds ≤ n
  | [], _ => ⟨by simp [PyData.canLayAll0], by simp [PyData.depthAll]⟩
  | d :: ds, h => by
    have h1 := h d (by simp)
    have h2 := fine_all ds fun x hx => h x (by simp [hx])
    refine ⟨by simp only [PyData.canLayAll0, h1.1, h2.1]; rfl, ?_⟩
    simp only [PyData.depthAll]
    exact Nat.max_le.mpr ⟨h1.2, h2.2⟩
theorem fine_tup {n : Nat} {ds : List D} (h : ∀ d ∈ ds, fine n d) : fine (n + 1) (.tuple ds) := by
  obtain ⟨h1, h2⟩ := fine_all ds h
  exact ⟨by simp only [PyData.canLay0]; exact h1, by simp only [PyData.depth]; omega⟩
theorem fine_lst {n : Nat} {ds : List D} (h : ∀ d ∈ ds, fine n d) : fine (n + 1) (.list ds) := by
  obtain ⟨h1, h2⟩ := fine_all ds h
  exact ⟨by simp only [PyData.canLay0]; exact h1, by simp only [PyData.depth]; omega⟩
theorem fine_int (n : Nat) (i : Int) : fine n (.int i) := ⟨by simp [PyData.canLay0], by simp [PyData.depth]⟩
theorem fine_none (n : Nat) : fine n .none := ⟨by simp [PyData.canLay0], by simp [PyData.depth]⟩
theorem fine_bool (n : Nat) (b : Bool) : fine n (.bool b) := ⟨by simp [PyData.canLay0], by simp [PyData.depth]⟩
theorem fine_str (n : Nat) (s : Str) (h : PyData.strOk s = true) : fine n (.str s) := ⟨by simp [PyData.canLay0, h], by simp [PyData.depth]⟩
theorem fine.up {n m : Nat} {d : D} (h : fine n d) (hm : n ≤ m) : fine m d := ⟨h.1, Nat.le_trans h.2 hm⟩
theorem shaped_int (i : Int) : SeqAt.shaped (.int i) = true := (fine_int 0 i).shaped (by decide)
theorem shaped_none : SeqAt.shaped .none = true := (fine_none 0).shaped (by decide)
theorem shaped_bool (b : Bool) : SeqAt.shaped (.bool b) = true := (fine_bool 0 b).shaped (by decide)
theorem evSs_append (Φ : Str → List D → Option EO) (fu : Nat) : ∀ (a b : List S) (st : Ev), evSs Φ fu (a ++ b) st = thenS (evSs Φ fu a st) (evSs Φ fu b)
  | [], b, st => by simp [evSs, thenS]
  | s :: a, b, st => by
    rw [List.cons_append, evSs, evSs]
    cases h : evS Φ fu s st with
    | none => simp [thenS]
    | some r =>
      cases r with
      | nx st' => simp only [thenS]; exact evSs_append Φ fu a b st'
      | rt k d => simp [thenS]
      | ex c => simp [thenS]
end Law
namespace Law
open PySem Dv
section
variable {Φ : Str → List D → Option EO} {fu : Nat} {st : Ev} {i j : Int} {k : Kd} {d : D} {c : Str} {b : Bool} {xs ys : List D}
theorem evSs_nil : evSs Φ fu [] st = some (.nx st) := by rw [evSs]
theorem evSs_cons {s : S} {ss : List S} : evSs Φ fu (s :: ss) st = thenS (evS Φ fu s st) (evSs Φ fu ss) := by rw [evSs]









theorem thenS_nx {f : Ev → Option SO} : thenS (some (.nx st)) f = f st := rfl
theorem thenS_rt {f : Ev → Option SO} : thenS (some (.rt k d)) f = some (.rt k d) := rfl
theorem thenS_ex {f : Ev → Option SO} : thenS (some (.ex c)) f = some (.ex c) := rfl
theorem onV_ok {f : Kd → D → Option SO} : onV (some (.ok k d)) f = f k d := rfl
theorem onV_ex {f : Kd → D → Option SO} : onV (some (.ex c)) f = some (.ex c) := rfl
theorem onB_ok {f : Bool → Option SO} : onB (some (.ok .shr (.bool b))) f = f b := rfl
theorem onB_ex {f : Bool → Option SO} : onB (some (.ex c)) f = some (.ex c) := rfl
theorem bindV_ok {f : Kd → D → Option EO} : bindV (some (.ok k d)) f = f k d := rfl
theorem bindV_ex {f : Kd → D → Option EO} : bindV (some (.ex c)) f = some (.ex c) := rfl
theorem boolV_ok {f : Bool → Option EO} : boolV (some (.ok .shr (.bool b))) f = f b := rfl
theorem bindA_ok {f : List (Kd × D) → Option EO} {as : List (Kd × D)} : bindA (some (.ok as)) f = f as := rfl
theorem consA_ok {as : List (Kd × D)} : consA (some (.ok k d)) (some (.ok as)) = some (.ok ((k, d) :: as)) := rfl
theorem optI_none {f : Option Int → Option EO} : optI none f = f none := rfl
theorem optI_some {f : Option Int → Option EO} : optI (some (some (.ok .shr (.int i)))) f = f (some i) := rfl
theorem outcome_nx : outcome (some (.nx st)) = some (.ok .shr .none) := rfl
theorem outcome_shr : outcome (some (.rt .shr d)) = some (.ok .shr d) := rfl
theorem outcome_frs : outcome (some (.rt .frs d)) = some (.ok .frs d) := rfl
theorem outcome_ex : outcome (some (.ex c)) = some (.ex c) := rfl
theorem setV_shr {n : Nat} : setV st n .shr d = some (.nx (st.set n (some (false, d)))) := rfl
theorem setV_frs {n : Nat} : setV st n .frs d = some (.nx (st.set n (some (true, d)))) := rfl
theorem binD_add : binD .add (.int i) (.int j) = some (.ok .shr (.int (i + j))) := rfl
theorem binD_addT : binD .add (.tuple xs) (.tuple ys) = if xs.length + ys.length ≤ lim then some (.ok .shr (.tuple (xs ++ ys))) else none := rfl
theorem binD_addL : binD .add (.list xs) (.list ys) = if xs.length + ys.length ≤ lim then some (.ok .frs (.list (xs ++ ys))) else none := rfl
theorem binD_sub : binD .sub (.int i) (.int j) = some (.ok .shr (.int (i - j))) := rfl
theorem binD_mul : binD .mul (.int i) (.int j) = if (-(2 ^ 64) < i ∧ i < 2 ^ 64) ∨ (-(2 ^ 64) < j ∧ j < 2 ^ 64) then some (.ok .shr (.int (i * j))) else none := rfl
theorem binD_mulL : binD .mul (.list xs) (.int j) = if j ≤ 1000 ∧ -1000 ≤ j ∧ xs.length * j.toNat ≤ lim then some (.ok .frs (.list (List.replicate j.toNat xs).flatten)) else none := rfl
theorem binD_fdiv : binD .fdiv (.int i) (.int j) = if 0 < j ∧ j < 1073741824 then some (.ok .shr (.int (i / j))) else none := rfl
theorem binD_mod : binD .mod (.int i) (.int j) = if 0 < j then some (.ok .shr (.int (i % j))) else none := rfl
theorem cmpD_lt : cmpD .lt (.int i) (.int j) = some (decide (i < j)) := rfl
theorem cmpD_le : cmpD .le (.int i) (.int j) = some (decide (i ≤ j)) := rfl
theorem cmpD_gt : cmpD .gt (.int i) (.int j) = some (decide (j < i)) := rfl
theorem cmpD_ge : cmpD .ge (.int i) (.int j) = some (decide (j ≤ i)) := rfl
theorem cmpD_eq {x y : D} : cmpD .eq x y = if SeqAt.shaped x = true ∧ SeqAt.shaped y = true then some (PyData.eqv x y) else none := by cases x <;> cases y <;> rfl
theorem cmpD_ne {x y : D} : cmpD .ne x y = if SeqAt.shaped x = true ∧ SeqAt.shaped y = true then some (!PyData.eqv x y) else none := by cases x <;> cases y <;> rfl
theorem cmpD_is {x : D} : cmpD .is x .none = some (isNone x) := by cases x <;> rfl
theorem cmpD_isn {x : D} : cmpD .isn x .none = some (!isNone x) := by cases x <;> rfl
theorem cmpD_memL {x : D} : cmpD .mem x (.list ys) = if SeqAt.shaped x = true ∧ SeqAt.shaped (.list ys) = true then some (ys.any fun z => PyData.eqv z x) else none := by cases x <;> rfl
theorem cmpD_nmemL {x : D} : cmpD .nmem x (.list ys) = if SeqAt.shaped x = true ∧ SeqAt.shaped (.list ys) = true then some (!ys.any fun z => PyData.eqv z x) else none := by cases x <;> rfl
theorem cmpD_memT {x : D} : cmpD .mem x (.tuple ys) = if flat x = true ∧ ys.all flat = true then some (ys.any fun z => PyData.eqv z x) else none := by cases x <;> rfl
theorem cmpD_nmemT {x : D} : cmpD .nmem x (.tuple ys) = if flat x = true ∧ ys.all flat = true then some (!ys.any fun z => PyData.eqv z x) else none := by cases x <;> rfl
theorem isN_none : isNone .none = true := rfl
theorem isN_int : isNone (.int i) = false := rfl
theorem isN_tup : isNone (.tuple xs) = false := rfl
theorem isN_lst : isNone (.list xs) = false := rfl
theorem isN_bool : isNone (.bool b) = false := rfl
theorem isN_str : isNone (.str c) = false := rfl
theorem flat_int : flat (.int i) = true := rfl
theorem flat_str : flat (.str c) = true := rfl
theorem flat_none : flat .none = true := rfl
theorem flat_bool : flat (.bool b) = true := rfl
theorem fnD_lenL : fnD .len (.list xs) = some (.ok .shr (.int xs.length)) := rfl
theorem fnD_lenT : fnD .len (.tuple xs) = some (.ok .shr (.int xs.length)) := rfl
theorem fnD_lenS : fnD .len (.dict [(.none, .list xs)]) = some (.ok .shr (.int xs.length)) := rfl
theorem fnD_intB : fnD .int (.bool b) = some (.ok .shr (.int (if b = true then 1 else 0))) := rfl
theorem fnD_str : fnD .str (.int i) = if i.natAbs < 2 ^ 64 then some (.ok .shr (.str (toString i))) else none := rfl
theorem fnD_tupL : fnD .tup (.list xs) = some (.ok .shr (.tuple xs)) := rfl
theorem fnD_tupT : fnD .tup (.tuple xs) = some (.ok .shr (.tuple xs)) := rfl
theorem fnD_lstL : fnD .lst (.list xs) = some (.ok .frs (.list xs)) := rfl
theorem fnD_lstT : fnD .lst (.tuple xs) = some (.ok .frs (.list xs)) := rfl
theorem fnD_all : fnD .all (.list xs) = (bools xs).map fun bs => .ok .shr (.bool (bs.all id)) := rfl
theorem idxD_L : idxD (.list xs) (.int i) = L2.atI xs i := rfl
theorem idxD_T : idxD (.tuple xs) (.int i) = L2.atI xs i := rfl
theorem idxD_S : idxD (.dict [(.none, .list xs)]) (.int i) = L2.atI xs i := rfl
theorem slcD_L {l h : Option Int} : slcD (.list xs) l h = some (.ok .frs (.list (cutD xs l h))) := rfl
theorem slcD_T {l h : Option Int} : slcD (.tuple xs) l h = some (.ok .shr (.tuple (cutD xs l h))) := rfl
theorem itemsD_L : itemsD (.list xs) = some xs := rfl
theorem itemsD_T : itemsD (.tuple xs) = some xs := rfl
theorem asD_shr : asD (some (.ok .shr d)) = some d := rfl
theorem asD_frs : asD (some (.ok .frs d)) = some d := rfl
theorem asB_ok : asB (some (.ok .shr (.bool b))) = some b := rfl
theorem okCall_t {as : List (Kd × D)} {r : Option EO} (h : noBrw as = true) : okCall as r = r := by unfold okCall; rw [if_pos h]
theorem okCall_s {as : List (Kd × D)} (h : scalar d = true) : okCall as (some (.ok .shr d)) = some (.ok .shr d) := by
  unfold okCall
  split
  · rfl
  · simp only [h, if_true]
theorem noBrw_nil : noBrw [] = true := rfl
theorem noBrw_shr {as : List (Kd × D)} : noBrw ((.shr, d) :: as) = noBrw as := by simp [noBrw]
theorem noBrw_frs {as : List (Kd × D)} : noBrw ((.frs, d) :: as) = noBrw as := by simp [noBrw]
theorem tests_nil : tests [] = some true := rfl
theorem tests_one {r : Option EO} : tests [r] = asB r := rfl
theorem sized_some {ys : List D} (h : ys.length ≤ lim) : sized (some ys) = some (.ok .frs (.list ys)) := by simp [sized, h]
theorem at0 : L2.atI (d :: xs) 0 = some d := by simp [L2.atI, L2.ixN]
theorem at1 {e : D} : L2.atI (d :: e :: xs) 1 = some e := by
  have : (1 : Int) < xs.length + 1 + 1 := by omega
  simp [L2.atI, L2.ixN, this]
theorem at2 {e f : D} : L2.atI (d :: e :: f :: xs) 2 = some f := by
  have : (2 : Int) < xs.length + 1 + 1 + 1 := by omega
  simp [L2.atI, L2.ixN, this]
theorem atN {n : Nat} {α : Type} {ys : List α} {y : α} (h : ys[n]? = some y) : L2.atI ys (n : Int) = some y := L2.atI_nat h
theorem atL {α : Type} {ys : List α} {y : α} (h : ys.getLast? = some y) : L2.atI ys (-1) = some y := by
  obtain ⟨zs, rfl⟩ := List.getLast?_eq_some_iff.mp h
  exact L2.atI_last zs y
theorem lim_eq : lim = 100000 := rfl
end
end Law
namespace Law
open PySem Dv
section
variable {Φ : Str → List D → Option EO} {fu : Nat} {st st' : Ev} {i j : Int} {k : Kd} {d : D} {c : Str} {b : Bool} {xs ys : List D}
/-- the bounds of a product, shut -/
def mulOk (i j : Int) : Prop := (-(2 ^ 64) < i ∧ i < 2 ^ 64) ∨ (-(2 ^ 64) < j ∧ j < 2 ^ 64)
instance : Decidable (mulOk i j) := by unfold mulOk; infer_instance
theorem mulOk_r (h1 : -18446744073709551616 < j) (h2 : j < 18446744073709551616) : mulOk i j := Or.inr ⟨by simpa using h1, by simpa using h2⟩
theorem mulOk_l (h1 : -18446744073709551616 < i) (h2 : i < 18446744073709551616) : mulOk i j := Or.inl ⟨by simpa using h1, by simpa using h2⟩
theorem binD_mul' (h : mulOk i j) : binD .mul (.int i) (.int j) = some (.ok .shr (.int (i * j))) := by rw [binD_mul]; exact if_pos h
theorem binD_mulr (h1 : -18446744073709551616 < j) (h2 : j < 18446744073709551616) : binD .mul (.int i) (.int j) = some (.ok .shr (.int (i * j))) := binD_mul' (mulOk_r h1 h2)
theorem binD_mull (h1 : -18446744073709551616 < i) (h2 : i < 18446744073709551616) : binD .mul (.int i) (.int j) = some (.ok .shr (.int (i * j))) := binD_mul' (mulOk_l h1 h2)
theorem binD_fdiv' (h1 : 0 < j) (h2 : j < 1073741824) : binD .fdiv (.int i) (.int j) = some (.ok .shr (.int (i / j))) := by rw [binD_fdiv]; exact if_pos ⟨h1, h2⟩
theorem binD_mod' (h1 : 0 < j) : binD .mod (.int i) (.int j) = some (.ok .shr (.int (i % j))) := by rw [binD_mod]; exact if_pos h1
theorem cmpD_eqi : cmpD .eq (.int i) (.int j) = some (i == j) := by rw [cmpD_eq, if_pos ⟨shaped_int i, shaped_int j⟩, eqv_ii]
theorem cmpD_nei : cmpD .ne (.int i) (.int j) = some (!(i == j)) := by rw [cmpD_ne, if_pos ⟨shaped_int i, shaped_int j⟩, eqv_ii]
theorem cmpD_eqs {x y : Str} (hx : PyData.strOk x = true) (hy : PyData.strOk y = true) : cmpD .eq (.str x) (.str y) = some (x == y) := by
  rw [cmpD_eq, if_pos ⟨(fine_str 0 x hx).shaped (by decide), (fine_str 0 y hy).shaped (by decide)⟩, eqv_ss]
theorem cmpD_eqf {n m : Nat} {x y : D} (hx : fine n x) (hy : fine m y) (hn : n ≤ 64) (hm : m ≤ 64) : cmpD .eq x y = some (PyData.eqv x y) := by
  rw [cmpD_eq, if_pos ⟨hx.shaped hn, hy.shaped hm⟩]
theorem cmpD_nef {n m : Nat} {x y : D} (hx : fine n x) (hy : fine m y) (hn : n ≤ 64) (hm : m ≤ 64) : cmpD .ne x y = some (!PyData.eqv x y) := by
  rw [cmpD_ne, if_pos ⟨hx.shaped hn, hy.shaped hm⟩]
theorem atNn {n : Nat} {α : Type} {ys : List α} (h : n < ys.length) : L2.atI ys (n : Int) = some ys[n] := atN (List.getElem?_eq_getElem h)
/-- one statement, and then the rest -/
theorem seq {s : S} {ss : List S} (h : evS Φ fu s st = some (.nx st')) : evSs Φ fu (s :: ss) st = evSs Φ fu ss st' := by rw [evSs_cons, h, thenS_nx]
theorem seq_rt {s : S} {ss : List S} (h : evS Φ fu s st = some (.rt k d)) : evSs Φ fu (s :: ss) st = some (.rt k d) := by rw [evSs_cons, h, thenS_rt]
theorem seq_ex {s : S} {ss : List S} (h : evS Φ fu s st = some (.ex c)) : evSs Φ fu (s :: ss) st = some (.ex c) := by rw [evSs_cons, h, thenS_ex]
theorem forR_of {m : Nat} {i : Nat} {n : E} {bd : List S} (h : evE Φ n st = some (.ok .shr (.int m))) (hm : m ≤ 1000000) : evS Φ fu (.forR i n bd) st = forGo (fun d st => evSs Φ fu bd (st.set i (some (false, d)))) (rngD m) st := by
  rw [evS, h, onV_ok]
  show (if (m : Int) ≤ 1000000 ∧ -1000000 ≤ (m : Int) then _ else none) = _
  rw [if_pos (by omega), Int.toNat_natCast]
theorem for_ofT {i : Nat} {n : E} {bd : List S} (h : evE Φ n st = some (.ok .shr (.tuple xs))) : evS Φ fu (.for i n bd) st = forGo (fun d st => evSs Φ fu bd (st.set i (some (false, d)))) xs st := by
  rw [evS, h, onV_ok]; rfl
theorem for_ofL {i : Nat} {n : E} {bd : List S} (h : evE Φ n st = some (.ok .shr (.list xs))) : evS Φ fu (.for i n bd) st = forGo (fun d st => evSs Φ fu bd (st.set i (some (false, d)))) xs st := by
  rw [evS, h, onV_ok]; rfl
/-- a loop keeps what each turn keeps -/
theorem forGo_inv {f : D → Ev → Option SO} (Inv : Nat → Ev → Prop) : ∀ (ds : List D) (k : Nat) (st : Ev), (∀ (j : Nat) (x : D) (st : Ev), ds[j]? = some x → Inv (k + j) st → ∃ st', f x st = some (.nx st') ∧ Inv (k + j + 1) st') → Inv k st →
    ∃ st', forGo f ds st = some (.nx st') ∧ Inv (k + ds.length) st'
  | [], k, st, _, h => ⟨st, rfl, h⟩
  | d :: ds, k, st, hs, h => by
    obtain ⟨s1, e1, h1⟩ := hs 0 d st rfl h
    obtain ⟨s2, e2, h2⟩ := forGo_inv Inv ds (k + 1) s1 (fun j x s hx hi => by
      have := hs (j + 1) x s (by simpa using hx) (by rw [show k + (j + 1) = k + 1 + j by omega]; exact hi)
      rw [show k + (j + 1) + 1 = k + 1 + j + 1 by omega] at this
      exact this) h1
    refine ⟨s2, ?_, by rw [List.length_cons, show k + (ds.length + 1) = k + 1 + ds.length by omega]; exact h2⟩
    rw [forGo, e1, thenS_nx, e2]
theorem rngD_len (m : Nat) : (rngD m).length = m := by simp [rngD]
theorem rngD_at {m j : Nat} {x : D} (h : (rngD m)[j]? = some x) : j < m ∧ x = .int (j : Int) := by
  have hj : j < (rngD m).length := (List.getElem?_eq_some_iff.mp h).1
  rw [rngD_len] at hj
  refine ⟨hj, ?_⟩
  simp [rngD, hj] at h
  exact h.symm
/-- a loop over a range -/
theorem forGo_rng {f : D → Ev → Option SO} (Inv : Nat → Ev → Prop) (m : Nat) (st : Ev) (hs : ∀ (j : Nat) (st : Ev), j < m → Inv j st → ∃ st', f (.int (j : Int)) st = some (.nx st') ∧ Inv (j + 1) st') (h : Inv 0 st) :
    ∃ st', forGo f (rngD m) st = some (.nx st') ∧ Inv m st' := by
  obtain ⟨s, e, hi⟩ := forGo_inv (f := f) Inv (rngD m) 0 st (fun j x st hx hi => by
    obtain ⟨hj, rfl⟩ := rngD_at hx
    rw [Nat.zero_add] at hi ⊢
    exact hs j st hj hi) h
  rw [rngD_len, Nat.zero_add] at hi
  exact ⟨s, e, hi⟩
/-- a loop over a list, no way out -/
theorem forGo_lst {f : D → Ev → Option SO} (Inv : Nat → Ev → Prop) (ds : List D) (st : Ev) (hs : ∀ (j : Nat) (x : D) (st : Ev), ds[j]? = some x → Inv j st → ∃ st', f x st = some (.nx st') ∧ Inv (j + 1) st') (h : Inv 0 st) :
    ∃ st', forGo f ds st = some (.nx st') ∧ Inv ds.length st' := by
  obtain ⟨s, e, hi⟩ := forGo_inv (f := f) Inv ds 0 st (fun j x st hx hi => by
    rw [Nat.zero_add] at hi ⊢
    exact hs j x st hx hi) h
  rw [Nat.zero_add] at hi
  exact ⟨s, e, hi⟩
/-- a comprehension that lets each one through -/
theorem compGo_all {tt : D → Option Bool} {te : D → Option D} {g : D → D} : ∀ ds : List D, (∀ d ∈ ds, tt d = some true ∧ te d = some (g d)) → compGo tt te ds = some (ds.map g)
  | [], _ => rfl
  | d :: ds, h => by
    rw [compGo, (h d (by simp)).1, (h d (by simp)).2, compGo_all ds (fun x hx => h x (by simp [hx]))]
    rfl
/-- as `compGo_all`, the values told by a property alone -/
theorem compGo_ex {tt : D → Option Bool} {te : D → Option D} (P : D → D → Prop) : ∀ ds : List D, (∀ d ∈ ds, tt d = some true ∧ ∃ y, te d = some y ∧ P d y) → ∃ ys, compGo tt te ds = some ys ∧ ys.length = ds.length ∧ ∀ (j : Nat) (x y : D), ds[j]? = some x → ys[j]? = some y → P x y
  | [], _ => ⟨[], rfl, rfl, fun _ _ _ h => by simp at h⟩
  | d :: ds, h => by
    obtain ⟨ys, e, hl, hp⟩ := compGo_ex P ds (fun x hx => h x (by simp [hx]))
    obtain ⟨h1, y, h2, h3⟩ := h d (by simp)
    refine ⟨y :: ys, by rw [compGo, h1, h2, e]; rfl, by simp [hl], fun j x z hx hz => ?_⟩
    cases j with
    | zero => simp at hx hz; subst hx; subst hz; exact h3
    | succ j => exact hp j x z (by simpa using hx) (by simpa using hz)
theorem runD_rt {f : DefI} {ds : List D} {x : D} (h : ds.length = f.np) (he : evSs Φ fu f.body (Dv.start f ds) = some (.rt .shr x)) : runD Φ fu f ds = some (.ok .shr x) := by
  unfold runD; rw [if_pos h, he]; rfl
theorem runD_frs {f : DefI} {ds : List D} {x : D} (h : ds.length = f.np) (he : evSs Φ fu f.body (Dv.start f ds) = some (.rt .frs x)) : runD Φ fu f ds = some (.ok .frs x) := by
  unfold runD; rw [if_pos h, he]; rfl
theorem runD_ex {f : DefI} {ds : List D} {x : Str} (h : ds.length = f.np) (he : evSs Φ fu f.body (Dv.start f ds) = some (.ex x)) : runD Φ fu f ds = some (.ex x) := by
  unfold runD; rw [if_pos h, he]; rfl
end
end Law
namespace Law
open PySem Dv
/-! ### programs as plain data -/
inductive Row where
  | put (b n : Nat) | more (b : Nat) | copy (b c : Nat) | tell (b : Nat) | go (r : Nat) | ask (b r : Nat) | stop
def Row.d : Row → D
  | .put b n => .tuple [.str "put", .int b, .int n]
  | .more b => .tuple [.str "more", .int b]
  | .copy b c => .tuple [.str "copy", .int b, .int c]
  | .tell b => .tuple [.str "tell", .int b]
  | .go r => .tuple [.str "go", .int r]
  | .ask b r => .tuple [.str "ask", .int b, .int r]
  | .stop => .tuple [.str "stop"]
def RowOk (boxes most many : Nat) : Row → Prop
  | .put b n => b < boxes ∧ n ≤ most
  | .more b => b < boxes
  | .copy b c => b < boxes ∧ c < boxes
  | .tell b => b < boxes
  | .go r => r < many
  | .ask b r => b < boxes ∧ r < many
  | .stop => True
def isEnd : Row → Prop
  | .go _ => True
  | .stop => True
  | _ => False
structure Prog where
  boxes : Nat
  most : Nat
  rows : List Row
def Prog.d (p : Prog) : D := .tuple [.int p.boxes, .int p.most, .list (p.rows.map Row.d)]
structure Prog.Ok (p : Prog) : Prop where
  boxes : p.boxes ≤ 3
  most0 : 1 ≤ p.most
  most : p.most ≤ 4
  rows0 : 1 ≤ p.rows.length
  rows : p.rows.length ≤ 16
  row : ∀ r ∈ p.rows, RowOk p.boxes p.most p.rows.length r
  last : ∀ r, p.rows.getLast? = some r → isEnd r

/-! ### the law's own draws -/
def nextS (c : Int) : Int := (c * 48271 + 11) % 2147483647
theorem nextS_nn (c : Int) : 0 ≤ nextS c := Int.emod_nonneg _ (by decide)
theorem next_ok {fu n : Nat} (c : Int) : run tab fu (n + 1) "_law_next" [.int c] = some (.ok .shr (.int (nextS c))) := by
  rw [run_law_next]
  simp [runD, d_law_next, Dv.start, evSs, evS, evE, bindV, binD, onV, thenS, outcome, nextS]
theorem cell_ok {fu n : Nat} (ns : List Int) (k : Nat) : run tab fu (n + 1) "_law_cell_at" [scrD ns, .int k] = some (.ok .shr (.int (ns.getD k 0))) := by
  rw [run_law_cell_at]
  simp [runD, d_law_cell_at, Dv.start, evSs, evS, evE, bindV, binD, onV, onB, thenS, outcome, cmpD, fnD, scrD, scrOf, idxD, L2.atI, L2.ixN]
  by_cases h : k < ns.length
  · simp [h, thenS]
  · simp [h, thenS]
theorem mod_nat (s : Int) {m : Nat} (h : 0 < m) : ∃ k : Nat, s % (m : Int) = k ∧ k < m := by
  have h1 : 0 ≤ s % (m : Int) := Int.emod_nonneg _ (by omega)
  have h2 : s % (m : Int) < m := Int.emod_lt_of_pos _ (by omega)
  exact ⟨(s % (m : Int)).toNat, by omega, by omega⟩
theorem ten (s : Int) : s % 10 = 0 ∨ s % 10 = 1 ∨ s % 10 = 2 ∨ s % 10 = 3 ∨ s % 10 = 4 ∨ s % 10 = 5 ∨ s % 10 = 6 ∨ s % 10 = 7 ∨ s % 10 = 8 ∨ s % 10 = 9 := by omega
theorem row_ok {fu n : Nat} (s : Int) (boxes most many : Nat) (hm : 0 < many) : ∃ r, RowOk boxes most many r ∧ run tab fu (n + 1) "_law_row" [.int s, .int boxes, .int most, .int many] = some (.ok .shr r.d) := by
  rw [run_law_row]
  obtain ⟨r0, e0, h0⟩ := mod_nat (s / 10) hm
  obtain ⟨r1, e1, h1⟩ := mod_nat (s / 50) hm
  obtain ⟨n1, e2, h2⟩ := mod_nat (s / 50) (m := most + 1) (by omega)
  have e2' : s / 50 % ((most : Int) + 1) = n1 := by simpa using e2
  have hp : (0 : Int) < most + 1 := by omega
  by_cases hb : boxes = 0
  · subst hb
    by_cases h7 : s % 10 < 7
    · have h : s % 10 / 7 = 0 := by omega
      refine ⟨.go r0, h0, ?_⟩
      simp [runD, Dv.start, evSs_nil, evSs_cons, evS, evE, evL, evB, evAnd, evOr, evO, onOwn, guardO, setAll, thenS_nx, thenS_rt, thenS_ex, onV_ok, onV_ex, onB_ok, onB_ex, bindV_ok, bindV_ex, boolV_ok, bindA_ok, consA_ok, optI_none, optI_some, outcome_nx, outcome_shr, outcome_frs, outcome_ex, setV_shr, setV_frs, binD_add, binD_addT, binD_addL, binD_sub, binD_mulr, binD_mull, binD_fdiv', binD_mod', cmpD_lt, cmpD_le, cmpD_gt, cmpD_ge, cmpD_eqi, cmpD_nei, cmpD_is, cmpD_isn, cmpD_memL, cmpD_nmemL, cmpD_memT, cmpD_nmemT, isN_none, isN_int, isN_tup, isN_lst, isN_bool, isN_str, flat_int, flat_str, flat_none, flat_bool, fnD_lenL, fnD_lenT, fnD_lenS, fnD_intB, fnD_str, fnD_tupL, fnD_tupT, fnD_lstL, fnD_lstT, fnD_all, idxD_L, idxD_T, idxD_S, slcD_L, slcD_T, itemsD_L, itemsD_T, asD_shr, asD_frs, asB_ok, okCall_t, noBrw_nil, noBrw_shr, noBrw_frs, tests_nil, tests_one, at0, at1, at2, lim_eq, d_law_row, eqv_ii, eqv_nn, eqv_in, eqv_ni, eqv_bb, eqv_ss, shaped_int, shaped_none, shaped_bool, h, hm, e0, Row.d]
    · have h : s % 10 / 7 = 1 := by omega
      refine ⟨.stop, trivial, ?_⟩
      simp [runD, Dv.start, evSs_nil, evSs_cons, evS, evE, evL, evB, evAnd, evOr, evO, onOwn, guardO, setAll, thenS_nx, thenS_rt, thenS_ex, onV_ok, onV_ex, onB_ok, onB_ex, bindV_ok, bindV_ex, boolV_ok, bindA_ok, consA_ok, optI_none, optI_some, outcome_nx, outcome_shr, outcome_frs, outcome_ex, setV_shr, setV_frs, binD_add, binD_addT, binD_addL, binD_sub, binD_mulr, binD_mull, binD_fdiv', binD_mod', cmpD_lt, cmpD_le, cmpD_gt, cmpD_ge, cmpD_eqi, cmpD_nei, cmpD_is, cmpD_isn, cmpD_memL, cmpD_nmemL, cmpD_memT, cmpD_nmemT, isN_none, isN_int, isN_tup, isN_lst, isN_bool, isN_str, flat_int, flat_str, flat_none, flat_bool, fnD_lenL, fnD_lenT, fnD_lenS, fnD_intB, fnD_str, fnD_tupL, fnD_tupT, fnD_lstL, fnD_lstT, fnD_all, idxD_L, idxD_T, idxD_S, slcD_L, slcD_T, itemsD_L, itemsD_T, asD_shr, asD_frs, asB_ok, okCall_t, noBrw_nil, noBrw_shr, noBrw_frs, tests_nil, tests_one, at0, at1, at2, lim_eq, d_law_row, eqv_ii, eqv_nn, eqv_in, eqv_ni, eqv_bb, eqv_ss, shaped_int, shaped_none, shaped_bool, h, hm, e0, Row.d]
  · have hb' : 0 < boxes := by omega
    obtain ⟨b, e3, h3⟩ := mod_nat (s / 10) hb'
    obtain ⟨c, e4, h4⟩ := mod_nat (s / 50) hb'
    by_cases g2 : s % 10 < 2
    · refine ⟨.put b n1, ⟨h3, by omega⟩, ?_⟩
      simp [runD, Dv.start, evSs_nil, evSs_cons, evS, evE, evL, evB, evAnd, evOr, evO, onOwn, guardO, setAll, thenS_nx, thenS_rt, thenS_ex, onV_ok, onV_ex, onB_ok, onB_ex, bindV_ok, bindV_ex, boolV_ok, bindA_ok, consA_ok, optI_none, optI_some, outcome_nx, outcome_shr, outcome_frs, outcome_ex, setV_shr, setV_frs, binD_add, binD_addT, binD_addL, binD_sub, binD_mulr, binD_mull, binD_fdiv', binD_mod', cmpD_lt, cmpD_le, cmpD_gt, cmpD_ge, cmpD_eqi, cmpD_nei, cmpD_is, cmpD_isn, cmpD_memL, cmpD_nmemL, cmpD_memT, cmpD_nmemT, isN_none, isN_int, isN_tup, isN_lst, isN_bool, isN_str, flat_int, flat_str, flat_none, flat_bool, fnD_lenL, fnD_lenT, fnD_lenS, fnD_intB, fnD_str, fnD_tupL, fnD_tupT, fnD_lstL, fnD_lstT, fnD_all, idxD_L, idxD_T, idxD_S, slcD_L, slcD_T, itemsD_L, itemsD_T, asD_shr, asD_frs, asB_ok, okCall_t, noBrw_nil, noBrw_shr, noBrw_frs, tests_nil, tests_one, at0, at1, at2, lim_eq, d_law_row, eqv_ii, eqv_nn, eqv_in, eqv_ni, eqv_bb, eqv_ss, shaped_int, shaped_none, shaped_bool, g2, hm, hb, hb', hp, e2', e3, Row.d]
    by_cases g4 : s % 10 < 4
    · refine ⟨.more b, h3, ?_⟩
      simp [runD, Dv.start, evSs_nil, evSs_cons, evS, evE, evL, evB, evAnd, evOr, evO, onOwn, guardO, setAll, thenS_nx, thenS_rt, thenS_ex, onV_ok, onV_ex, onB_ok, onB_ex, bindV_ok, bindV_ex, boolV_ok, bindA_ok, consA_ok, optI_none, optI_some, outcome_nx, outcome_shr, outcome_frs, outcome_ex, setV_shr, setV_frs, binD_add, binD_addT, binD_addL, binD_sub, binD_mulr, binD_mull, binD_fdiv', binD_mod', cmpD_lt, cmpD_le, cmpD_gt, cmpD_ge, cmpD_eqi, cmpD_nei, cmpD_is, cmpD_isn, cmpD_memL, cmpD_nmemL, cmpD_memT, cmpD_nmemT, isN_none, isN_int, isN_tup, isN_lst, isN_bool, isN_str, flat_int, flat_str, flat_none, flat_bool, fnD_lenL, fnD_lenT, fnD_lenS, fnD_intB, fnD_str, fnD_tupL, fnD_tupT, fnD_lstL, fnD_lstT, fnD_all, idxD_L, idxD_T, idxD_S, slcD_L, slcD_T, itemsD_L, itemsD_T, asD_shr, asD_frs, asB_ok, okCall_t, noBrw_nil, noBrw_shr, noBrw_frs, tests_nil, tests_one, at0, at1, at2, lim_eq, d_law_row, eqv_ii, eqv_nn, eqv_in, eqv_ni, eqv_bb, eqv_ss, shaped_int, shaped_none, shaped_bool, g2, g4, hm, hb, hb', hp, e3, Row.d]
    by_cases f4 : s % 10 = 4
    · refine ⟨.copy b c, ⟨h3, h4⟩, ?_⟩
      simp [runD, Dv.start, evSs_nil, evSs_cons, evS, evE, evL, evB, evAnd, evOr, evO, onOwn, guardO, setAll, thenS_nx, thenS_rt, thenS_ex, onV_ok, onV_ex, onB_ok, onB_ex, bindV_ok, bindV_ex, boolV_ok, bindA_ok, consA_ok, optI_none, optI_some, outcome_nx, outcome_shr, outcome_frs, outcome_ex, setV_shr, setV_frs, binD_add, binD_addT, binD_addL, binD_sub, binD_mulr, binD_mull, binD_fdiv', binD_mod', cmpD_lt, cmpD_le, cmpD_gt, cmpD_ge, cmpD_eqi, cmpD_nei, cmpD_is, cmpD_isn, cmpD_memL, cmpD_nmemL, cmpD_memT, cmpD_nmemT, isN_none, isN_int, isN_tup, isN_lst, isN_bool, isN_str, flat_int, flat_str, flat_none, flat_bool, fnD_lenL, fnD_lenT, fnD_lenS, fnD_intB, fnD_str, fnD_tupL, fnD_tupT, fnD_lstL, fnD_lstT, fnD_all, idxD_L, idxD_T, idxD_S, slcD_L, slcD_T, itemsD_L, itemsD_T, asD_shr, asD_frs, asB_ok, okCall_t, noBrw_nil, noBrw_shr, noBrw_frs, tests_nil, tests_one, at0, at1, at2, lim_eq, d_law_row, eqv_ii, eqv_nn, eqv_in, eqv_ni, eqv_bb, eqv_ss, shaped_int, shaped_none, shaped_bool, f4, hm, hb, hb', hp, e3, e4, Row.d]
    by_cases g7 : s % 10 < 7
    · refine ⟨.tell b, h3, ?_⟩
      simp [runD, Dv.start, evSs_nil, evSs_cons, evS, evE, evL, evB, evAnd, evOr, evO, onOwn, guardO, setAll, thenS_nx, thenS_rt, thenS_ex, onV_ok, onV_ex, onB_ok, onB_ex, bindV_ok, bindV_ex, boolV_ok, bindA_ok, consA_ok, optI_none, optI_some, outcome_nx, outcome_shr, outcome_frs, outcome_ex, setV_shr, setV_frs, binD_add, binD_addT, binD_addL, binD_sub, binD_mulr, binD_mull, binD_fdiv', binD_mod', cmpD_lt, cmpD_le, cmpD_gt, cmpD_ge, cmpD_eqi, cmpD_nei, cmpD_is, cmpD_isn, cmpD_memL, cmpD_nmemL, cmpD_memT, cmpD_nmemT, isN_none, isN_int, isN_tup, isN_lst, isN_bool, isN_str, flat_int, flat_str, flat_none, flat_bool, fnD_lenL, fnD_lenT, fnD_lenS, fnD_intB, fnD_str, fnD_tupL, fnD_tupT, fnD_lstL, fnD_lstT, fnD_all, idxD_L, idxD_T, idxD_S, slcD_L, slcD_T, itemsD_L, itemsD_T, asD_shr, asD_frs, asB_ok, okCall_t, noBrw_nil, noBrw_shr, noBrw_frs, tests_nil, tests_one, at0, at1, at2, lim_eq, d_law_row, eqv_ii, eqv_nn, eqv_in, eqv_ni, eqv_bb, eqv_ss, shaped_int, shaped_none, shaped_bool, g2, g4, f4, g7, hm, hb, hb', hp, e3, Row.d]
    by_cases f7 : s % 10 = 7
    · rcases (show s / 20 % 2 = 0 ∨ s / 20 % 2 = 1 by omega) with g | g
      · refine ⟨.go r1, h1, ?_⟩
        simp [runD, Dv.start, evSs_nil, evSs_cons, evS, evE, evL, evB, evAnd, evOr, evO, onOwn, guardO, setAll, thenS_nx, thenS_rt, thenS_ex, onV_ok, onV_ex, onB_ok, onB_ex, bindV_ok, bindV_ex, boolV_ok, bindA_ok, consA_ok, optI_none, optI_some, outcome_nx, outcome_shr, outcome_frs, outcome_ex, setV_shr, setV_frs, binD_add, binD_addT, binD_addL, binD_sub, binD_mulr, binD_mull, binD_fdiv', binD_mod', cmpD_lt, cmpD_le, cmpD_gt, cmpD_ge, cmpD_eqi, cmpD_nei, cmpD_is, cmpD_isn, cmpD_memL, cmpD_nmemL, cmpD_memT, cmpD_nmemT, isN_none, isN_int, isN_tup, isN_lst, isN_bool, isN_str, flat_int, flat_str, flat_none, flat_bool, fnD_lenL, fnD_lenT, fnD_lenS, fnD_intB, fnD_str, fnD_tupL, fnD_tupT, fnD_lstL, fnD_lstT, fnD_all, idxD_L, idxD_T, idxD_S, slcD_L, slcD_T, itemsD_L, itemsD_T, asD_shr, asD_frs, asB_ok, okCall_t, noBrw_nil, noBrw_shr, noBrw_frs, tests_nil, tests_one, at0, at1, at2, lim_eq, d_law_row, eqv_ii, eqv_nn, eqv_in, eqv_ni, eqv_bb, eqv_ss, shaped_int, shaped_none, shaped_bool, f7, hm, hb, hb', hp, e1, e3, g, Row.d]
      · refine ⟨.stop, trivial, ?_⟩
        simp [runD, Dv.start, evSs_nil, evSs_cons, evS, evE, evL, evB, evAnd, evOr, evO, onOwn, guardO, setAll, thenS_nx, thenS_rt, thenS_ex, onV_ok, onV_ex, onB_ok, onB_ex, bindV_ok, bindV_ex, boolV_ok, bindA_ok, consA_ok, optI_none, optI_some, outcome_nx, outcome_shr, outcome_frs, outcome_ex, setV_shr, setV_frs, binD_add, binD_addT, binD_addL, binD_sub, binD_mulr, binD_mull, binD_fdiv', binD_mod', cmpD_lt, cmpD_le, cmpD_gt, cmpD_ge, cmpD_eqi, cmpD_nei, cmpD_is, cmpD_isn, cmpD_memL, cmpD_nmemL, cmpD_memT, cmpD_nmemT, isN_none, isN_int, isN_tup, isN_lst, isN_bool, isN_str, flat_int, flat_str, flat_none, flat_bool, fnD_lenL, fnD_lenT, fnD_lenS, fnD_intB, fnD_str, fnD_tupL, fnD_tupT, fnD_lstL, fnD_lstT, fnD_all, idxD_L, idxD_T, idxD_S, slcD_L, slcD_T, itemsD_L, itemsD_T, asD_shr, asD_frs, asB_ok, okCall_t, noBrw_nil, noBrw_shr, noBrw_frs, tests_nil, tests_one, at0, at1, at2, lim_eq, d_law_row, eqv_ii, eqv_nn, eqv_in, eqv_ni, eqv_bb, eqv_ss, shaped_int, shaped_none, shaped_bool, f7, hm, hb, hb', hp, e1, e3, g, Row.d]
    · refine ⟨.ask b r1, ⟨h3, h1⟩, ?_⟩
      simp [runD, Dv.start, evSs_nil, evSs_cons, evS, evE, evL, evB, evAnd, evOr, evO, onOwn, guardO, setAll, thenS_nx, thenS_rt, thenS_ex, onV_ok, onV_ex, onB_ok, onB_ex, bindV_ok, bindV_ex, boolV_ok, bindA_ok, consA_ok, optI_none, optI_some, outcome_nx, outcome_shr, outcome_frs, outcome_ex, setV_shr, setV_frs, binD_add, binD_addT, binD_addL, binD_sub, binD_mulr, binD_mull, binD_fdiv', binD_mod', cmpD_lt, cmpD_le, cmpD_gt, cmpD_ge, cmpD_eqi, cmpD_nei, cmpD_is, cmpD_isn, cmpD_memL, cmpD_nmemL, cmpD_memT, cmpD_nmemT, isN_none, isN_int, isN_tup, isN_lst, isN_bool, isN_str, flat_int, flat_str, flat_none, flat_bool, fnD_lenL, fnD_lenT, fnD_lenS, fnD_intB, fnD_str, fnD_tupL, fnD_tupT, fnD_lstL, fnD_lstT, fnD_all, idxD_L, idxD_T, idxD_S, slcD_L, slcD_T, itemsD_L, itemsD_T, asD_shr, asD_frs, asB_ok, okCall_t, noBrw_nil, noBrw_shr, noBrw_frs, tests_nil, tests_one, at0, at1, at2, lim_eq, d_law_row, eqv_ii, eqv_nn, eqv_in, eqv_ni, eqv_bb, eqv_ss, shaped_int, shaped_none, shaped_bool, g2, g4, f4, g7, f7, hm, hb, hb', hp, e1, e3, Row.d]
end Law
namespace Law
open PySem Dv
theorem prog_loop {fu n : Nat} (boxes most many : Nat) (hm : 0 < many) (c : Int) : ∀ (ks : List Nat) (s : Int) (rs : List Row) (k6 : Option (Bool × D)), (∀ r ∈ rs, RowOk boxes most many r) → rs.length + ks.length ≤ 16 →
    ∃ (s' : Int) (rs' : List Row) (k' : Option (Bool × D)), rs'.length = rs.length + ks.length ∧ (∀ r ∈ rs', RowOk boxes most many r) ∧
      forGo (fun d st => evSs (run tab fu (n + 1)) fu b_law_program_0 (List.set st 6 (some (false, d)))) (ks.map fun (k : Nat) => PyData.int (k : Int))
        [some (false, .int c), some (false, .int s), some (false, .int boxes), some (false, .int most), some (false, .int many), some (true, .list (rs.map Row.d)), k6] =
      some (.nx [some (false, .int c), some (false, .int s'), some (false, .int boxes), some (false, .int most), some (false, .int many), some (true, .list (rs'.map Row.d)), k'])
  | [], s, rs, k6, h, _ => ⟨s, rs, k6, by simp, h, by simp [forGo]⟩
  | k :: ks, s, rs, k6, h, hl => by
    obtain ⟨r, hr, er⟩ := row_ok (fu := fu) (n := n) (nextS (s + k)) boxes most many hm
    rw [List.length_cons] at hl
    obtain ⟨s', rs', k', h1, h2, h3⟩ := prog_loop (fu := fu) (n := n) boxes most many hm c ks (nextS (s + k)) (rs ++ [r]) (some (false, .int k)) (fun x hx => by
      rcases List.mem_append.mp hx with hx | hx
      · exact h x hx
      · simp at hx; subst hx; exact hr) (by rw [List.length_append, List.length_singleton]; omega)
    refine ⟨s', rs', k', by rw [h1]; simp; omega, h2, ?_⟩
    rw [← h3]
    have hz : rs.length < 100000 := by omega
    simp [forGo, b_law_program_0, runD, Dv.start, evSs_nil, evSs_cons, evS, evE, evL, evB, evAnd, evOr, evO, onOwn, guardO, setAll, thenS_nx, thenS_rt, thenS_ex, onV_ok, onV_ex, onB_ok, onB_ex, bindV_ok, bindV_ex, boolV_ok, bindA_ok, consA_ok, optI_none, optI_some, outcome_nx, outcome_shr, outcome_frs, outcome_ex, setV_shr, setV_frs, binD_add, binD_addT, binD_addL, binD_sub, binD_mulr, binD_mull, binD_fdiv', binD_mod', cmpD_lt, cmpD_le, cmpD_gt, cmpD_ge, cmpD_eqi, cmpD_nei, cmpD_is, cmpD_isn, cmpD_memL, cmpD_nmemL, cmpD_memT, cmpD_nmemT, isN_none, isN_int, isN_tup, isN_lst, isN_bool, isN_str, flat_int, flat_str, flat_none, flat_bool, fnD_lenL, fnD_lenT, fnD_lenS, fnD_intB, fnD_str, fnD_tupL, fnD_tupT, fnD_lstL, fnD_lstT, fnD_all, idxD_L, idxD_T, idxD_S, slcD_L, slcD_T, itemsD_L, itemsD_T, asD_shr, asD_frs, asB_ok, okCall_t, noBrw_nil, noBrw_shr, noBrw_frs, tests_nil, tests_one, at0, at1, at2, lim_eq, next_ok, er, hz]
/-- the last row made an end -/
theorem fix_last {rs : List Row} {b m k : Nat} {x : Row} (hx : RowOk b m k x) (he : isEnd x) (h : ∀ r ∈ rs, RowOk b m k r) (hz : rs ≠ []) : (∀ r ∈ rs.set (rs.length - 1) x, RowOk b m k r) ∧ ∀ r, (rs.set (rs.length - 1) x).getLast? = some r → isEnd r := by
  refine ⟨fun r hr => ?_, fun r hr => ?_⟩
  · rcases List.mem_or_eq_of_mem_set hr with q | q
    · exact h r q
    · subst q; exact hx
  · rw [List.getLast?_eq_getElem?, List.length_set] at hr
    have hp : 0 < rs.length := List.length_pos_iff.mpr hz
    rw [List.getElem?_set_self (by omega)] at hr
    cases hr
    exact he
theorem isEnd_cases (r : Row) : (isEnd r ∧ ∃ ds, (r.d = .tuple (.str "go" :: ds) ∨ r.d = .tuple (.str "stop" :: ds))) ∨ (¬ isEnd r ∧ ∃ w ds, r.d = .tuple (.str w :: ds) ∧ (w == ("go" : Str)) = false ∧ (w == ("stop" : Str)) = false) := by
  cases r with
  | go r => exact .inl ⟨trivial, _, .inl rfl⟩
  | stop => exact .inl ⟨trivial, _, .inr rfl⟩
  | put b n => exact .inr ⟨fun h => h, _, _, rfl, by decide +kernel, by decide +kernel⟩
  | more b => exact .inr ⟨fun h => h, _, _, rfl, by decide +kernel, by decide +kernel⟩
  | copy b n => exact .inr ⟨fun h => h, _, _, rfl, by decide +kernel, by decide +kernel⟩
  | tell b => exact .inr ⟨fun h => h, _, _, rfl, by decide +kernel, by decide +kernel⟩
  | ask b n => exact .inr ⟨fun h => h, _, _, rfl, by decide +kernel, by decide +kernel⟩
theorem prog_pick {c : Int} : ∃ b : Nat, L2.atI [PyData.int 1, .int 2, .int 1, .int 2, .int 0, .int 3] (nextS c % 6) = some (.int b) ∧ b ≤ 3 := by
  have h : nextS c % 6 = 0 ∨ nextS c % 6 = 1 ∨ nextS c % 6 = 2 ∨ nextS c % 6 = 3 ∨ nextS c % 6 = 4 ∨ nextS c % 6 = 5 := by omega
  rcases h with h | h | h | h | h | h
  · exact ⟨1, by rw [h]; rfl, by decide⟩
  · exact ⟨2, by rw [h]; rfl, by decide⟩
  · exact ⟨1, by rw [h]; rfl, by decide⟩
  · exact ⟨2, by rw [h]; rfl, by decide⟩
  · exact ⟨0, by rw [h]; rfl, by decide⟩
  · exact ⟨3, by rw [h]; rfl, by decide⟩
theorem program_ok {fu n : Nat} (c : Int) : ∃ p : Prog, p.Ok ∧ run tab fu (n + 2) "_law_program" [.int c] = some (.ok .shr p.d) := by
  obtain ⟨boxes, eb, hb⟩ := @prog_pick c
  obtain ⟨m0, em, hm⟩ := mod_nat (nextS c / 6) (m := 4) (by decide)
  obtain ⟨k0, ek, hk⟩ := mod_nat (nextS c / 24) (m := 7) (by decide)
  obtain ⟨many, emany, hk0, hk16⟩ : ∃ many : Nat, 1 + nextS c / 24 % 7 + 9 * (if (nextS c / 200 % 8 == 3) = true then 1 else 0) = many ∧ 0 < many ∧ many ≤ 16 := by
    rw [show nextS c / 24 % 7 = k0 from ek]
    split
    · exact ⟨k0 + 10, by omega, by omega, by omega⟩
    · exact ⟨k0 + 1, by omega, by omega, by omega⟩
  obtain ⟨most, emost, hm1, hm4⟩ : ∃ most : Nat, 1 + nextS c / 6 % 4 = most ∧ 1 ≤ most ∧ most ≤ 4 := ⟨m0 + 1, by rw [show nextS c / 6 % 4 = m0 from em]; omega, by omega, by omega⟩
  obtain ⟨s', rs, k6, hl, hr, el⟩ := prog_loop (fu := fu) (n := n) boxes most many hk0 c (List.range many) (nextS c) [] none (by simp) (by simpa using hk16)
  rw [run_law_program]
  have hne : rs ≠ [] := by intro h; rw [h] at hl; simp at hl; omega
  have hl' : rs.length = many := by simpa using hl
  obtain ⟨r0, er0, hr0⟩ := mod_nat (s' / 7) hk0
  have hkz : (0 : Int) < many := by omega
  have main : ∀ rs2 : List Row, (∀ r ∈ rs2, RowOk boxes most many r) → rs2.length = many → (∀ r, rs2.getLast? = some r → isEnd r) →
      ∃ p : Prog, p.Ok ∧ p.d = .tuple [.int boxes, .int most, .list (rs2.map Row.d)] := fun rs2 h1 h2 h3 =>
    ⟨⟨boxes, most, rs2⟩, ⟨hb, hm1, hm4, by rw [h2]; exact hk0, by rw [h2]; exact hk16, fun r hr => by rw [h2]; exact h1 r hr, h3⟩, rfl⟩
  have pre : ∀ Z : Option SO, evSs (run tab fu (n + 1)) fu (d_law_program.body.drop 6) [some (false, .int c), some (false, .int s'), some (false, .int boxes), some (false, .int most), some (false, .int many), some (true, .list (rs.map Row.d)), k6] = Z →
      evSs (run tab fu (n + 1)) fu d_law_program.body [some (false, .int c), none, none, none, none, none, none] = Z := by
    intro Z hZ
    unfold d_law_program
    refine (seq (by simp only [runD, Dv.start, evSs_nil, evSs_cons, evS, evE, evL, evB, evAnd, evOr, evO, onOwn, guardO, setAll, thenS_nx, thenS_rt, thenS_ex, onV_ok, onV_ex, onB_ok, onB_ex, bindV_ok, bindV_ex, boolV_ok, bindA_ok, consA_ok, optI_none, optI_some, outcome_nx, outcome_shr, outcome_frs, outcome_ex, setV_shr, setV_frs, binD_add, binD_addT, binD_addL, binD_sub, binD_mulr, binD_mull, binD_fdiv', binD_mod', cmpD_lt, cmpD_le, cmpD_gt, cmpD_ge, cmpD_eqi, cmpD_nei, cmpD_is, cmpD_isn, cmpD_memL, cmpD_nmemL, cmpD_memT, cmpD_nmemT, isN_none, isN_int, isN_tup, isN_lst, isN_bool, isN_str, flat_int, flat_str, flat_none, flat_bool, fnD_lenL, fnD_lenT, fnD_lenS, fnD_intB, fnD_str, fnD_tupL, fnD_tupT, fnD_lstL, fnD_lstT, fnD_all, idxD_L, idxD_T, idxD_S, slcD_L, slcD_T, itemsD_L, itemsD_T, asD_shr, asD_frs, asB_ok, okCall_t, noBrw_nil, noBrw_shr, noBrw_frs, tests_nil, tests_one, at0, at1, at2, lim_eq, List.set_cons_zero, List.set_cons_succ, List.getElem?_cons_zero, List.getElem?_cons_succ, List.length_cons, List.length_nil, List.map_cons, List.map_nil, Option.map_some, Option.map_none, if_true, if_false, ite_true, ite_false, reduceIte, reduceCtorEq, decide_true, decide_false, Nat.reduceAdd, Nat.reduceSub, Nat.reduceEqDiff, Int.reduceNeg, Int.reduceLT, Int.reduceLE, Bool.not_true, Bool.not_false, Nat.reduceLeDiff, and_self, true_and, and_true, next_ok]; rfl)).trans ?_
    refine (seq (by simp only [runD, Dv.start, evSs_nil, evSs_cons, evS, evE, evL, evB, evAnd, evOr, evO, onOwn, guardO, setAll, thenS_nx, thenS_rt, thenS_ex, onV_ok, onV_ex, onB_ok, onB_ex, bindV_ok, bindV_ex, boolV_ok, bindA_ok, consA_ok, optI_none, optI_some, outcome_nx, outcome_shr, outcome_frs, outcome_ex, setV_shr, setV_frs, binD_add, binD_addT, binD_addL, binD_sub, binD_mulr, binD_mull, binD_fdiv', binD_mod', cmpD_lt, cmpD_le, cmpD_gt, cmpD_ge, cmpD_eqi, cmpD_nei, cmpD_is, cmpD_isn, cmpD_memL, cmpD_nmemL, cmpD_memT, cmpD_nmemT, isN_none, isN_int, isN_tup, isN_lst, isN_bool, isN_str, flat_int, flat_str, flat_none, flat_bool, fnD_lenL, fnD_lenT, fnD_lenS, fnD_intB, fnD_str, fnD_tupL, fnD_tupT, fnD_lstL, fnD_lstT, fnD_all, idxD_L, idxD_T, idxD_S, slcD_L, slcD_T, itemsD_L, itemsD_T, asD_shr, asD_frs, asB_ok, okCall_t, noBrw_nil, noBrw_shr, noBrw_frs, tests_nil, tests_one, at0, at1, at2, lim_eq, List.set_cons_zero, List.set_cons_succ, List.getElem?_cons_zero, List.getElem?_cons_succ, List.length_cons, List.length_nil, List.map_cons, List.map_nil, Option.map_some, Option.map_none, if_true, if_false, ite_true, ite_false, reduceIte, reduceCtorEq, decide_true, decide_false, Nat.reduceAdd, Nat.reduceSub, Nat.reduceEqDiff, Int.reduceNeg, Int.reduceLT, Int.reduceLE, Bool.not_true, Bool.not_false, Nat.reduceLeDiff, and_self, true_and, and_true, eb]; rfl)).trans ?_
    refine (seq (by simp only [runD, Dv.start, evSs_nil, evSs_cons, evS, evE, evL, evB, evAnd, evOr, evO, onOwn, guardO, setAll, thenS_nx, thenS_rt, thenS_ex, onV_ok, onV_ex, onB_ok, onB_ex, bindV_ok, bindV_ex, boolV_ok, bindA_ok, consA_ok, optI_none, optI_some, outcome_nx, outcome_shr, outcome_frs, outcome_ex, setV_shr, setV_frs, binD_add, binD_addT, binD_addL, binD_sub, binD_mulr, binD_mull, binD_fdiv', binD_mod', cmpD_lt, cmpD_le, cmpD_gt, cmpD_ge, cmpD_eqi, cmpD_nei, cmpD_is, cmpD_isn, cmpD_memL, cmpD_nmemL, cmpD_memT, cmpD_nmemT, isN_none, isN_int, isN_tup, isN_lst, isN_bool, isN_str, flat_int, flat_str, flat_none, flat_bool, fnD_lenL, fnD_lenT, fnD_lenS, fnD_intB, fnD_str, fnD_tupL, fnD_tupT, fnD_lstL, fnD_lstT, fnD_all, idxD_L, idxD_T, idxD_S, slcD_L, slcD_T, itemsD_L, itemsD_T, asD_shr, asD_frs, asB_ok, okCall_t, noBrw_nil, noBrw_shr, noBrw_frs, tests_nil, tests_one, at0, at1, at2, lim_eq, List.set_cons_zero, List.set_cons_succ, List.getElem?_cons_zero, List.getElem?_cons_succ, List.length_cons, List.length_nil, List.map_cons, List.map_nil, Option.map_some, Option.map_none, if_true, if_false, ite_true, ite_false, reduceIte, reduceCtorEq, decide_true, decide_false, Nat.reduceAdd, Nat.reduceSub, Nat.reduceEqDiff, Int.reduceNeg, Int.reduceLT, Int.reduceLE, Bool.not_true, Bool.not_false, Nat.reduceLeDiff, and_self, true_and, and_true, emost]; rfl)).trans ?_
    refine (seq (by simp only [runD, Dv.start, evSs_nil, evSs_cons, evS, evE, evL, evB, evAnd, evOr, evO, onOwn, guardO, setAll, thenS_nx, thenS_rt, thenS_ex, onV_ok, onV_ex, onB_ok, onB_ex, bindV_ok, bindV_ex, boolV_ok, bindA_ok, consA_ok, optI_none, optI_some, outcome_nx, outcome_shr, outcome_frs, outcome_ex, setV_shr, setV_frs, binD_add, binD_addT, binD_addL, binD_sub, binD_mulr, binD_mull, binD_fdiv', binD_mod', cmpD_lt, cmpD_le, cmpD_gt, cmpD_ge, cmpD_eqi, cmpD_nei, cmpD_is, cmpD_isn, cmpD_memL, cmpD_nmemL, cmpD_memT, cmpD_nmemT, isN_none, isN_int, isN_tup, isN_lst, isN_bool, isN_str, flat_int, flat_str, flat_none, flat_bool, fnD_lenL, fnD_lenT, fnD_lenS, fnD_intB, fnD_str, fnD_tupL, fnD_tupT, fnD_lstL, fnD_lstT, fnD_all, idxD_L, idxD_T, idxD_S, slcD_L, slcD_T, itemsD_L, itemsD_T, asD_shr, asD_frs, asB_ok, okCall_t, noBrw_nil, noBrw_shr, noBrw_frs, tests_nil, tests_one, at0, at1, at2, lim_eq, List.set_cons_zero, List.set_cons_succ, List.getElem?_cons_zero, List.getElem?_cons_succ, List.length_cons, List.length_nil, List.map_cons, List.map_nil, Option.map_some, Option.map_none, if_true, if_false, ite_true, ite_false, reduceIte, reduceCtorEq, decide_true, decide_false, Nat.reduceAdd, Nat.reduceSub, Nat.reduceEqDiff, Int.reduceNeg, Int.reduceLT, Int.reduceLE, Bool.not_true, Bool.not_false, Nat.reduceLeDiff, and_self, true_and, and_true, emany]; rfl)).trans ?_
    refine (seq (by simp only [runD, Dv.start, evSs_nil, evSs_cons, evS, evE, evL, evB, evAnd, evOr, evO, onOwn, guardO, setAll, thenS_nx, thenS_rt, thenS_ex, onV_ok, onV_ex, onB_ok, onB_ex, bindV_ok, bindV_ex, boolV_ok, bindA_ok, consA_ok, optI_none, optI_some, outcome_nx, outcome_shr, outcome_frs, outcome_ex, setV_shr, setV_frs, binD_add, binD_addT, binD_addL, binD_sub, binD_mulr, binD_mull, binD_fdiv', binD_mod', cmpD_lt, cmpD_le, cmpD_gt, cmpD_ge, cmpD_eqi, cmpD_nei, cmpD_is, cmpD_isn, cmpD_memL, cmpD_nmemL, cmpD_memT, cmpD_nmemT, isN_none, isN_int, isN_tup, isN_lst, isN_bool, isN_str, flat_int, flat_str, flat_none, flat_bool, fnD_lenL, fnD_lenT, fnD_lenS, fnD_intB, fnD_str, fnD_tupL, fnD_tupT, fnD_lstL, fnD_lstT, fnD_all, idxD_L, idxD_T, idxD_S, slcD_L, slcD_T, itemsD_L, itemsD_T, asD_shr, asD_frs, asB_ok, okCall_t, noBrw_nil, noBrw_shr, noBrw_frs, tests_nil, tests_one, at0, at1, at2, lim_eq, List.set_cons_zero, List.set_cons_succ, List.getElem?_cons_zero, List.getElem?_cons_succ, List.length_cons, List.length_nil, List.map_cons, List.map_nil, Option.map_some, Option.map_none, if_true, if_false, ite_true, ite_false, reduceIte, reduceCtorEq, decide_true, decide_false, Nat.reduceAdd, Nat.reduceSub, Nat.reduceEqDiff, Int.reduceNeg, Int.reduceLT, Int.reduceLE, Bool.not_true, Bool.not_false, Nat.reduceLeDiff, and_self, true_and, and_true, Nat.zero_le]; rfl)).trans ?_
    refine (seq ((forR_of (m := many) ?_ (by omega)).trans el)).trans ?_
    · simp only [runD, Dv.start, evSs_nil, evSs_cons, evS, evE, evL, evB, evAnd, evOr, evO, onOwn, guardO, setAll, thenS_nx, thenS_rt, thenS_ex, onV_ok, onV_ex, onB_ok, onB_ex, bindV_ok, bindV_ex, boolV_ok, bindA_ok, consA_ok, optI_none, optI_some, outcome_nx, outcome_shr, outcome_frs, outcome_ex, setV_shr, setV_frs, binD_add, binD_addT, binD_addL, binD_sub, binD_mulr, binD_mull, binD_fdiv', binD_mod', cmpD_lt, cmpD_le, cmpD_gt, cmpD_ge, cmpD_eqi, cmpD_nei, cmpD_is, cmpD_isn, cmpD_memL, cmpD_nmemL, cmpD_memT, cmpD_nmemT, isN_none, isN_int, isN_tup, isN_lst, isN_bool, isN_str, flat_int, flat_str, flat_none, flat_bool, fnD_lenL, fnD_lenT, fnD_lenS, fnD_intB, fnD_str, fnD_tupL, fnD_tupT, fnD_lstL, fnD_lstT, fnD_all, idxD_L, idxD_T, idxD_S, slcD_L, slcD_T, itemsD_L, itemsD_T, asD_shr, asD_frs, asB_ok, okCall_t, noBrw_nil, noBrw_shr, noBrw_frs, tests_nil, tests_one, at0, at1, at2, lim_eq, List.set_cons_zero, List.set_cons_succ, List.getElem?_cons_zero, List.getElem?_cons_succ, List.length_cons, List.length_nil, List.map_cons, List.map_nil, Option.map_some, Option.map_none, if_true, if_false, ite_true, ite_false, reduceIte, reduceCtorEq, decide_true, decide_false, Nat.reduceAdd, Nat.reduceSub, Nat.reduceEqDiff, Int.reduceNeg, Int.reduceLT, Int.reduceLE, Bool.not_true, Bool.not_false, Nat.reduceLeDiff, and_self, true_and, and_true]
    · exact hZ
  obtain ⟨r, hlast⟩ : ∃ r, rs.getLast? = some r := by
    rw [List.getLast?_eq_getElem?]
    exact ⟨_, List.getElem?_eq_getElem (by omega)⟩
  have hlast2 : L2.atI (rs.map Row.d) (-1) = some r.d := atL (by rw [List.getLast?_map, hlast]; rfl)
  obtain ⟨r2, hr2, he2, ee2⟩ : ∃ r2, RowOk boxes most many r2 ∧ isEnd r2 ∧ L2.atI [PyData.tuple [.str "go", .int r0], .tuple [.str "stop"]] (s' / 1000 % 3 / 2) = some r2.d := by
    rcases (show s' / 1000 % 3 / 2 = 0 ∨ s' / 1000 % 3 / 2 = 1 by omega) with h | h
    · exact ⟨.go r0, hr0, trivial, by rw [h]; rfl⟩
    · exact ⟨.stop, trivial, trivial, by rw [h]; rfl⟩
  rcases isEnd_cases r with ⟨he, ds, hd⟩ | ⟨he, w, ds, hd, w1, w2⟩
  · obtain ⟨p, hp, ep⟩ := main rs hr hl' (fun x hx => by rw [hlast] at hx; cases hx; exact he)
    refine ⟨p, hp, ?_⟩
    refine congrArg outcome ((pre (some (.rt .shr p.d)) ?_))
    unfold d_law_program
    refine (seq (st' := [some (false, .int c), some (false, .int s'), some (false, .int boxes), some (false, .int most), some (false, .int many), some (true, .list (rs.map Row.d)), k6]) ?_).trans ?_
    · rcases hd with hd | hd
      · simp only [runD, Dv.start, evSs_nil, evSs_cons, evS, evE, evL, evB, evAnd, evOr, evO, onOwn, guardO, setAll, thenS_nx, thenS_rt, thenS_ex, onV_ok, onV_ex, onB_ok, onB_ex, bindV_ok, bindV_ex, boolV_ok, bindA_ok, consA_ok, optI_none, optI_some, outcome_nx, outcome_shr, outcome_frs, outcome_ex, setV_shr, setV_frs, binD_add, binD_addT, binD_addL, binD_sub, binD_mulr, binD_mull, binD_fdiv', binD_mod', cmpD_lt, cmpD_le, cmpD_gt, cmpD_ge, cmpD_eqi, cmpD_nei, cmpD_is, cmpD_isn, cmpD_memL, cmpD_nmemL, cmpD_memT, cmpD_nmemT, isN_none, isN_int, isN_tup, isN_lst, isN_bool, isN_str, flat_int, flat_str, flat_none, flat_bool, fnD_lenL, fnD_lenT, fnD_lenS, fnD_intB, fnD_str, fnD_tupL, fnD_tupT, fnD_lstL, fnD_lstT, fnD_all, idxD_L, idxD_T, idxD_S, slcD_L, slcD_T, itemsD_L, itemsD_T, asD_shr, asD_frs, asB_ok, okCall_t, noBrw_nil, noBrw_shr, noBrw_frs, tests_nil, tests_one, at0, at1, at2, lim_eq, List.set_cons_zero, List.set_cons_succ, List.getElem?_cons_zero, List.getElem?_cons_succ, List.length_cons, List.length_nil, List.map_cons, List.map_nil, Option.map_some, Option.map_none, if_true, if_false, ite_true, ite_false, reduceIte, reduceCtorEq, decide_true, decide_false, Nat.reduceAdd, Nat.reduceSub, Nat.reduceEqDiff, Int.reduceNeg, Int.reduceLT, Int.reduceLE, Bool.not_true, Bool.not_false, Nat.reduceLeDiff, and_self, true_and, and_true, hlast2, hd, List.all_cons, List.all_nil, List.any_cons, List.any_nil, eqv_ss, beq_self_eq_true, Bool.and_self, Bool.true_or, Bool.or_true]
      · simp only [runD, Dv.start, evSs_nil, evSs_cons, evS, evE, evL, evB, evAnd, evOr, evO, onOwn, guardO, setAll, thenS_nx, thenS_rt, thenS_ex, onV_ok, onV_ex, onB_ok, onB_ex, bindV_ok, bindV_ex, boolV_ok, bindA_ok, consA_ok, optI_none, optI_some, outcome_nx, outcome_shr, outcome_frs, outcome_ex, setV_shr, setV_frs, binD_add, binD_addT, binD_addL, binD_sub, binD_mulr, binD_mull, binD_fdiv', binD_mod', cmpD_lt, cmpD_le, cmpD_gt, cmpD_ge, cmpD_eqi, cmpD_nei, cmpD_is, cmpD_isn, cmpD_memL, cmpD_nmemL, cmpD_memT, cmpD_nmemT, isN_none, isN_int, isN_tup, isN_lst, isN_bool, isN_str, flat_int, flat_str, flat_none, flat_bool, fnD_lenL, fnD_lenT, fnD_lenS, fnD_intB, fnD_str, fnD_tupL, fnD_tupT, fnD_lstL, fnD_lstT, fnD_all, idxD_L, idxD_T, idxD_S, slcD_L, slcD_T, itemsD_L, itemsD_T, asD_shr, asD_frs, asB_ok, okCall_t, noBrw_nil, noBrw_shr, noBrw_frs, tests_nil, tests_one, at0, at1, at2, lim_eq, List.set_cons_zero, List.set_cons_succ, List.getElem?_cons_zero, List.getElem?_cons_succ, List.length_cons, List.length_nil, List.map_cons, List.map_nil, Option.map_some, Option.map_none, if_true, if_false, ite_true, ite_false, reduceIte, reduceCtorEq, decide_true, decide_false, Nat.reduceAdd, Nat.reduceSub, Nat.reduceEqDiff, Int.reduceNeg, Int.reduceLT, Int.reduceLE, Bool.not_true, Bool.not_false, Nat.reduceLeDiff, and_self, true_and, and_true, hlast2, hd, List.all_cons, List.all_nil, List.any_cons, List.any_nil, eqv_ss, beq_self_eq_true, Bool.and_self, Bool.true_or, Bool.or_true, Bool.or_false]
    · rw [ep]
      refine (seq (by simp only [runD, Dv.start, evSs_nil, evSs_cons, evS, evE, evL, evB, evAnd, evOr, evO, onOwn, guardO, setAll, thenS_nx, thenS_rt, thenS_ex, onV_ok, onV_ex, onB_ok, onB_ex, bindV_ok, bindV_ex, boolV_ok, bindA_ok, consA_ok, optI_none, optI_some, outcome_nx, outcome_shr, outcome_frs, outcome_ex, setV_shr, setV_frs, binD_add, binD_addT, binD_addL, binD_sub, binD_mulr, binD_mull, binD_fdiv', binD_mod', cmpD_lt, cmpD_le, cmpD_gt, cmpD_ge, cmpD_eqi, cmpD_nei, cmpD_is, cmpD_isn, cmpD_memL, cmpD_nmemL, cmpD_memT, cmpD_nmemT, isN_none, isN_int, isN_tup, isN_lst, isN_bool, isN_str, flat_int, flat_str, flat_none, flat_bool, fnD_lenL, fnD_lenT, fnD_lenS, fnD_intB, fnD_str, fnD_tupL, fnD_tupT, fnD_lstL, fnD_lstT, fnD_all, idxD_L, idxD_T, idxD_S, slcD_L, slcD_T, itemsD_L, itemsD_T, asD_shr, asD_frs, asB_ok, okCall_t, noBrw_nil, noBrw_shr, noBrw_frs, tests_nil, tests_one, at0, at1, at2, lim_eq, List.set_cons_zero, List.set_cons_succ, List.getElem?_cons_zero, List.getElem?_cons_succ, List.length_cons, List.length_nil, List.map_cons, List.map_nil, Option.map_some, Option.map_none, if_true, if_false, ite_true, ite_false, reduceIte, reduceCtorEq, decide_true, decide_false, Nat.reduceAdd, Nat.reduceSub, Nat.reduceEqDiff, Int.reduceNeg, Int.reduceLT, Int.reduceLE, Bool.not_true, Bool.not_false, Nat.reduceLeDiff, and_self, true_and, and_true]; rfl)).trans ?_
      refine (seq_rt (by simp only [runD, Dv.start, evSs_nil, evSs_cons, evS, evE, evL, evB, evAnd, evOr, evO, onOwn, guardO, setAll, thenS_nx, thenS_rt, thenS_ex, onV_ok, onV_ex, onB_ok, onB_ex, bindV_ok, bindV_ex, boolV_ok, bindA_ok, consA_ok, optI_none, optI_some, outcome_nx, outcome_shr, outcome_frs, outcome_ex, setV_shr, setV_frs, binD_add, binD_addT, binD_addL, binD_sub, binD_mulr, binD_mull, binD_fdiv', binD_mod', cmpD_lt, cmpD_le, cmpD_gt, cmpD_ge, cmpD_eqi, cmpD_nei, cmpD_is, cmpD_isn, cmpD_memL, cmpD_nmemL, cmpD_memT, cmpD_nmemT, isN_none, isN_int, isN_tup, isN_lst, isN_bool, isN_str, flat_int, flat_str, flat_none, flat_bool, fnD_lenL, fnD_lenT, fnD_lenS, fnD_intB, fnD_str, fnD_tupL, fnD_tupT, fnD_lstL, fnD_lstT, fnD_all, idxD_L, idxD_T, idxD_S, slcD_L, slcD_T, itemsD_L, itemsD_T, asD_shr, asD_frs, asB_ok, okCall_t, noBrw_nil, noBrw_shr, noBrw_frs, tests_nil, tests_one, at0, at1, at2, lim_eq, List.set_cons_zero, List.set_cons_succ, List.getElem?_cons_zero, List.getElem?_cons_succ, List.length_cons, List.length_nil, List.map_cons, List.map_nil, Option.map_some, Option.map_none, if_true, if_false, ite_true, ite_false, reduceIte, reduceCtorEq, decide_true, decide_false, Nat.reduceAdd, Nat.reduceSub, Nat.reduceEqDiff, Int.reduceNeg, Int.reduceLT, Int.reduceLE, Bool.not_true, Bool.not_false, Nat.reduceLeDiff, and_self, true_and, and_true, Nat.reduceLeDiff])).trans rfl
  · obtain ⟨q1, q2⟩ := fix_last hr2 he2 hr hne
    obtain ⟨p, hp, ep⟩ := main _ q1 (by rw [List.length_set]; exact hl') q2
    refine ⟨p, hp, ?_⟩
    refine congrArg outcome ((pre (some (.rt .shr p.d)) ?_))
    unfold d_law_program
    refine (seq (st' := [some (false, .int c), some (false, .int s'), some (false, .int boxes), some (false, .int most), some (false, .int many), some (true, .list ((rs.set (rs.length - 1) r2).map Row.d)), k6]) ?_).trans ?_
    · have hix : L2.ixN (rs.map Row.d).length (-1) = some (rs.length - 1) := by
        simp only [L2.ixN, List.length_map]
        rw [if_neg (by decide), if_pos (by omega)]
        congr 1
        omega
      simp only [runD, Dv.start, evSs_nil, evSs_cons, evS, evE, evL, evB, evAnd, evOr, evO, onOwn, guardO, setAll, thenS_nx, thenS_rt, thenS_ex, onV_ok, onV_ex, onB_ok, onB_ex, bindV_ok, bindV_ex, boolV_ok, bindA_ok, consA_ok, optI_none, optI_some, outcome_nx, outcome_shr, outcome_frs, outcome_ex, setV_shr, setV_frs, binD_add, binD_addT, binD_addL, binD_sub, binD_mulr, binD_mull, binD_fdiv', binD_mod', cmpD_lt, cmpD_le, cmpD_gt, cmpD_ge, cmpD_eqi, cmpD_nei, cmpD_is, cmpD_isn, cmpD_memL, cmpD_nmemL, cmpD_memT, cmpD_nmemT, isN_none, isN_int, isN_tup, isN_lst, isN_bool, isN_str, flat_int, flat_str, flat_none, flat_bool, fnD_lenL, fnD_lenT, fnD_lenS, fnD_intB, fnD_str, fnD_tupL, fnD_tupT, fnD_lstL, fnD_lstT, fnD_all, idxD_L, idxD_T, idxD_S, slcD_L, slcD_T, itemsD_L, itemsD_T, asD_shr, asD_frs, asB_ok, okCall_t, noBrw_nil, noBrw_shr, noBrw_frs, tests_nil, tests_one, at0, at1, at2, lim_eq, List.set_cons_zero, List.set_cons_succ, List.getElem?_cons_zero, List.getElem?_cons_succ, List.length_cons, List.length_nil, List.map_cons, List.map_nil, Option.map_some, Option.map_none, if_true, if_false, ite_true, ite_false, reduceIte, reduceCtorEq, decide_true, decide_false, Nat.reduceAdd, Nat.reduceSub, Nat.reduceEqDiff, Int.reduceNeg, Int.reduceLT, Int.reduceLE, Bool.not_true, Bool.not_false, Nat.reduceLeDiff, and_self, true_and, and_true, hlast2, hd, List.all_cons, List.all_nil, List.any_cons, List.any_nil, eqv_ss, BEq.comm (a := ("go" : Str)) (b := w), BEq.comm (a := ("stop" : Str)) (b := w), w1, w2, hkz, Bool.or_false, Bool.and_self, Bool.true_or, Bool.or_true, Bool.or_self, er0, ee2, hix, List.map_set]
    · rw [ep]
      refine (seq (by simp only [runD, Dv.start, evSs_nil, evSs_cons, evS, evE, evL, evB, evAnd, evOr, evO, onOwn, guardO, setAll, thenS_nx, thenS_rt, thenS_ex, onV_ok, onV_ex, onB_ok, onB_ex, bindV_ok, bindV_ex, boolV_ok, bindA_ok, consA_ok, optI_none, optI_some, outcome_nx, outcome_shr, outcome_frs, outcome_ex, setV_shr, setV_frs, binD_add, binD_addT, binD_addL, binD_sub, binD_mulr, binD_mull, binD_fdiv', binD_mod', cmpD_lt, cmpD_le, cmpD_gt, cmpD_ge, cmpD_eqi, cmpD_nei, cmpD_is, cmpD_isn, cmpD_memL, cmpD_nmemL, cmpD_memT, cmpD_nmemT, isN_none, isN_int, isN_tup, isN_lst, isN_bool, isN_str, flat_int, flat_str, flat_none, flat_bool, fnD_lenL, fnD_lenT, fnD_lenS, fnD_intB, fnD_str, fnD_tupL, fnD_tupT, fnD_lstL, fnD_lstT, fnD_all, idxD_L, idxD_T, idxD_S, slcD_L, slcD_T, itemsD_L, itemsD_T, asD_shr, asD_frs, asB_ok, okCall_t, noBrw_nil, noBrw_shr, noBrw_frs, tests_nil, tests_one, at0, at1, at2, lim_eq, List.set_cons_zero, List.set_cons_succ, List.getElem?_cons_zero, List.getElem?_cons_succ, List.length_cons, List.length_nil, List.map_cons, List.map_nil, Option.map_some, Option.map_none, if_true, if_false, ite_true, ite_false, reduceIte, reduceCtorEq, decide_true, decide_false, Nat.reduceAdd, Nat.reduceSub, Nat.reduceEqDiff, Int.reduceNeg, Int.reduceLT, Int.reduceLE, Bool.not_true, Bool.not_false, Nat.reduceLeDiff, and_self, true_and, and_true]; rfl)).trans ?_
      refine (seq_rt (by simp only [runD, Dv.start, evSs_nil, evSs_cons, evS, evE, evL, evB, evAnd, evOr, evO, onOwn, guardO, setAll, thenS_nx, thenS_rt, thenS_ex, onV_ok, onV_ex, onB_ok, onB_ex, bindV_ok, bindV_ex, boolV_ok, bindA_ok, consA_ok, optI_none, optI_some, outcome_nx, outcome_shr, outcome_frs, outcome_ex, setV_shr, setV_frs, binD_add, binD_addT, binD_addL, binD_sub, binD_mulr, binD_mull, binD_fdiv', binD_mod', cmpD_lt, cmpD_le, cmpD_gt, cmpD_ge, cmpD_eqi, cmpD_nei, cmpD_is, cmpD_isn, cmpD_memL, cmpD_nmemL, cmpD_memT, cmpD_nmemT, isN_none, isN_int, isN_tup, isN_lst, isN_bool, isN_str, flat_int, flat_str, flat_none, flat_bool, fnD_lenL, fnD_lenT, fnD_lenS, fnD_intB, fnD_str, fnD_tupL, fnD_tupT, fnD_lstL, fnD_lstT, fnD_all, idxD_L, idxD_T, idxD_S, slcD_L, slcD_T, itemsD_L, itemsD_T, asD_shr, asD_frs, asB_ok, okCall_t, noBrw_nil, noBrw_shr, noBrw_frs, tests_nil, tests_one, at0, at1, at2, lim_eq, List.set_cons_zero, List.set_cons_succ, List.getElem?_cons_zero, List.getElem?_cons_succ, List.length_cons, List.length_nil, List.map_cons, List.map_nil, Option.map_some, Option.map_none, if_true, if_false, ite_true, ite_false, reduceIte, reduceCtorEq, decide_true, decide_false, Nat.reduceAdd, Nat.reduceSub, Nat.reduceEqDiff, Int.reduceNeg, Int.reduceLT, Int.reduceLE, Bool.not_true, Bool.not_false, Nat.reduceLeDiff, and_self, true_and, and_true, Nat.reduceLeDiff])).trans rfl
end Law
namespace Law
open PySem Dv
/-! ### numbers as plain data -/
def cellD : Option Nat → D
  | none => .none
  | some n => .int n
def numsD (ns : List Nat) : D := .tuple (ns.map fun (n : Nat) => PyData.int (n : Int))
def NumsOk (p : Prog) (ns : List Nat) : Prop := ns.length = p.boxes ∧ ∀ n ∈ ns, n ≤ p.most
theorem numbers_ok {fu n : Nat} (s : Int) {p : Prog} (hp : p.Ok) : ∃ ns, NumsOk p ns ∧ run tab fu (n + 2) "_law_numbers" [.int s, p.d] = some (.ok .shr (numsD ns)) := by
  rw [run_law_numbers]
  have hb := hp.boxes
  have hm : (0 : Int) < (p.most : Int) + 1 := by omega
  obtain ⟨st', el, s', xs, k3, est, hl, hx⟩ := forGo_rng (f := fun d st => evSs (run tab fu (n + 1)) fu b_law_numbers_0 (List.set st 3 (some (false, d))))
    (fun j st => ∃ (s' : Int) (xs : List Nat) (k3 : Option (Bool × D)), st = [some (false, .int s'), some (false, p.d), some (false, numsD xs), k3] ∧ xs.length = j ∧ ∀ c ∈ xs, c ≤ p.most) p.boxes
    [some (false, .int s), some (false, p.d), some (false, .tuple []), none] (by
      rintro j st hj ⟨s', xs, k3, rfl, hl, hx⟩
      obtain ⟨n0, e0, h0⟩ := mod_nat (nextS (s' + j) / 3) (m := p.most + 1) (by omega)
      have e0' : nextS (s' + j) / 3 % ((p.most : Int) + 1) = n0 := by simpa using e0
      have hl2 : xs.length + 1 ≤ 100000 := by omega
      refine ⟨_, ?_, nextS (s' + j), xs ++ [n0], some (false, .int j), rfl, by rw [List.length_append, hl]; rfl, fun c hc => ?_⟩
      · unfold b_law_numbers_0
        simp only [runD, Dv.start, evSs_nil, evSs_cons, evS, evE, evL, evB, evAnd, evOr, evO, onOwn, guardO, setAll, thenS_nx, thenS_rt, thenS_ex, onV_ok, onV_ex, onB_ok, onB_ex, bindV_ok, bindV_ex, boolV_ok, bindA_ok, consA_ok, optI_none, optI_some, outcome_nx, outcome_shr, outcome_frs, outcome_ex, setV_shr, setV_frs, binD_add, binD_addT, binD_addL, binD_sub, binD_mulr, binD_mull, binD_fdiv', binD_mod', cmpD_lt, cmpD_le, cmpD_gt, cmpD_ge, cmpD_eqi, cmpD_nei, cmpD_is, cmpD_isn, cmpD_memL, cmpD_nmemL, cmpD_memT, cmpD_nmemT, isN_none, isN_int, isN_tup, isN_lst, isN_bool, isN_str, flat_int, flat_str, flat_none, flat_bool, fnD_lenL, fnD_lenT, fnD_lenS, fnD_intB, fnD_str, fnD_tupL, fnD_tupT, fnD_lstL, fnD_lstT, fnD_all, idxD_L, idxD_T, idxD_S, slcD_L, slcD_T, itemsD_L, itemsD_T, asD_shr, asD_frs, asB_ok, okCall_t, noBrw_nil, noBrw_shr, noBrw_frs, tests_nil, tests_one, at0, at1, at2, lim_eq, List.set_cons_zero, List.set_cons_succ, List.getElem?_cons_zero, List.getElem?_cons_succ, List.length_cons, List.length_nil, List.map_cons, List.map_nil, Option.map_some, Option.map_none, if_true, if_false, ite_true, ite_false, reduceIte, reduceCtorEq, decide_true, decide_false, Nat.reduceAdd, Nat.reduceSub, Nat.reduceEqDiff, Int.reduceNeg, Int.reduceLT, Int.reduceLE, Bool.not_true, Bool.not_false, Nat.reduceLeDiff, and_self, true_and, and_true, Prog.d, numsD, next_ok, hm, e0', List.map_append, List.length_map, hl2, Nat.reduceLeDiff, Nat.zero_add]
      · rcases List.mem_append.mp hc with hc | hc
        · exact hx c hc
        · simp at hc; subst hc; omega) ⟨s, [], none, rfl, rfl, by simp⟩
  subst est
  refine ⟨xs, ⟨hl, hx⟩, ?_⟩
  refine congrArg outcome (?_ : _ = some (.rt .shr _))
  unfold d_law_numbers
  rw [show Dv.start _ _ = [some (false, .int s), some (false, p.d), none, none] from rfl]
  refine (seq (by simp only [runD, Dv.start, evSs_nil, evSs_cons, evS, evE, evL, evB, evAnd, evOr, evO, onOwn, guardO, setAll, thenS_nx, thenS_rt, thenS_ex, onV_ok, onV_ex, onB_ok, onB_ex, bindV_ok, bindV_ex, boolV_ok, bindA_ok, consA_ok, optI_none, optI_some, outcome_nx, outcome_shr, outcome_frs, outcome_ex, setV_shr, setV_frs, binD_add, binD_addT, binD_addL, binD_sub, binD_mulr, binD_mull, binD_fdiv', binD_mod', cmpD_lt, cmpD_le, cmpD_gt, cmpD_ge, cmpD_eqi, cmpD_nei, cmpD_is, cmpD_isn, cmpD_memL, cmpD_nmemL, cmpD_memT, cmpD_nmemT, isN_none, isN_int, isN_tup, isN_lst, isN_bool, isN_str, flat_int, flat_str, flat_none, flat_bool, fnD_lenL, fnD_lenT, fnD_lenS, fnD_intB, fnD_str, fnD_tupL, fnD_tupT, fnD_lstL, fnD_lstT, fnD_all, idxD_L, idxD_T, idxD_S, slcD_L, slcD_T, itemsD_L, itemsD_T, asD_shr, asD_frs, asB_ok, okCall_t, noBrw_nil, noBrw_shr, noBrw_frs, tests_nil, tests_one, at0, at1, at2, lim_eq, List.set_cons_zero, List.set_cons_succ, List.getElem?_cons_zero, List.getElem?_cons_succ, List.length_cons, List.length_nil, List.map_cons, List.map_nil, Option.map_some, Option.map_none, if_true, if_false, ite_true, ite_false, reduceIte, reduceCtorEq, decide_true, decide_false, Nat.reduceAdd, Nat.reduceSub, Nat.reduceEqDiff, Int.reduceNeg, Int.reduceLT, Int.reduceLE, Bool.not_true, Bool.not_false, Nat.reduceLeDiff, and_self, true_and, and_true, Nat.zero_le]; rfl)).trans ?_
  refine (seq ((forR_of (m := p.boxes) ?_ (by omega)).trans el)).trans ?_
  · simp only [runD, Dv.start, evSs_nil, evSs_cons, evS, evE, evL, evB, evAnd, evOr, evO, onOwn, guardO, setAll, thenS_nx, thenS_rt, thenS_ex, onV_ok, onV_ex, onB_ok, onB_ex, bindV_ok, bindV_ex, boolV_ok, bindA_ok, consA_ok, optI_none, optI_some, outcome_nx, outcome_shr, outcome_frs, outcome_ex, setV_shr, setV_frs, binD_add, binD_addT, binD_addL, binD_sub, binD_mulr, binD_mull, binD_fdiv', binD_mod', cmpD_lt, cmpD_le, cmpD_gt, cmpD_ge, cmpD_eqi, cmpD_nei, cmpD_is, cmpD_isn, cmpD_memL, cmpD_nmemL, cmpD_memT, cmpD_nmemT, isN_none, isN_int, isN_tup, isN_lst, isN_bool, isN_str, flat_int, flat_str, flat_none, flat_bool, fnD_lenL, fnD_lenT, fnD_lenS, fnD_intB, fnD_str, fnD_tupL, fnD_tupT, fnD_lstL, fnD_lstT, fnD_all, idxD_L, idxD_T, idxD_S, slcD_L, slcD_T, itemsD_L, itemsD_T, asD_shr, asD_frs, asB_ok, okCall_t, noBrw_nil, noBrw_shr, noBrw_frs, tests_nil, tests_one, at0, at1, at2, lim_eq, List.set_cons_zero, List.set_cons_succ, List.getElem?_cons_zero, List.getElem?_cons_succ, List.length_cons, List.length_nil, List.map_cons, List.map_nil, Option.map_some, Option.map_none, if_true, if_false, ite_true, ite_false, reduceIte, reduceCtorEq, decide_true, decide_false, Nat.reduceAdd, Nat.reduceSub, Nat.reduceEqDiff, Int.reduceNeg, Int.reduceLT, Int.reduceLE, Bool.not_true, Bool.not_false, Nat.reduceLeDiff, and_self, true_and, and_true, Prog.d]
  refine (seq_rt (by simp only [runD, Dv.start, evSs_nil, evSs_cons, evS, evE, evL, evB, evAnd, evOr, evO, onOwn, guardO, setAll, thenS_nx, thenS_rt, thenS_ex, onV_ok, onV_ex, onB_ok, onB_ex, bindV_ok, bindV_ex, boolV_ok, bindA_ok, consA_ok, optI_none, optI_some, outcome_nx, outcome_shr, outcome_frs, outcome_ex, setV_shr, setV_frs, binD_add, binD_addT, binD_addL, binD_sub, binD_mulr, binD_mull, binD_fdiv', binD_mod', cmpD_lt, cmpD_le, cmpD_gt, cmpD_ge, cmpD_eqi, cmpD_nei, cmpD_is, cmpD_isn, cmpD_memL, cmpD_nmemL, cmpD_memT, cmpD_nmemT, isN_none, isN_int, isN_tup, isN_lst, isN_bool, isN_str, flat_int, flat_str, flat_none, flat_bool, fnD_lenL, fnD_lenT, fnD_lenS, fnD_intB, fnD_str, fnD_tupL, fnD_tupT, fnD_lstL, fnD_lstT, fnD_all, idxD_L, idxD_T, idxD_S, slcD_L, slcD_T, itemsD_L, itemsD_T, asD_shr, asD_frs, asB_ok, okCall_t, noBrw_nil, noBrw_shr, noBrw_frs, tests_nil, tests_one, at0, at1, at2, lim_eq, List.set_cons_zero, List.set_cons_succ, List.getElem?_cons_zero, List.getElem?_cons_succ, List.length_cons, List.length_nil, List.map_cons, List.map_nil, Option.map_some, Option.map_none, if_true, if_false, ite_true, ite_false, reduceIte, reduceCtorEq, decide_true, decide_false, Nat.reduceAdd, Nat.reduceSub, Nat.reduceEqDiff, Int.reduceNeg, Int.reduceLT, Int.reduceLE, Bool.not_true, Bool.not_false, Nat.reduceLeDiff, and_self, true_and, and_true, numsD])).trans rfl
end Law
namespace Law
open PySem Dv
/-! ### what is a program, told by parts -/
def amongV (d : D) (a b : Int) : Bool := match d with
  | .int i => decide (a ≤ i) && decide (i ≤ b)
  | _ => false
/-- may be asked for its type and compared -/
def plainD : D → Bool
  | .str s => PyData.strOk s
  | .dict (_ :: _) => false
  | _ => true
theorem plain_ty {d : D} (h : plainD d = true) : okTy d = true := by
  cases d with
  | dict xs => cases xs with
    | nil => rfl
    | cons a b => simp [plainD] at h
  | _ => rfl
theorem among_ok {fu n : Nat} {d : D} (h : plainD d = true) (a b : Int) : run tab fu (n + 1) "is_among" [d, .int a, .int b] = some (.ok .shr (.bool (amongV d a b))) := by
  rw [run_is_among]
  refine runD_rt rfl ?_
  unfold d_is_among
  rw [show Dv.start _ _ = [some (false, d), some (false, .int a), some (false, .int b)] from rfl]
  have ht := plain_ty h
  refine (seq_rt ?_).trans rfl
  cases d with
  | int i =>
    by_cases h1 : a ≤ i
    · simp only [runD, Dv.start, evSs_nil, evSs_cons, evS, evE, evL, evB, evAnd, evOr, evO, onOwn, guardO, setAll, thenS_nx, thenS_rt, thenS_ex, onV_ok, onV_ex, onB_ok, onB_ex, bindV_ok, bindV_ex, boolV_ok, bindA_ok, consA_ok, optI_none, optI_some, outcome_nx, outcome_shr, outcome_frs, outcome_ex, setV_shr, setV_frs, binD_add, binD_addT, binD_addL, binD_sub, binD_mulr, binD_mull, binD_fdiv', binD_mod', cmpD_lt, cmpD_le, cmpD_gt, cmpD_ge, cmpD_eqi, cmpD_nei, cmpD_is, cmpD_isn, cmpD_memL, cmpD_nmemL, cmpD_memT, cmpD_nmemT, isN_none, isN_int, isN_tup, isN_lst, isN_bool, isN_str, flat_int, flat_str, flat_none, flat_bool, fnD_lenL, fnD_lenT, fnD_lenS, fnD_intB, fnD_str, fnD_tupL, fnD_tupT, fnD_lstL, fnD_lstT, fnD_all, idxD_L, idxD_T, idxD_S, slcD_L, slcD_T, itemsD_L, itemsD_T, asD_shr, asD_frs, asB_ok, okCall_t, noBrw_nil, noBrw_shr, noBrw_frs, tests_nil, tests_one, at0, at1, at2, lim_eq, List.set_cons_zero, List.set_cons_succ, List.getElem?_cons_zero, List.getElem?_cons_succ, List.length_cons, List.length_nil, List.map_cons, List.map_nil, Option.map_some, Option.map_none, if_true, if_false, ite_true, ite_false, reduceIte, reduceCtorEq, decide_true, decide_false, Nat.reduceAdd, Nat.reduceSub, Nat.reduceEqDiff, Int.reduceNeg, Int.reduceLT, Int.reduceLE, Bool.not_true, Bool.not_false, Nat.reduceLeDiff, and_self, true_and, and_true, ht, isInst, amongV, h1, decide_true, Bool.true_and]
    · simp only [runD, Dv.start, evSs_nil, evSs_cons, evS, evE, evL, evB, evAnd, evOr, evO, onOwn, guardO, setAll, thenS_nx, thenS_rt, thenS_ex, onV_ok, onV_ex, onB_ok, onB_ex, bindV_ok, bindV_ex, boolV_ok, bindA_ok, consA_ok, optI_none, optI_some, outcome_nx, outcome_shr, outcome_frs, outcome_ex, setV_shr, setV_frs, binD_add, binD_addT, binD_addL, binD_sub, binD_mulr, binD_mull, binD_fdiv', binD_mod', cmpD_lt, cmpD_le, cmpD_gt, cmpD_ge, cmpD_eqi, cmpD_nei, cmpD_is, cmpD_isn, cmpD_memL, cmpD_nmemL, cmpD_memT, cmpD_nmemT, isN_none, isN_int, isN_tup, isN_lst, isN_bool, isN_str, flat_int, flat_str, flat_none, flat_bool, fnD_lenL, fnD_lenT, fnD_lenS, fnD_intB, fnD_str, fnD_tupL, fnD_tupT, fnD_lstL, fnD_lstT, fnD_all, idxD_L, idxD_T, idxD_S, slcD_L, slcD_T, itemsD_L, itemsD_T, asD_shr, asD_frs, asB_ok, okCall_t, noBrw_nil, noBrw_shr, noBrw_frs, tests_nil, tests_one, at0, at1, at2, lim_eq, List.set_cons_zero, List.set_cons_succ, List.getElem?_cons_zero, List.getElem?_cons_succ, List.length_cons, List.length_nil, List.map_cons, List.map_nil, Option.map_some, Option.map_none, if_true, if_false, ite_true, ite_false, reduceIte, reduceCtorEq, decide_true, decide_false, Nat.reduceAdd, Nat.reduceSub, Nat.reduceEqDiff, Int.reduceNeg, Int.reduceLT, Int.reduceLE, Bool.not_true, Bool.not_false, Nat.reduceLeDiff, and_self, true_and, and_true, ht, isInst, amongV, h1, decide_false, Bool.false_and]
  | bool i => simp only [runD, Dv.start, evSs_nil, evSs_cons, evS, evE, evL, evB, evAnd, evOr, evO, onOwn, guardO, setAll, thenS_nx, thenS_rt, thenS_ex, onV_ok, onV_ex, onB_ok, onB_ex, bindV_ok, bindV_ex, boolV_ok, bindA_ok, consA_ok, optI_none, optI_some, outcome_nx, outcome_shr, outcome_frs, outcome_ex, setV_shr, setV_frs, binD_add, binD_addT, binD_addL, binD_sub, binD_mulr, binD_mull, binD_fdiv', binD_mod', cmpD_lt, cmpD_le, cmpD_gt, cmpD_ge, cmpD_eqi, cmpD_nei, cmpD_is, cmpD_isn, cmpD_memL, cmpD_nmemL, cmpD_memT, cmpD_nmemT, isN_none, isN_int, isN_tup, isN_lst, isN_bool, isN_str, flat_int, flat_str, flat_none, flat_bool, fnD_lenL, fnD_lenT, fnD_lenS, fnD_intB, fnD_str, fnD_tupL, fnD_tupT, fnD_lstL, fnD_lstT, fnD_all, idxD_L, idxD_T, idxD_S, slcD_L, slcD_T, itemsD_L, itemsD_T, asD_shr, asD_frs, asB_ok, okCall_t, noBrw_nil, noBrw_shr, noBrw_frs, tests_nil, tests_one, at0, at1, at2, lim_eq, List.set_cons_zero, List.set_cons_succ, List.getElem?_cons_zero, List.getElem?_cons_succ, List.length_cons, List.length_nil, List.map_cons, List.map_nil, Option.map_some, Option.map_none, if_true, if_false, ite_true, ite_false, reduceIte, reduceCtorEq, decide_true, decide_false, Nat.reduceAdd, Nat.reduceSub, Nat.reduceEqDiff, Int.reduceNeg, Int.reduceLT, Int.reduceLE, Bool.not_true, Bool.not_false, Nat.reduceLeDiff, and_self, true_and, and_true, ht, isInst, amongV, Bool.false_eq_true]
  | _ => simp only [runD, Dv.start, evSs_nil, evSs_cons, evS, evE, evL, evB, evAnd, evOr, evO, onOwn, guardO, setAll, thenS_nx, thenS_rt, thenS_ex, onV_ok, onV_ex, onB_ok, onB_ex, bindV_ok, bindV_ex, boolV_ok, bindA_ok, consA_ok, optI_none, optI_some, outcome_nx, outcome_shr, outcome_frs, outcome_ex, setV_shr, setV_frs, binD_add, binD_addT, binD_addL, binD_sub, binD_mulr, binD_mull, binD_fdiv', binD_mod', cmpD_lt, cmpD_le, cmpD_gt, cmpD_ge, cmpD_eqi, cmpD_nei, cmpD_is, cmpD_isn, cmpD_memL, cmpD_nmemL, cmpD_memT, cmpD_nmemT, isN_none, isN_int, isN_tup, isN_lst, isN_bool, isN_str, flat_int, flat_str, flat_none, flat_bool, fnD_lenL, fnD_lenT, fnD_lenS, fnD_intB, fnD_str, fnD_tupL, fnD_tupT, fnD_lstL, fnD_lstT, fnD_all, idxD_L, idxD_T, idxD_S, slcD_L, slcD_T, itemsD_L, itemsD_T, asD_shr, asD_frs, asB_ok, okCall_t, noBrw_nil, noBrw_shr, noBrw_frs, tests_nil, tests_one, at0, at1, at2, lim_eq, List.set_cons_zero, List.set_cons_succ, List.getElem?_cons_zero, List.getElem?_cons_succ, List.length_cons, List.length_nil, List.map_cons, List.map_nil, Option.map_some, Option.map_none, if_true, if_false, ite_true, ite_false, reduceIte, reduceCtorEq, decide_true, decide_false, Nat.reduceAdd, Nat.reduceSub, Nat.reduceEqDiff, Int.reduceNeg, Int.reduceLT, Int.reduceLE, Bool.not_true, Bool.not_false, Nat.reduceLeDiff, and_self, true_and, and_true, ht, isInst, amongV, Bool.false_eq_true]
/-- a part, None where there is none -/
def part (xs : List D) (k : Nat) : D := xs.getD k .none
theorem at1' {xs : List D} {d : D} (h : 1 ≤ xs.length) : L2.atI (d :: xs) 1 = some (part xs 0) := by
  cases xs with
  | nil => simp at h
  | cons a xs => exact at1
theorem at2' {xs : List D} {d : D} (h : 2 ≤ xs.length) : L2.atI (d :: xs) 2 = some (part xs 1) := by
  match xs, h with
  | a :: b :: xs, _ => exact at2
theorem among_int {d : D} {a b : Int} (h : amongV d a b = true) : ∃ i, d = .int i := by
  cases d <;> first | exact ⟨_, rfl⟩ | simp [amongV] at h
theorem among_yes {i : Int} {a b : Int} (h1 : a ≤ i) (h2 : i ≤ b) : amongV (.int i) a b = true := by simp [amongV, h1, h2]
theorem am_lo {i b : Int} (h : i < 0) : amongV (.int i) 0 b = false := by
  have : ¬ (0 ≤ i) := by omega
  simp [amongV, this]
theorem am_hi {i b : Int} (h : b < i) : amongV (.int i) 0 b = false := by
  have : ¬ (i ≤ b) := by omega
  simp [amongV, this]
theorem bools_map {α : Type} (f : α → Bool) : ∀ l : List α, bools (l.map fun r => .bool (f r)) = some (l.map f)
  | [] => rfl
  | a :: l => by rw [List.map_cons, bools, bools_map f l]; rfl
end Law
namespace Law
open PySem Dv
theorem row_fine (r : Row) : fine 1 r.d := by
  have i : ∀ (n : Nat), fine 0 (.int n) := fun n => fine_int 0 _
  cases r <;> refine fine_tup fun d hd => ?_ <;> simp only [List.mem_cons, List.not_mem_nil, or_false] at hd
  · rcases hd with rfl | rfl | rfl
    · exact fine_str 0 _ (by decide +kernel)
    · exact i _
    · exact i _
  · rcases hd with rfl | rfl
    · exact fine_str 0 _ (by decide +kernel)
    · exact i _
  · rcases hd with rfl | rfl | rfl
    · exact fine_str 0 _ (by decide +kernel)
    · exact i _
    · exact i _
  · rcases hd with rfl | rfl
    · exact fine_str 0 _ (by decide +kernel)
    · exact i _
  · rcases hd with rfl | rfl
    · exact fine_str 0 _ (by decide +kernel)
    · exact i _
  · rcases hd with rfl | rfl | rfl
    · exact fine_str 0 _ (by decide +kernel)
    · exact i _
    · exact i _
  · subst hd
    exact fine_str 0 _ (by decide +kernel)
theorem prog_fine (p : Prog) : fine 3 p.d := by
  refine fine_tup fun d hd => ?_
  simp only [List.mem_cons, List.not_mem_nil, or_false] at hd
  rcases hd with rfl | rfl | rfl
  · exact fine_int 2 _
  · exact fine_int 2 _
  · refine fine_lst fun d hd => ?_
    obtain ⟨r, _, rfl⟩ := List.mem_map.mp hd
    exact row_fine r
theorem prog_eq (p : Prog) : cmpD .eq p.d p.d = some true := by rw [cmpD_eqf (prog_fine p) (prog_fine p) (by decide) (by decide), (prog_fine p).refl]
theorem prog_ne (p : Prog) : cmpD .ne p.d p.d = some false := by rw [cmpD_nef (prog_fine p) (prog_fine p) (by decide) (by decide), (prog_fine p).refl]; rfl
end Law
namespace Law
open PySem Dv
theorem cut_take {xs : List D} {k : Nat} (h : k ≤ xs.length) : cutD xs none (some (k : Int)) = xs.take k := by
  unfold cutD
  rw [HT.sIx_none, HT.sIx_nat, Nat.min_eq_left h, List.drop_zero, Nat.sub_zero]
theorem cut_drop {xs : List D} {k : Nat} (h : k ≤ xs.length) : cutD xs (some (k : Int)) none = xs.drop k := by
  unfold cutD
  rw [HT.sIx_nat, HT.sIx_none, Nat.min_eq_left h, List.take_of_length_le (by rw [List.length_drop]; exact Nat.le_refl _)]
end Law
namespace Law
open PySem Dv
theorem w_put_put : cmpD .eq (.str "put") (.str "put") = some true := by rw [cmpD_eqs (by decide +kernel) (by decide +kernel), show (("put" : Str) == ("put" : Str)) = true by decide +kernel]
theorem w_put_more : cmpD .eq (.str "put") (.str "more") = some false := by rw [cmpD_eqs (by decide +kernel) (by decide +kernel), show (("put" : Str) == ("more" : Str)) = false by decide +kernel]
theorem w_put_copy : cmpD .eq (.str "put") (.str "copy") = some false := by rw [cmpD_eqs (by decide +kernel) (by decide +kernel), show (("put" : Str) == ("copy" : Str)) = false by decide +kernel]
theorem w_put_tell : cmpD .eq (.str "put") (.str "tell") = some false := by rw [cmpD_eqs (by decide +kernel) (by decide +kernel), show (("put" : Str) == ("tell" : Str)) = false by decide +kernel]
theorem w_put_go : cmpD .eq (.str "put") (.str "go") = some false := by rw [cmpD_eqs (by decide +kernel) (by decide +kernel), show (("put" : Str) == ("go" : Str)) = false by decide +kernel]
theorem w_put_ask : cmpD .eq (.str "put") (.str "ask") = some false := by rw [cmpD_eqs (by decide +kernel) (by decide +kernel), show (("put" : Str) == ("ask" : Str)) = false by decide +kernel]
theorem w_put_stop : cmpD .eq (.str "put") (.str "stop") = some false := by rw [cmpD_eqs (by decide +kernel) (by decide +kernel), show (("put" : Str) == ("stop" : Str)) = false by decide +kernel]
theorem w_put_is : cmpD .eq (.str "put") (.str "is") = some false := by rw [cmpD_eqs (by decide +kernel) (by decide +kernel), show (("put" : Str) == ("is" : Str)) = false by decide +kernel]
theorem w_put_by : cmpD .eq (.str "put") (.str "by") = some false := by rw [cmpD_eqs (by decide +kernel) (by decide +kernel), show (("put" : Str) == ("by" : Str)) = false by decide +kernel]
theorem w_more_put : cmpD .eq (.str "more") (.str "put") = some false := by rw [cmpD_eqs (by decide +kernel) (by decide +kernel), show (("more" : Str) == ("put" : Str)) = false by decide +kernel]
theorem w_more_more : cmpD .eq (.str "more") (.str "more") = some true := by rw [cmpD_eqs (by decide +kernel) (by decide +kernel), show (("more" : Str) == ("more" : Str)) = true by decide +kernel]
theorem w_more_copy : cmpD .eq (.str "more") (.str "copy") = some false := by rw [cmpD_eqs (by decide +kernel) (by decide +kernel), show (("more" : Str) == ("copy" : Str)) = false by decide +kernel]
theorem w_more_tell : cmpD .eq (.str "more") (.str "tell") = some false := by rw [cmpD_eqs (by decide +kernel) (by decide +kernel), show (("more" : Str) == ("tell" : Str)) = false by decide +kernel]
theorem w_more_go : cmpD .eq (.str "more") (.str "go") = some false := by rw [cmpD_eqs (by decide +kernel) (by decide +kernel), show (("more" : Str) == ("go" : Str)) = false by decide +kernel]
theorem w_more_ask : cmpD .eq (.str "more") (.str "ask") = some false := by rw [cmpD_eqs (by decide +kernel) (by decide +kernel), show (("more" : Str) == ("ask" : Str)) = false by decide +kernel]
theorem w_more_stop : cmpD .eq (.str "more") (.str "stop") = some false := by rw [cmpD_eqs (by decide +kernel) (by decide +kernel), show (("more" : Str) == ("stop" : Str)) = false by decide +kernel]
theorem w_more_is : cmpD .eq (.str "more") (.str "is") = some false := by rw [cmpD_eqs (by decide +kernel) (by decide +kernel), show (("more" : Str) == ("is" : Str)) = false by decide +kernel]
theorem w_more_by : cmpD .eq (.str "more") (.str "by") = some false := by rw [cmpD_eqs (by decide +kernel) (by decide +kernel), show (("more" : Str) == ("by" : Str)) = false by decide +kernel]
theorem w_copy_put : cmpD .eq (.str "copy") (.str "put") = some false := by rw [cmpD_eqs (by decide +kernel) (by decide +kernel), show (("copy" : Str) == ("put" : Str)) = false by decide +kernel]
theorem w_copy_more : cmpD .eq (.str "copy") (.str "more") = some false := by rw [cmpD_eqs (by decide +kernel) (by decide +kernel), show (("copy" : Str) == ("more" : Str)) = false by decide +kernel]
theorem w_copy_copy : cmpD .eq (.str "copy") (.str "copy") = some true := by rw [cmpD_eqs (by decide +kernel) (by decide +kernel), show (("copy" : Str) == ("copy" : Str)) = true by decide +kernel]
theorem w_copy_tell : cmpD .eq (.str "copy") (.str "tell") = some false := by rw [cmpD_eqs (by decide +kernel) (by decide +kernel), show (("copy" : Str) == ("tell" : Str)) = false by decide +kernel]
theorem w_copy_go : cmpD .eq (.str "copy") (.str "go") = some false := by rw [cmpD_eqs (by decide +kernel) (by decide +kernel), show (("copy" : Str) == ("go" : Str)) = false by decide +kernel]
theorem w_copy_ask : cmpD .eq (.str "copy") (.str "ask") = some false := by rw [cmpD_eqs (by decide +kernel) (by decide +kernel), show (("copy" : Str) == ("ask" : Str)) = false by decide +kernel]
theorem w_copy_stop : cmpD .eq (.str "copy") (.str "stop") = some false := by rw [cmpD_eqs (by decide +kernel) (by decide +kernel), show (("copy" : Str) == ("stop" : Str)) = false by decide +kernel]
theorem w_copy_is : cmpD .eq (.str "copy") (.str "is") = some false := by rw [cmpD_eqs (by decide +kernel) (by decide +kernel), show (("copy" : Str) == ("is" : Str)) = false by decide +kernel]
theorem w_copy_by : cmpD .eq (.str "copy") (.str "by") = some false := by rw [cmpD_eqs (by decide +kernel) (by decide +kernel), show (("copy" : Str) == ("by" : Str)) = false by decide +kernel]
theorem w_tell_put : cmpD .eq (.str "tell") (.str "put") = some false := by rw [cmpD_eqs (by decide +kernel) (by decide +kernel), show (("tell" : Str) == ("put" : Str)) = false by decide +kernel]
theorem w_tell_more : cmpD .eq (.str "tell") (.str "more") = some false := by rw [cmpD_eqs (by decide +kernel) (by decide +kernel), show (("tell" : Str) == ("more" : Str)) = false by decide +kernel]
theorem w_tell_copy : cmpD .eq (.str "tell") (.str "copy") = some false := by rw [cmpD_eqs (by decide +kernel) (by decide +kernel), show (("tell" : Str) == ("copy" : Str)) = false by decide +kernel]
theorem w_tell_tell : cmpD .eq (.str "tell") (.str "tell") = some true := by rw [cmpD_eqs (by decide +kernel) (by decide +kernel), show (("tell" : Str) == ("tell" : Str)) = true by decide +kernel]
theorem w_tell_go : cmpD .eq (.str "tell") (.str "go") = some false := by rw [cmpD_eqs (by decide +kernel) (by decide +kernel), show (("tell" : Str) == ("go" : Str)) = false by decide +kernel]
theorem w_tell_ask : cmpD .eq (.str "tell") (.str "ask") = some false := by rw [cmpD_eqs (by decide +kernel) (by decide +kernel), show (("tell" : Str) == ("ask" : Str)) = false by decide +kernel]
theorem w_tell_stop : cmpD .eq (.str "tell") (.str "stop") = some false := by rw [cmpD_eqs (by decide +kernel) (by decide +kernel), show (("tell" : Str) == ("stop" : Str)) = false by decide +kernel]
theorem w_tell_is : cmpD .eq (.str "tell") (.str "is") = some false := by rw [cmpD_eqs (by decide +kernel) (by decide +kernel), show (("tell" : Str) == ("is" : Str)) = false by decide +kernel]
theorem w_tell_by : cmpD .eq (.str "tell") (.str "by") = some false := by rw [cmpD_eqs (by decide +kernel) (by decide +kernel), show (("tell" : Str) == ("by" : Str)) = false by decide +kernel]
theorem w_go_put : cmpD .eq (.str "go") (.str "put") = some false := by rw [cmpD_eqs (by decide +kernel) (by decide +kernel), show (("go" : Str) == ("put" : Str)) = false by decide +kernel]
theorem w_go_more : cmpD .eq (.str "go") (.str "more") = some false := by rw [cmpD_eqs (by decide +kernel) (by decide +kernel), show (("go" : Str) == ("more" : Str)) = false by decide +kernel]
theorem w_go_copy : cmpD .eq (.str "go") (.str "copy") = some false := by rw [cmpD_eqs (by decide +kernel) (by decide +kernel), show (("go" : Str) == ("copy" : Str)) = false by decide +kernel]
theorem w_go_tell : cmpD .eq (.str "go") (.str "tell") = some false := by rw [cmpD_eqs (by decide +kernel) (by decide +kernel), show (("go" : Str) == ("tell" : Str)) = false by decide +kernel]
theorem w_go_go : cmpD .eq (.str "go") (.str "go") = some true := by rw [cmpD_eqs (by decide +kernel) (by decide +kernel), show (("go" : Str) == ("go" : Str)) = true by decide +kernel]
theorem w_go_ask : cmpD .eq (.str "go") (.str "ask") = some false := by rw [cmpD_eqs (by decide +kernel) (by decide +kernel), show (("go" : Str) == ("ask" : Str)) = false by decide +kernel]
theorem w_go_stop : cmpD .eq (.str "go") (.str "stop") = some false := by rw [cmpD_eqs (by decide +kernel) (by decide +kernel), show (("go" : Str) == ("stop" : Str)) = false by decide +kernel]
theorem w_go_is : cmpD .eq (.str "go") (.str "is") = some false := by rw [cmpD_eqs (by decide +kernel) (by decide +kernel), show (("go" : Str) == ("is" : Str)) = false by decide +kernel]
theorem w_go_by : cmpD .eq (.str "go") (.str "by") = some false := by rw [cmpD_eqs (by decide +kernel) (by decide +kernel), show (("go" : Str) == ("by" : Str)) = false by decide +kernel]
theorem w_ask_put : cmpD .eq (.str "ask") (.str "put") = some false := by rw [cmpD_eqs (by decide +kernel) (by decide +kernel), show (("ask" : Str) == ("put" : Str)) = false by decide +kernel]
theorem w_ask_more : cmpD .eq (.str "ask") (.str "more") = some false := by rw [cmpD_eqs (by decide +kernel) (by decide +kernel), show (("ask" : Str) == ("more" : Str)) = false by decide +kernel]
theorem w_ask_copy : cmpD .eq (.str "ask") (.str "copy") = some false := by rw [cmpD_eqs (by decide +kernel) (by decide +kernel), show (("ask" : Str) == ("copy" : Str)) = false by decide +kernel]
theorem w_ask_tell : cmpD .eq (.str "ask") (.str "tell") = some false := by rw [cmpD_eqs (by decide +kernel) (by decide +kernel), show (("ask" : Str) == ("tell" : Str)) = false by decide +kernel]
theorem w_ask_go : cmpD .eq (.str "ask") (.str "go") = some false := by rw [cmpD_eqs (by decide +kernel) (by decide +kernel), show (("ask" : Str) == ("go" : Str)) = false by decide +kernel]
theorem w_ask_ask : cmpD .eq (.str "ask") (.str "ask") = some true := by rw [cmpD_eqs (by decide +kernel) (by decide +kernel), show (("ask" : Str) == ("ask" : Str)) = true by decide +kernel]
theorem w_ask_stop : cmpD .eq (.str "ask") (.str "stop") = some false := by rw [cmpD_eqs (by decide +kernel) (by decide +kernel), show (("ask" : Str) == ("stop" : Str)) = false by decide +kernel]
theorem w_ask_is : cmpD .eq (.str "ask") (.str "is") = some false := by rw [cmpD_eqs (by decide +kernel) (by decide +kernel), show (("ask" : Str) == ("is" : Str)) = false by decide +kernel]
theorem w_ask_by : cmpD .eq (.str "ask") (.str "by") = some false := by rw [cmpD_eqs (by decide +kernel) (by decide +kernel), show (("ask" : Str) == ("by" : Str)) = false by decide +kernel]
theorem w_stop_put : cmpD .eq (.str "stop") (.str "put") = some false := by rw [cmpD_eqs (by decide +kernel) (by decide +kernel), show (("stop" : Str) == ("put" : Str)) = false by decide +kernel]
theorem w_stop_more : cmpD .eq (.str "stop") (.str "more") = some false := by rw [cmpD_eqs (by decide +kernel) (by decide +kernel), show (("stop" : Str) == ("more" : Str)) = false by decide +kernel]
theorem w_stop_copy : cmpD .eq (.str "stop") (.str "copy") = some false := by rw [cmpD_eqs (by decide +kernel) (by decide +kernel), show (("stop" : Str) == ("copy" : Str)) = false by decide +kernel]
theorem w_stop_tell : cmpD .eq (.str "stop") (.str "tell") = some false := by rw [cmpD_eqs (by decide +kernel) (by decide +kernel), show (("stop" : Str) == ("tell" : Str)) = false by decide +kernel]
theorem w_stop_go : cmpD .eq (.str "stop") (.str "go") = some false := by rw [cmpD_eqs (by decide +kernel) (by decide +kernel), show (("stop" : Str) == ("go" : Str)) = false by decide +kernel]
theorem w_stop_ask : cmpD .eq (.str "stop") (.str "ask") = some false := by rw [cmpD_eqs (by decide +kernel) (by decide +kernel), show (("stop" : Str) == ("ask" : Str)) = false by decide +kernel]
theorem w_stop_stop : cmpD .eq (.str "stop") (.str "stop") = some true := by rw [cmpD_eqs (by decide +kernel) (by decide +kernel), show (("stop" : Str) == ("stop" : Str)) = true by decide +kernel]
theorem w_stop_is : cmpD .eq (.str "stop") (.str "is") = some false := by rw [cmpD_eqs (by decide +kernel) (by decide +kernel), show (("stop" : Str) == ("is" : Str)) = false by decide +kernel]
theorem w_stop_by : cmpD .eq (.str "stop") (.str "by") = some false := by rw [cmpD_eqs (by decide +kernel) (by decide +kernel), show (("stop" : Str) == ("by" : Str)) = false by decide +kernel]
theorem w_is_put : cmpD .eq (.str "is") (.str "put") = some false := by rw [cmpD_eqs (by decide +kernel) (by decide +kernel), show (("is" : Str) == ("put" : Str)) = false by decide +kernel]
theorem w_is_more : cmpD .eq (.str "is") (.str "more") = some false := by rw [cmpD_eqs (by decide +kernel) (by decide +kernel), show (("is" : Str) == ("more" : Str)) = false by decide +kernel]
theorem w_is_copy : cmpD .eq (.str "is") (.str "copy") = some false := by rw [cmpD_eqs (by decide +kernel) (by decide +kernel), show (("is" : Str) == ("copy" : Str)) = false by decide +kernel]
theorem w_is_tell : cmpD .eq (.str "is") (.str "tell") = some false := by rw [cmpD_eqs (by decide +kernel) (by decide +kernel), show (("is" : Str) == ("tell" : Str)) = false by decide +kernel]
theorem w_is_go : cmpD .eq (.str "is") (.str "go") = some false := by rw [cmpD_eqs (by decide +kernel) (by decide +kernel), show (("is" : Str) == ("go" : Str)) = false by decide +kernel]
theorem w_is_ask : cmpD .eq (.str "is") (.str "ask") = some false := by rw [cmpD_eqs (by decide +kernel) (by decide +kernel), show (("is" : Str) == ("ask" : Str)) = false by decide +kernel]
theorem w_is_stop : cmpD .eq (.str "is") (.str "stop") = some false := by rw [cmpD_eqs (by decide +kernel) (by decide +kernel), show (("is" : Str) == ("stop" : Str)) = false by decide +kernel]
theorem w_is_is : cmpD .eq (.str "is") (.str "is") = some true := by rw [cmpD_eqs (by decide +kernel) (by decide +kernel), show (("is" : Str) == ("is" : Str)) = true by decide +kernel]
theorem w_is_by : cmpD .eq (.str "is") (.str "by") = some false := by rw [cmpD_eqs (by decide +kernel) (by decide +kernel), show (("is" : Str) == ("by" : Str)) = false by decide +kernel]
theorem w_by_put : cmpD .eq (.str "by") (.str "put") = some false := by rw [cmpD_eqs (by decide +kernel) (by decide +kernel), show (("by" : Str) == ("put" : Str)) = false by decide +kernel]
theorem w_by_more : cmpD .eq (.str "by") (.str "more") = some false := by rw [cmpD_eqs (by decide +kernel) (by decide +kernel), show (("by" : Str) == ("more" : Str)) = false by decide +kernel]
theorem w_by_copy : cmpD .eq (.str "by") (.str "copy") = some false := by rw [cmpD_eqs (by decide +kernel) (by decide +kernel), show (("by" : Str) == ("copy" : Str)) = false by decide +kernel]
theorem w_by_tell : cmpD .eq (.str "by") (.str "tell") = some false := by rw [cmpD_eqs (by decide +kernel) (by decide +kernel), show (("by" : Str) == ("tell" : Str)) = false by decide +kernel]
theorem w_by_go : cmpD .eq (.str "by") (.str "go") = some false := by rw [cmpD_eqs (by decide +kernel) (by decide +kernel), show (("by" : Str) == ("go" : Str)) = false by decide +kernel]
theorem w_by_ask : cmpD .eq (.str "by") (.str "ask") = some false := by rw [cmpD_eqs (by decide +kernel) (by decide +kernel), show (("by" : Str) == ("ask" : Str)) = false by decide +kernel]
theorem w_by_stop : cmpD .eq (.str "by") (.str "stop") = some false := by rw [cmpD_eqs (by decide +kernel) (by decide +kernel), show (("by" : Str) == ("stop" : Str)) = false by decide +kernel]
theorem w_by_is : cmpD .eq (.str "by") (.str "is") = some false := by rw [cmpD_eqs (by decide +kernel) (by decide +kernel), show (("by" : Str) == ("is" : Str)) = false by decide +kernel]
theorem w_by_by : cmpD .eq (.str "by") (.str "by") = some true := by rw [cmpD_eqs (by decide +kernel) (by decide +kernel), show (("by" : Str) == ("by" : Str)) = true by decide +kernel]
end Law
namespace Law
open PySem Dv
/-! ### rules and numbers as plain data -/
inductive Rule where
  | is (n : Option Nat) | by (b : Nat) (ns : List (Option Nat))
def Rule.d : Rule → D
  | .is n => .tuple [.str "is", cellD n]
  | .by b ns => .tuple [.str "by", .int b, .tuple (ns.map cellD)]
def CellOk (m : Nat) (c : Option Nat) : Prop := ∀ n, c = some n → n ≤ m
def RuleOk (p q : Prog) : Rule → Prop
  | .is n => CellOk q.most n
  | .by b ns => b < p.boxes ∧ ns.length = p.most + 1 ∧ ∀ c ∈ ns, CellOk q.most c
theorem pick_cell (t : Prop) [Decidable t] (n : Nat) : L2.atI [PyData.int n, PyData.none] (if t then 1 else 0) = some (cellD (if t then none else some n)) := by
  split <;> rfl
theorem rule_ok {fu n : Nat} (s : Int) {p q : Prog} (hp : p.Ok) (hq : q.Ok) : ∃ r, RuleOk p q r ∧ run tab fu (n + 1) "_law_rule" [.int s, p.d, q.d] = some (.ok .shr r.d) := by
  rw [run_law_rule]
  have hm : (0 : Int) < (q.most : Int) + 1 := by omega
  by_cases hb : (p.boxes = 0 ∨ s % 4 = 0)
  · obtain ⟨n0, e0, h0⟩ := mod_nat (s / 4) (m := q.most + 1) (by omega)
    have e0' : s / 4 % ((q.most : Int) + 1) = n0 := by simpa using e0
    refine ⟨.is (if (s / 40 % 13 == 1) = true then none else some n0), ?_, ?_⟩
    · intro m hm; split at hm <;> cases hm; omega
    · refine congrArg outcome (?_ : _ = some (.rt .shr _))
      unfold d_law_rule
      refine seq_rt ?_
      have hg : evE (run tab fu n) (.or [.cmp .eq (.idx (.var 1) (.int 0)) (.int 0), .cmp .eq (.bin .mod (.var 0) (.int 4)) (.int 0)]) [some (false, .int s), some (false, p.d), some (false, q.d), none, none] = some (.ok .shr (.bool true)) := by
        rcases hb with hb | hb
        · simp only [runD, Dv.start, evSs_nil, evSs_cons, evS, evE, evL, evB, evAnd, evOr, evO, onOwn, guardO, setAll, thenS_nx, thenS_rt, thenS_ex, onV_ok, onV_ex, onB_ok, onB_ex, bindV_ok, bindV_ex, boolV_ok, bindA_ok, consA_ok, optI_none, optI_some, outcome_nx, outcome_shr, outcome_frs, outcome_ex, setV_shr, setV_frs, binD_add, binD_addT, binD_addL, binD_sub, binD_mulr, binD_mull, binD_fdiv', binD_mod', cmpD_lt, cmpD_le, cmpD_gt, cmpD_ge, cmpD_eqi, cmpD_nei, cmpD_is, cmpD_isn, cmpD_memL, cmpD_nmemL, cmpD_memT, cmpD_nmemT, isN_none, isN_int, isN_tup, isN_lst, isN_bool, isN_str, flat_int, flat_str, flat_none, flat_bool, fnD_lenL, fnD_lenT, fnD_lenS, fnD_intB, fnD_str, fnD_tupL, fnD_tupT, fnD_lstL, fnD_lstT, fnD_all, idxD_L, idxD_T, idxD_S, slcD_L, slcD_T, itemsD_L, itemsD_T, asD_shr, asD_frs, asB_ok, okCall_t, noBrw_nil, noBrw_shr, noBrw_frs, tests_nil, tests_one, at0, at1, at2, lim_eq, List.set_cons_zero, List.set_cons_succ, List.getElem?_cons_zero, List.getElem?_cons_succ, List.length_cons, List.length_nil, List.map_cons, List.map_nil, Option.map_some, Option.map_none, if_true, if_false, ite_true, ite_false, reduceIte, reduceCtorEq, decide_true, decide_false, Nat.reduceAdd, Nat.reduceSub, Nat.reduceEqDiff, Int.reduceNeg, Int.reduceLT, Int.reduceLE, Bool.not_true, Bool.not_false, Nat.reduceLeDiff, and_self, true_and, and_true, Prog.d, hb, Int.cast_ofNat_Int, beq_self_eq_true]
        · by_cases h9 : ((p.boxes : Int) == 0) = true
          · simp only [runD, Dv.start, evSs_nil, evSs_cons, evS, evE, evL, evB, evAnd, evOr, evO, onOwn, guardO, setAll, thenS_nx, thenS_rt, thenS_ex, onV_ok, onV_ex, onB_ok, onB_ex, bindV_ok, bindV_ex, boolV_ok, bindA_ok, consA_ok, optI_none, optI_some, outcome_nx, outcome_shr, outcome_frs, outcome_ex, setV_shr, setV_frs, binD_add, binD_addT, binD_addL, binD_sub, binD_mulr, binD_mull, binD_fdiv', binD_mod', cmpD_lt, cmpD_le, cmpD_gt, cmpD_ge, cmpD_eqi, cmpD_nei, cmpD_is, cmpD_isn, cmpD_memL, cmpD_nmemL, cmpD_memT, cmpD_nmemT, isN_none, isN_int, isN_tup, isN_lst, isN_bool, isN_str, flat_int, flat_str, flat_none, flat_bool, fnD_lenL, fnD_lenT, fnD_lenS, fnD_intB, fnD_str, fnD_tupL, fnD_tupT, fnD_lstL, fnD_lstT, fnD_all, idxD_L, idxD_T, idxD_S, slcD_L, slcD_T, itemsD_L, itemsD_T, asD_shr, asD_frs, asB_ok, okCall_t, noBrw_nil, noBrw_shr, noBrw_frs, tests_nil, tests_one, at0, at1, at2, lim_eq, List.set_cons_zero, List.set_cons_succ, List.getElem?_cons_zero, List.getElem?_cons_succ, List.length_cons, List.length_nil, List.map_cons, List.map_nil, Option.map_some, Option.map_none, if_true, if_false, ite_true, ite_false, reduceIte, reduceCtorEq, decide_true, decide_false, Nat.reduceAdd, Nat.reduceSub, Nat.reduceEqDiff, Int.reduceNeg, Int.reduceLT, Int.reduceLE, Bool.not_true, Bool.not_false, Nat.reduceLeDiff, and_self, true_and, and_true, Prog.d, h9]
          · simp only [runD, Dv.start, evSs_nil, evSs_cons, evS, evE, evL, evB, evAnd, evOr, evO, onOwn, guardO, setAll, thenS_nx, thenS_rt, thenS_ex, onV_ok, onV_ex, onB_ok, onB_ex, bindV_ok, bindV_ex, boolV_ok, bindA_ok, consA_ok, optI_none, optI_some, outcome_nx, outcome_shr, outcome_frs, outcome_ex, setV_shr, setV_frs, binD_add, binD_addT, binD_addL, binD_sub, binD_mulr, binD_mull, binD_fdiv', binD_mod', cmpD_lt, cmpD_le, cmpD_gt, cmpD_ge, cmpD_eqi, cmpD_nei, cmpD_is, cmpD_isn, cmpD_memL, cmpD_nmemL, cmpD_memT, cmpD_nmemT, isN_none, isN_int, isN_tup, isN_lst, isN_bool, isN_str, flat_int, flat_str, flat_none, flat_bool, fnD_lenL, fnD_lenT, fnD_lenS, fnD_intB, fnD_str, fnD_tupL, fnD_tupT, fnD_lstL, fnD_lstT, fnD_all, idxD_L, idxD_T, idxD_S, slcD_L, slcD_T, itemsD_L, itemsD_T, asD_shr, asD_frs, asB_ok, okCall_t, noBrw_nil, noBrw_shr, noBrw_frs, tests_nil, tests_one, at0, at1, at2, lim_eq, List.set_cons_zero, List.set_cons_succ, List.getElem?_cons_zero, List.getElem?_cons_succ, List.length_cons, List.length_nil, List.map_cons, List.map_nil, Option.map_some, Option.map_none, if_true, if_false, ite_true, ite_false, reduceIte, reduceCtorEq, decide_true, decide_false, Nat.reduceAdd, Nat.reduceSub, Nat.reduceEqDiff, Int.reduceNeg, Int.reduceLT, Int.reduceLE, Bool.not_true, Bool.not_false, Nat.reduceLeDiff, and_self, true_and, and_true, Prog.d, hb, beq_self_eq_true, Bool.not_eq_true, Bool.eq_false_iff.mpr h9, Bool.false_eq_true]
      rw [evS, show Dv.start _ _ = [some (false, .int s), some (false, p.d), some (false, q.d), none, none] from rfl, hg, onB_ok]
      simp only [runD, Dv.start, evSs_nil, evSs_cons, evS, evE, evL, evB, evAnd, evOr, evO, onOwn, guardO, setAll, thenS_nx, thenS_rt, thenS_ex, onV_ok, onV_ex, onB_ok, onB_ex, bindV_ok, bindV_ex, boolV_ok, bindA_ok, consA_ok, optI_none, optI_some, outcome_nx, outcome_shr, outcome_frs, outcome_ex, setV_shr, setV_frs, binD_add, binD_addT, binD_addL, binD_sub, binD_mulr, binD_mull, binD_fdiv', binD_mod', cmpD_lt, cmpD_le, cmpD_gt, cmpD_ge, cmpD_eqi, cmpD_nei, cmpD_is, cmpD_isn, cmpD_memL, cmpD_nmemL, cmpD_memT, cmpD_nmemT, isN_none, isN_int, isN_tup, isN_lst, isN_bool, isN_str, flat_int, flat_str, flat_none, flat_bool, fnD_lenL, fnD_lenT, fnD_lenS, fnD_intB, fnD_str, fnD_tupL, fnD_tupT, fnD_lstL, fnD_lstT, fnD_all, idxD_L, idxD_T, idxD_S, slcD_L, slcD_T, itemsD_L, itemsD_T, asD_shr, asD_frs, asB_ok, okCall_t, noBrw_nil, noBrw_shr, noBrw_frs, tests_nil, tests_one, at0, at1, at2, lim_eq, List.set_cons_zero, List.set_cons_succ, List.getElem?_cons_zero, List.getElem?_cons_succ, List.length_cons, List.length_nil, List.map_cons, List.map_nil, Option.map_some, Option.map_none, if_true, if_false, ite_true, ite_false, reduceIte, reduceCtorEq, decide_true, decide_false, Nat.reduceAdd, Nat.reduceSub, Nat.reduceEqDiff, Int.reduceNeg, Int.reduceLT, Int.reduceLE, Bool.not_true, Bool.not_false, Nat.reduceLeDiff, and_self, true_and, and_true, Prog.d, hm, e0', pick_cell, Rule.d, Nat.reduceLeDiff]
  · have hb1 : ((p.boxes : Int) == 0) = false := by
      rw [beq_eq_false_iff_ne]; omega
    have hb2 : (s % 4 == 0) = false := by
      rw [beq_eq_false_iff_ne]; omega
    obtain ⟨b0, eb, hb0⟩ := mod_nat (s / 400) (m := p.boxes) (by omega)
    have hp4 := hp.most
    have hbz : (0 : Int) < p.boxes := by omega
    obtain ⟨st', el, xs, k4, est, hl, hx⟩ := forGo_rng (f := fun d st => evSs (run tab fu n) fu b_law_rule_0 (List.set st 4 (some (false, d))))
      (fun j st => ∃ (xs : List (Option Nat)) (k4 : Option (Bool × D)), st = [some (false, .int s), some (false, p.d), some (false, q.d), some (true, .list (xs.map cellD)), k4] ∧ xs.length = j ∧ ∀ c ∈ xs, CellOk q.most c) (p.most + 1)
      [some (false, .int s), some (false, p.d), some (false, q.d), some (true, .list []), none] (by
        rintro j st hj ⟨xs, k4, rfl, hl, hx⟩
        have hd1 : (0 : Int) < 4 + 5 * j := by omega
        have hd2 : (4 + 5 * j : Int) < 1073741824 := by omega
        have hd3 : (0 : Int) < 40 + 7 * j := by omega
        have hd4 : (40 + 7 * j : Int) < 1073741824 := by omega
        obtain ⟨n0, e0, h0⟩ := mod_nat (s / (4 + 5 * j)) (m := q.most + 1) (by omega)
        have e0' : s / (4 + 5 * (j : Int)) % ((q.most : Int) + 1) = n0 := by simpa using e0
        have hl2 : xs.length < 100000 := by omega
        refine ⟨_, ?_, xs ++ [if (s / (40 + 7 * (j : Int)) % 23 == 1) = true then none else some n0], some (false, .int j), rfl, by rw [List.length_append, hl]; rfl, fun c hc => ?_⟩
        · unfold b_law_rule_0
          simp only [runD, Dv.start, evSs_nil, evSs_cons, evS, evE, evL, evB, evAnd, evOr, evO, onOwn, guardO, setAll, thenS_nx, thenS_rt, thenS_ex, onV_ok, onV_ex, onB_ok, onB_ex, bindV_ok, bindV_ex, boolV_ok, bindA_ok, consA_ok, optI_none, optI_some, outcome_nx, outcome_shr, outcome_frs, outcome_ex, setV_shr, setV_frs, binD_add, binD_addT, binD_addL, binD_sub, binD_mulr, binD_mull, binD_fdiv', binD_mod', cmpD_lt, cmpD_le, cmpD_gt, cmpD_ge, cmpD_eqi, cmpD_nei, cmpD_is, cmpD_isn, cmpD_memL, cmpD_nmemL, cmpD_memT, cmpD_nmemT, isN_none, isN_int, isN_tup, isN_lst, isN_bool, isN_str, flat_int, flat_str, flat_none, flat_bool, fnD_lenL, fnD_lenT, fnD_lenS, fnD_intB, fnD_str, fnD_tupL, fnD_tupT, fnD_lstL, fnD_lstT, fnD_all, idxD_L, idxD_T, idxD_S, slcD_L, slcD_T, itemsD_L, itemsD_T, asD_shr, asD_frs, asB_ok, okCall_t, noBrw_nil, noBrw_shr, noBrw_frs, tests_nil, tests_one, at0, at1, at2, lim_eq, List.set_cons_zero, List.set_cons_succ, List.getElem?_cons_zero, List.getElem?_cons_succ, List.length_cons, List.length_nil, List.map_cons, List.map_nil, Option.map_some, Option.map_none, if_true, if_false, ite_true, ite_false, reduceIte, reduceCtorEq, decide_true, decide_false, Nat.reduceAdd, Nat.reduceSub, Nat.reduceEqDiff, Int.reduceNeg, Int.reduceLT, Int.reduceLE, Bool.not_true, Bool.not_false, Nat.reduceLeDiff, and_self, true_and, and_true, Prog.d, hm, e0', pick_cell, hd1, hd2, hd3, hd4, List.map_append, List.length_map, hl2, Nat.reduceLeDiff]
        · rcases List.mem_append.mp hc with hc | hc
          · exact hx c hc
          · simp at hc; subst hc
            intro m hm; split at hm <;> cases hm; omega) ⟨[], none, rfl, rfl, by simp⟩
    subst est
    refine ⟨.by b0 xs, ⟨hb0, hl, hx⟩, ?_⟩
    refine congrArg outcome (?_ : _ = some (.rt .shr _))
    unfold d_law_rule
    rw [show Dv.start _ _ = [some (false, .int s), some (false, p.d), some (false, q.d), none, none] from rfl]
    refine (seq (st' := [some (false, .int s), some (false, p.d), some (false, q.d), none, none]) ?_).trans ?_
    · simp only [runD, Dv.start, evSs_nil, evSs_cons, evS, evE, evL, evB, evAnd, evOr, evO, onOwn, guardO, setAll, thenS_nx, thenS_rt, thenS_ex, onV_ok, onV_ex, onB_ok, onB_ex, bindV_ok, bindV_ex, boolV_ok, bindA_ok, consA_ok, optI_none, optI_some, outcome_nx, outcome_shr, outcome_frs, outcome_ex, setV_shr, setV_frs, binD_add, binD_addT, binD_addL, binD_sub, binD_mulr, binD_mull, binD_fdiv', binD_mod', cmpD_lt, cmpD_le, cmpD_gt, cmpD_ge, cmpD_eqi, cmpD_nei, cmpD_is, cmpD_isn, cmpD_memL, cmpD_nmemL, cmpD_memT, cmpD_nmemT, isN_none, isN_int, isN_tup, isN_lst, isN_bool, isN_str, flat_int, flat_str, flat_none, flat_bool, fnD_lenL, fnD_lenT, fnD_lenS, fnD_intB, fnD_str, fnD_tupL, fnD_tupT, fnD_lstL, fnD_lstT, fnD_all, idxD_L, idxD_T, idxD_S, slcD_L, slcD_T, itemsD_L, itemsD_T, asD_shr, asD_frs, asB_ok, okCall_t, noBrw_nil, noBrw_shr, noBrw_frs, tests_nil, tests_one, at0, at1, at2, lim_eq, List.set_cons_zero, List.set_cons_succ, List.getElem?_cons_zero, List.getElem?_cons_succ, List.length_cons, List.length_nil, List.map_cons, List.map_nil, Option.map_some, Option.map_none, if_true, if_false, ite_true, ite_false, reduceIte, reduceCtorEq, decide_true, decide_false, Nat.reduceAdd, Nat.reduceSub, Nat.reduceEqDiff, Int.reduceNeg, Int.reduceLT, Int.reduceLE, Bool.not_true, Bool.not_false, Nat.reduceLeDiff, and_self, true_and, and_true, Prog.d, hb1, hb2, Bool.false_eq_true]
    refine (seq (by simp only [runD, Dv.start, evSs_nil, evSs_cons, evS, evE, evL, evB, evAnd, evOr, evO, onOwn, guardO, setAll, thenS_nx, thenS_rt, thenS_ex, onV_ok, onV_ex, onB_ok, onB_ex, bindV_ok, bindV_ex, boolV_ok, bindA_ok, consA_ok, optI_none, optI_some, outcome_nx, outcome_shr, outcome_frs, outcome_ex, setV_shr, setV_frs, binD_add, binD_addT, binD_addL, binD_sub, binD_mulr, binD_mull, binD_fdiv', binD_mod', cmpD_lt, cmpD_le, cmpD_gt, cmpD_ge, cmpD_eqi, cmpD_nei, cmpD_is, cmpD_isn, cmpD_memL, cmpD_nmemL, cmpD_memT, cmpD_nmemT, isN_none, isN_int, isN_tup, isN_lst, isN_bool, isN_str, flat_int, flat_str, flat_none, flat_bool, fnD_lenL, fnD_lenT, fnD_lenS, fnD_intB, fnD_str, fnD_tupL, fnD_tupT, fnD_lstL, fnD_lstT, fnD_all, idxD_L, idxD_T, idxD_S, slcD_L, slcD_T, itemsD_L, itemsD_T, asD_shr, asD_frs, asB_ok, okCall_t, noBrw_nil, noBrw_shr, noBrw_frs, tests_nil, tests_one, at0, at1, at2, lim_eq, List.set_cons_zero, List.set_cons_succ, List.getElem?_cons_zero, List.getElem?_cons_succ, List.length_cons, List.length_nil, List.map_cons, List.map_nil, Option.map_some, Option.map_none, if_true, if_false, ite_true, ite_false, reduceIte, reduceCtorEq, decide_true, decide_false, Nat.reduceAdd, Nat.reduceSub, Nat.reduceEqDiff, Int.reduceNeg, Int.reduceLT, Int.reduceLE, Bool.not_true, Bool.not_false, Nat.reduceLeDiff, and_self, true_and, and_true, Nat.zero_le]; rfl)).trans ?_
    refine (seq ((forR_of (m := p.most + 1) ?_ (by omega)).trans el)).trans ?_
    · simp only [runD, Dv.start, evSs_nil, evSs_cons, evS, evE, evL, evB, evAnd, evOr, evO, onOwn, guardO, setAll, thenS_nx, thenS_rt, thenS_ex, onV_ok, onV_ex, onB_ok, onB_ex, bindV_ok, bindV_ex, boolV_ok, bindA_ok, consA_ok, optI_none, optI_some, outcome_nx, outcome_shr, outcome_frs, outcome_ex, setV_shr, setV_frs, binD_add, binD_addT, binD_addL, binD_sub, binD_mulr, binD_mull, binD_fdiv', binD_mod', cmpD_lt, cmpD_le, cmpD_gt, cmpD_ge, cmpD_eqi, cmpD_nei, cmpD_is, cmpD_isn, cmpD_memL, cmpD_nmemL, cmpD_memT, cmpD_nmemT, isN_none, isN_int, isN_tup, isN_lst, isN_bool, isN_str, flat_int, flat_str, flat_none, flat_bool, fnD_lenL, fnD_lenT, fnD_lenS, fnD_intB, fnD_str, fnD_tupL, fnD_tupT, fnD_lstL, fnD_lstT, fnD_all, idxD_L, idxD_T, idxD_S, slcD_L, slcD_T, itemsD_L, itemsD_T, asD_shr, asD_frs, asB_ok, okCall_t, noBrw_nil, noBrw_shr, noBrw_frs, tests_nil, tests_one, at0, at1, at2, lim_eq, List.set_cons_zero, List.set_cons_succ, List.getElem?_cons_zero, List.getElem?_cons_succ, List.length_cons, List.length_nil, List.map_cons, List.map_nil, Option.map_some, Option.map_none, if_true, if_false, ite_true, ite_false, reduceIte, reduceCtorEq, decide_true, decide_false, Nat.reduceAdd, Nat.reduceSub, Nat.reduceEqDiff, Int.reduceNeg, Int.reduceLT, Int.reduceLE, Bool.not_true, Bool.not_false, Nat.reduceLeDiff, and_self, true_and, and_true, Prog.d]; rfl
    refine (seq_rt (by simp only [runD, Dv.start, evSs_nil, evSs_cons, evS, evE, evL, evB, evAnd, evOr, evO, onOwn, guardO, setAll, thenS_nx, thenS_rt, thenS_ex, onV_ok, onV_ex, onB_ok, onB_ex, bindV_ok, bindV_ex, boolV_ok, bindA_ok, consA_ok, optI_none, optI_some, outcome_nx, outcome_shr, outcome_frs, outcome_ex, setV_shr, setV_frs, binD_add, binD_addT, binD_addL, binD_sub, binD_mulr, binD_mull, binD_fdiv', binD_mod', cmpD_lt, cmpD_le, cmpD_gt, cmpD_ge, cmpD_eqi, cmpD_nei, cmpD_is, cmpD_isn, cmpD_memL, cmpD_nmemL, cmpD_memT, cmpD_nmemT, isN_none, isN_int, isN_tup, isN_lst, isN_bool, isN_str, flat_int, flat_str, flat_none, flat_bool, fnD_lenL, fnD_lenT, fnD_lenS, fnD_intB, fnD_str, fnD_tupL, fnD_tupT, fnD_lstL, fnD_lstT, fnD_all, idxD_L, idxD_T, idxD_S, slcD_L, slcD_T, itemsD_L, itemsD_T, asD_shr, asD_frs, asB_ok, okCall_t, noBrw_nil, noBrw_shr, noBrw_frs, tests_nil, tests_one, at0, at1, at2, lim_eq, List.set_cons_zero, List.set_cons_succ, List.getElem?_cons_zero, List.getElem?_cons_succ, List.length_cons, List.length_nil, List.map_cons, List.map_nil, Option.map_some, Option.map_none, if_true, if_false, ite_true, ite_false, reduceIte, reduceCtorEq, decide_true, decide_false, Nat.reduceAdd, Nat.reduceSub, Nat.reduceEqDiff, Int.reduceNeg, Int.reduceLT, Int.reduceLE, Bool.not_true, Bool.not_false, Nat.reduceLeDiff, and_self, true_and, and_true, Prog.d, hbz, eb, Nat.reduceLeDiff]; rfl)).trans rfl
end Law
namespace Law
open PySem Dv
/-! ### places as plain data -/
structure Place where
  row : Nat
  other : Nat
  rules : List Rule
def rulesD (rs : List Rule) : D := .tuple (rs.map Rule.d)
def Place.d (x : Place) : D := .tuple [.int x.row, .int x.other, rulesD x.rules]
structure Place.Ok (p q : Prog) (x : Place) : Prop where
  row : x.row < p.rows.length
  other : x.other < q.rows.length
  len : x.rules.length = q.boxes
  rules : ∀ r ∈ x.rules, RuleOk p q r
def RowsApart (xs : List Place) : Prop := (xs.map Place.row).Nodup
def placesD (xs : List Place) : D := .list (xs.map Place.d)
end Law
namespace Law
open PySem Dv
theorem rules_ok {fu n : Nat} (s : Int) {p q : Prog} (hp : p.Ok) (hq : q.Ok) (st : Nat → Ev) (te : D → Option D)
    (hte : ∀ k : Nat, k < q.boxes → te (.int k) = asD (run tab fu (n + 1) "_law_rule" [.int (nextS (s + 7 * k)), p.d, q.d])) :
    ∃ rs : List Rule, rs.length = q.boxes ∧ (∀ r ∈ rs, RuleOk p q r) ∧ compGo (fun _ => some true) te (rngD q.boxes) = some (rs.map Rule.d) := by
  have key : ∀ ks : List Nat, (∀ k ∈ ks, k < q.boxes) → ∃ rs : List Rule, rs.length = ks.length ∧ (∀ r ∈ rs, RuleOk p q r) ∧ compGo (fun _ => some true) te (ks.map fun (k : Nat) => .int (k : Int)) = some (rs.map Rule.d) := by
    intro ks
    induction ks with
    | nil => intro _; exact ⟨[], rfl, by simp, rfl⟩
    | cons k ks ih =>
      intro h
      obtain ⟨rs, h1, h2, h3⟩ := ih fun x hx => h x (by simp [hx])
      obtain ⟨r, hr, er⟩ := rule_ok (fu := fu) (n := n) (nextS (s + 7 * k)) hp hq
      refine ⟨r :: rs, by simp [h1], fun x hx => ?_, ?_⟩
      · rcases List.mem_cons.mp hx with rfl | hx
        · exact hr
        · exact h2 x hx
      · rw [List.map_cons, compGo, hte k (h k (by simp)), er, asD_shr, h3]
        rfl
  obtain ⟨rs, h1, h2, h3⟩ := key (List.range q.boxes) fun k hk => List.mem_range.mp hk
  exact ⟨rs, by simpa using h1, h2, h3⟩
end Law
namespace Law
open PySem Dv
section
variable {Φ : Str → List D → Option EO} {fu : Nat} {st st' : Ev} {k : Kd} {d : D} {xs ys ds : List D}
/-! ### comprehensions -/
theorem cmpL_of {x : E} {i : Nat} {src : E} {ifs : List E} (h1 : evE Φ src st = some (.ok k d)) (h2 : itemsD d = some ds)
    (h3 : compGo (fun d => tests (evB Φ ifs (st.set i (some (false, d))))) (fun d => asD (evE Φ x (st.set i (some (false, d))))) ds = some ys) (h4 : ys.length ≤ 100000) :
    evE Φ (.cmpL x i src ifs) st = some (.ok .frs (.list ys)) := by
  rw [evE, h1, bindV_ok]
  simp only [h2]
  rw [h3, sized_some h4]
theorem cmpL_map {x : E} {i : Nat} {src : E} (g : D → D) (h1 : evE Φ src st = some (.ok k d)) (h2 : itemsD d = some ds)
    (h3 : ∀ y ∈ ds, asD (evE Φ x (st.set i (some (false, y)))) = some (g y)) (h4 : ds.length ≤ 100000) :
    evE Φ (.cmpL x i src []) st = some (.ok .frs (.list (ds.map g))) :=
  cmpL_of h1 h2 (compGo_all ds fun y hy => ⟨rfl, h3 y hy⟩) (by rw [List.length_map]; exact h4)
/-- a comprehension with a test that hands on what it lets through -/
theorem compGo_fil {tt : D → Option Bool} {te : D → Option D} {b : D → Bool} : ∀ ds : List D, (∀ d ∈ ds, tt d = some (b d) ∧ te d = some d) → compGo tt te ds = some (ds.filter b)
  | [], _ => rfl
  | d :: ds, h => by
    rw [compGo, (h d (by simp)).1, (h d (by simp)).2, compGo_fil ds (fun x hx => h x (by simp [hx])), List.filter_cons]
    cases b d <;> rfl
theorem cmpL_fil {x t : E} {i : Nat} {src : E} (b : D → Bool) (h1 : evE Φ src st = some (.ok k d)) (h2 : itemsD d = some ds)
    (h3 : ∀ y ∈ ds, evE Φ t (st.set i (some (false, y))) = some (.ok .shr (.bool (b y))) ∧ evE Φ x (st.set i (some (false, y))) = some (.ok .shr y)) (h4 : ds.length ≤ 100000) :
    evE Φ (.cmpL x i src [t]) st = some (.ok .frs (.list (ds.filter b))) :=
  cmpL_of h1 h2 (compGo_fil ds fun y hy => ⟨by rw [evB, evB, (h3 y hy).1, tests_one, asB_ok], by rw [(h3 y hy).2, asD_shr]⟩) (Nat.le_trans (List.length_filter_le _ _) h4)
theorem forT_ofL {is : List Nat} {n : E} {bd : List S} (h : evE Φ n st = some (.ok .shr (.list xs))) : evS Φ fu (.forT is n bd) st = forGo (fun d st => match d with
      | .tuple xs => match setAll is xs st with
        | some st => evSs Φ fu bd st
        | none => none
      | _ => none) xs st := by
  rw [evS, h, onV_ok]; rfl
theorem forT_ofF {is : List Nat} {n : E} {bd : List S} (h : evE Φ n st = some (.ok .frs (.list xs))) : evS Φ fu (.forT is n bd) st = forGo (fun d st => match d with
      | .tuple xs => match setAll is xs st with
        | some st => evSs Φ fu bd st
        | none => none
      | _ => none) xs st := by
  rw [evS, h, onV_ok]; rfl
theorem app_of {i : Nat} {e : E} (h1 : st[i]? = some (some (true, .list ds))) (h2 : evE Φ e st = some (.ok k d)) (hk : k ≠ .brw) (hl : ds.length < 100000) : evS Φ fu (.app i e) st = some (.nx (st.set i (some (true, .list (ds ++ [d]))))) := by
  have hl' : ds.length < lim := hl
  simp only [evS, guardO, h1, h2, onV_ok, if_neg hk, onOwn, if_pos hl', Option.map_some]
theorem lst_at {n : Nat} {α : Type} {l : List α} {f : α → D} {a : α} (h : l[n]? = some a) : L2.atI (l.map f) (n : Int) = some (f a) := atN (by rw [List.getElem?_map, h]; rfl)
end
end Law
namespace Law
open PySem Dv
/-! ### states -/
def stD (s : Nat × List Nat) : D := .tuple [.int s.1, numsD s.2]
def optS : Option (Nat × List Nat) → D
  | none => .none
  | some s => stD s
def StateOk (p : Prog) (s : Nat × List Nat) : Prop := s.1 < p.rows.length ∧ NumsOk p s.2
/-- a step, told by parts -/
def stepR (p : Prog) (s : Nat × List Nat) : Row → Option (Nat × List Nat) × Option Nat
  | .put b n => (some (s.1 + 1, s.2.set b n), none)
  | .more b => (some (s.1 + 1, s.2.set b ((s.2.getD b 0 + 1) % (p.most + 1))), none)
  | .copy b c => (some (s.1 + 1, s.2.set b (s.2.getD c 0)), none)
  | .tell b => (some (s.1 + 1, s.2), some (s.2.getD b 0))
  | .go r => (some (r, s.2), none)
  | .ask b r => (some (if s.2.getD b 0 = 0 then r else s.1 + 1, s.2), none)
  | .stop => (none, none)
def stepV (p : Prog) (s : Nat × List Nat) : Option (Nat × List Nat) × Option Nat := stepR p s (p.rows.getD s.1 .stop)
def beginV (p : Prog) : D → Bool
  | .tuple xs => ((xs.length : Int) == (p.boxes : Int)) && xs.all fun x => amongV x 0 p.most
  | _ => false
def stateV (p : Prog) : D → Bool
  | .tuple [a, b] => amongV a 0 ((p.rows.length : Int) - 1) && beginV p b
  | _ => false
def plainBeg : D → Bool
  | .tuple xs => xs.all plainD && decide (xs.length ≤ 100000)
  | d => plainD d
def plainState : D → Bool
  | .tuple [a, b] => plainD a && plainBeg b
  | .tuple _ => true
  | d => plainD d
theorem plainBeg_ty {d : D} (h : plainBeg d = true) : okTy d = true := by
  cases d with
  | dict xs => exact plain_ty (d := .dict xs) h
  | _ => rfl
theorem begin_is {fu n : Nat} (p : Prog) {d : D} (h : plainBeg d = true) : run tab fu (n + 2) "is_begin" [p.d, d] = some (.ok .shr (.bool (beginV p d))) := by
  rw [run_is_begin]
  refine runD_rt rfl ?_
  have ht := plainBeg_ty h
  unfold d_is_begin
  rw [show Dv.start _ _ = [some (false, p.d), some (false, d), none] from rfl]
  by_cases hi : isInst d .tuple = true
  · obtain ⟨xs, rfl⟩ : ∃ xs, d = .tuple xs := by cases d <;> first | exact ⟨_, rfl⟩ | simp [isInst] at hi
    simp only [plainBeg, Bool.and_eq_true, decide_eq_true_eq] at h
    obtain ⟨hp, hlim⟩ := h
    cases hl : ((xs.length : Int) == (p.boxes : Int)) with
    | false =>
      have e : beginV p (.tuple xs) = false := by
        show (((xs.length : Int) == (p.boxes : Int)) && _) = false
        rw [hl]; rfl
      rw [e]
      exact (seq_rt (by simp only [runD, Dv.start, evSs_nil, evSs_cons, evS, evE, evL, evB, evAnd, evOr, evO, onOwn, guardO, setAll, thenS_nx, thenS_rt, thenS_ex, onV_ok, onV_ex, onB_ok, onB_ex, bindV_ok, bindV_ex, boolV_ok, bindA_ok, consA_ok, optI_none, optI_some, outcome_nx, outcome_shr, outcome_frs, outcome_ex, setV_shr, setV_frs, binD_add, binD_addT, binD_addL, binD_sub, binD_mulr, binD_mull, binD_fdiv', binD_mod', cmpD_lt, cmpD_le, cmpD_gt, cmpD_ge, cmpD_eqi, cmpD_nei, cmpD_is, cmpD_isn, cmpD_memL, cmpD_nmemL, cmpD_memT, cmpD_nmemT, isN_none, isN_int, isN_tup, isN_lst, isN_bool, isN_str, flat_int, flat_str, flat_none, flat_bool, fnD_lenL, fnD_lenT, fnD_lenS, fnD_intB, fnD_str, fnD_tupL, fnD_tupT, fnD_lstL, fnD_lstT, fnD_all, idxD_L, idxD_T, idxD_S, slcD_L, slcD_T, itemsD_L, itemsD_T, asD_shr, asD_frs, asB_ok, okCall_t, noBrw_nil, noBrw_shr, noBrw_frs, tests_nil, tests_one, at0, at1, at2, lim_eq, List.set_cons_zero, List.set_cons_succ, List.getElem?_cons_zero, List.getElem?_cons_succ, List.length_cons, List.length_nil, List.map_cons, List.map_nil, Option.map_some, Option.map_none, if_true, if_false, ite_true, ite_false, reduceIte, reduceCtorEq, decide_true, decide_false, Nat.reduceAdd, Nat.reduceSub, Nat.reduceEqDiff, Int.reduceNeg, Int.reduceLT, Int.reduceLE, Bool.not_true, Bool.not_false, Nat.reduceLeDiff, and_self, true_and, and_true, ht, hi, Prog.d, hl, Bool.false_eq_true]; try rfl)).trans rfl
    | true =>
      have e : beginV p (.tuple xs) = xs.all fun x => amongV x 0 p.most := by
        show (((xs.length : Int) == (p.boxes : Int)) && _) = _
        rw [hl]; rfl
      rw [e]
      refine (seq (st' := [some (false, p.d), some (false, .tuple xs), none]) (by simp only [runD, Dv.start, evSs_nil, evSs_cons, evS, evE, evL, evB, evAnd, evOr, evO, onOwn, guardO, setAll, thenS_nx, thenS_rt, thenS_ex, onV_ok, onV_ex, onB_ok, onB_ex, bindV_ok, bindV_ex, boolV_ok, bindA_ok, consA_ok, optI_none, optI_some, outcome_nx, outcome_shr, outcome_frs, outcome_ex, setV_shr, setV_frs, binD_add, binD_addT, binD_addL, binD_sub, binD_mulr, binD_mull, binD_fdiv', binD_mod', cmpD_lt, cmpD_le, cmpD_gt, cmpD_ge, cmpD_eqi, cmpD_nei, cmpD_is, cmpD_isn, cmpD_memL, cmpD_nmemL, cmpD_memT, cmpD_nmemT, isN_none, isN_int, isN_tup, isN_lst, isN_bool, isN_str, flat_int, flat_str, flat_none, flat_bool, fnD_lenL, fnD_lenT, fnD_lenS, fnD_intB, fnD_str, fnD_tupL, fnD_tupT, fnD_lstL, fnD_lstT, fnD_all, idxD_L, idxD_T, idxD_S, slcD_L, slcD_T, itemsD_L, itemsD_T, asD_shr, asD_frs, asB_ok, okCall_t, noBrw_nil, noBrw_shr, noBrw_frs, tests_nil, tests_one, at0, at1, at2, lim_eq, List.set_cons_zero, List.set_cons_succ, List.getElem?_cons_zero, List.getElem?_cons_succ, List.length_cons, List.length_nil, List.map_cons, List.map_nil, Option.map_some, Option.map_none, if_true, if_false, ite_true, ite_false, reduceIte, reduceCtorEq, decide_true, decide_false, Nat.reduceAdd, Nat.reduceSub, Nat.reduceEqDiff, Int.reduceNeg, Int.reduceLT, Int.reduceLE, Bool.not_true, Bool.not_false, Nat.reduceLeDiff, and_self, true_and, and_true, ht, hi, Prog.d, hl, Bool.false_eq_true])).trans ?_
      have hcg : compGo (fun d => tests (evB (run tab fu (n + 1)) i_is_begin_0 [some (false, p.d), some (false, .tuple xs), some (false, d)])) (fun d => asD (evE (run tab fu (n + 1)) e_is_begin_1 [some (false, p.d), some (false, .tuple xs), some (false, d)])) xs = some (xs.map fun x => .bool (amongV x 0 p.most)) := compGo_all _ fun x hx => by
        have hpx := List.all_eq_true.mp hp x hx
        refine ⟨rfl, ?_⟩
        unfold e_is_begin_1
        simp only [runD, Dv.start, evSs_nil, evSs_cons, evS, evE, evL, evB, evAnd, evOr, evO, onOwn, guardO, setAll, thenS_nx, thenS_rt, thenS_ex, onV_ok, onV_ex, onB_ok, onB_ex, bindV_ok, bindV_ex, boolV_ok, bindA_ok, consA_ok, optI_none, optI_some, outcome_nx, outcome_shr, outcome_frs, outcome_ex, setV_shr, setV_frs, binD_add, binD_addT, binD_addL, binD_sub, binD_mulr, binD_mull, binD_fdiv', binD_mod', cmpD_lt, cmpD_le, cmpD_gt, cmpD_ge, cmpD_eqi, cmpD_nei, cmpD_is, cmpD_isn, cmpD_memL, cmpD_nmemL, cmpD_memT, cmpD_nmemT, isN_none, isN_int, isN_tup, isN_lst, isN_bool, isN_str, flat_int, flat_str, flat_none, flat_bool, fnD_lenL, fnD_lenT, fnD_lenS, fnD_intB, fnD_str, fnD_tupL, fnD_tupT, fnD_lstL, fnD_lstT, fnD_all, idxD_L, idxD_T, idxD_S, slcD_L, slcD_T, itemsD_L, itemsD_T, asD_shr, asD_frs, asB_ok, okCall_t, noBrw_nil, noBrw_shr, noBrw_frs, tests_nil, tests_one, at0, at1, at2, lim_eq, List.set_cons_zero, List.set_cons_succ, List.getElem?_cons_zero, List.getElem?_cons_succ, List.length_cons, List.length_nil, List.map_cons, List.map_nil, Option.map_some, Option.map_none, if_true, if_false, ite_true, ite_false, reduceIte, reduceCtorEq, decide_true, decide_false, Nat.reduceAdd, Nat.reduceSub, Nat.reduceEqDiff, Int.reduceNeg, Int.reduceLT, Int.reduceLE, Bool.not_true, Bool.not_false, Nat.reduceLeDiff, and_self, true_and, and_true, Prog.d, among_ok hpx]
      have hb := bools_map (fun x => amongV x 0 p.most) xs
      refine (seq_rt (d := .bool (xs.all fun x => amongV x 0 p.most)) ?_).trans rfl
      simp only [runD, Dv.start, evSs_nil, evSs_cons, evS, evE, evL, evB, evAnd, evOr, evO, onOwn, guardO, setAll, thenS_nx, thenS_rt, thenS_ex, onV_ok, onV_ex, onB_ok, onB_ex, bindV_ok, bindV_ex, boolV_ok, bindA_ok, consA_ok, optI_none, optI_some, outcome_nx, outcome_shr, outcome_frs, outcome_ex, setV_shr, setV_frs, binD_add, binD_addT, binD_addL, binD_sub, binD_mulr, binD_mull, binD_fdiv', binD_mod', cmpD_lt, cmpD_le, cmpD_gt, cmpD_ge, cmpD_eqi, cmpD_nei, cmpD_is, cmpD_isn, cmpD_memL, cmpD_nmemL, cmpD_memT, cmpD_nmemT, isN_none, isN_int, isN_tup, isN_lst, isN_bool, isN_str, flat_int, flat_str, flat_none, flat_bool, fnD_lenL, fnD_lenT, fnD_lenS, fnD_intB, fnD_str, fnD_tupL, fnD_tupT, fnD_lstL, fnD_lstT, fnD_all, idxD_L, idxD_T, idxD_S, slcD_L, slcD_T, itemsD_L, itemsD_T, asD_shr, asD_frs, asB_ok, okCall_t, noBrw_nil, noBrw_shr, noBrw_frs, tests_nil, tests_one, at0, at1, at2, lim_eq, List.set_cons_zero, List.set_cons_succ, List.getElem?_cons_zero, List.getElem?_cons_succ, List.length_cons, List.length_nil, List.map_cons, List.map_nil, Option.map_some, Option.map_none, if_true, if_false, ite_true, ite_false, reduceIte, reduceCtorEq, decide_true, decide_false, Nat.reduceAdd, Nat.reduceSub, Nat.reduceEqDiff, Int.reduceNeg, Int.reduceLT, Int.reduceLE, Bool.not_true, Bool.not_false, Nat.reduceLeDiff, and_self, true_and, and_true, hcg, sized, List.length_map, hlim, hb, List.all_map]
      rfl
  · rw [Bool.not_eq_true] at hi
    have e : beginV p d = false := by cases d <;> first | rfl | (simp [isInst] at hi)
    rw [e]
    exact (seq_rt (by simp only [runD, Dv.start, evSs_nil, evSs_cons, evS, evE, evL, evB, evAnd, evOr, evO, onOwn, guardO, setAll, thenS_nx, thenS_rt, thenS_ex, onV_ok, onV_ex, onB_ok, onB_ex, bindV_ok, bindV_ex, boolV_ok, bindA_ok, consA_ok, optI_none, optI_some, outcome_nx, outcome_shr, outcome_frs, outcome_ex, setV_shr, setV_frs, binD_add, binD_addT, binD_addL, binD_sub, binD_mulr, binD_mull, binD_fdiv', binD_mod', cmpD_lt, cmpD_le, cmpD_gt, cmpD_ge, cmpD_eqi, cmpD_nei, cmpD_is, cmpD_isn, cmpD_memL, cmpD_nmemL, cmpD_memT, cmpD_nmemT, isN_none, isN_int, isN_tup, isN_lst, isN_bool, isN_str, flat_int, flat_str, flat_none, flat_bool, fnD_lenL, fnD_lenT, fnD_lenS, fnD_intB, fnD_str, fnD_tupL, fnD_tupT, fnD_lstL, fnD_lstT, fnD_all, idxD_L, idxD_T, idxD_S, slcD_L, slcD_T, itemsD_L, itemsD_T, asD_shr, asD_frs, asB_ok, okCall_t, noBrw_nil, noBrw_shr, noBrw_frs, tests_nil, tests_one, at0, at1, at2, lim_eq, List.set_cons_zero, List.set_cons_succ, List.getElem?_cons_zero, List.getElem?_cons_succ, List.length_cons, List.length_nil, List.map_cons, List.map_nil, Option.map_some, Option.map_none, if_true, if_false, ite_true, ite_false, reduceIte, reduceCtorEq, decide_true, decide_false, Nat.reduceAdd, Nat.reduceSub, Nat.reduceEqDiff, Int.reduceNeg, Int.reduceLT, Int.reduceLE, Bool.not_true, Bool.not_false, Nat.reduceLeDiff, and_self, true_and, and_true, ht, hi, Bool.false_eq_true]; try rfl)).trans rfl
theorem plainState_ty {d : D} (h : plainState d = true) : okTy d = true := by
  cases d with
  | dict xs => exact plain_ty (d := .dict xs) h
  | _ => rfl
theorem need_state_no {fu n : Nat} (p : Prog) {d : D} (h : plainState d = true) (hv : stateV p d = false) : run tab fu (n + 3) "need_state" [p.d, d] = some (.ex "BadState") := by
  rw [run_need_state]
  refine runD_ex rfl ?_
  have ht := plainState_ty h
  unfold d_need_state
  rw [show Dv.start _ _ = [some (false, p.d), some (false, d)] from rfl]
  by_cases hi : isInst d .tuple = true
  · obtain ⟨xs, rfl⟩ : ∃ xs, d = .tuple xs := by cases d <;> first | exact ⟨_, rfl⟩ | simp [isInst] at hi
    by_cases hl : xs.length = 2
    · match xs, hl with
      | [a, b], _ =>
        simp only [plainState, Bool.and_eq_true] at h
        have a1 := among_ok (fu := fu) (n := n + 1) h.1 0 ((p.rows.length : Int) - 1)
        have b1 := begin_is (fu := fu) (n := n) p h.2
        rw [Prog.d] at b1
        cases g : amongV a 0 ((p.rows.length : Int) - 1) with
        | false => exact (seq_ex (by simp only [runD, Dv.start, evSs_nil, evSs_cons, evS, evE, evL, evB, evAnd, evOr, evO, onOwn, guardO, setAll, thenS_nx, thenS_rt, thenS_ex, onV_ok, onV_ex, onB_ok, onB_ex, bindV_ok, bindV_ex, boolV_ok, bindA_ok, consA_ok, optI_none, optI_some, outcome_nx, outcome_shr, outcome_frs, outcome_ex, setV_shr, setV_frs, binD_add, binD_addT, binD_addL, binD_sub, binD_mulr, binD_mull, binD_fdiv', binD_mod', cmpD_lt, cmpD_le, cmpD_gt, cmpD_ge, cmpD_eqi, cmpD_nei, cmpD_is, cmpD_isn, cmpD_memL, cmpD_nmemL, cmpD_memT, cmpD_nmemT, isN_none, isN_int, isN_tup, isN_lst, isN_bool, isN_str, flat_int, flat_str, flat_none, flat_bool, fnD_lenL, fnD_lenT, fnD_lenS, fnD_intB, fnD_str, fnD_tupL, fnD_tupT, fnD_lstL, fnD_lstT, fnD_all, idxD_L, idxD_T, idxD_S, slcD_L, slcD_T, itemsD_L, itemsD_T, asD_shr, asD_frs, asB_ok, okCall_t, noBrw_nil, noBrw_shr, noBrw_frs, tests_nil, tests_one, at0, at1, at2, lim_eq, List.set_cons_zero, List.set_cons_succ, List.getElem?_cons_zero, List.getElem?_cons_succ, List.length_cons, List.length_nil, List.map_cons, List.map_nil, Option.map_some, Option.map_none, if_true, if_false, ite_true, ite_false, reduceIte, reduceCtorEq, decide_true, decide_false, Nat.reduceAdd, Nat.reduceSub, Nat.reduceEqDiff, Int.reduceNeg, Int.reduceLT, Int.reduceLE, Bool.not_true, Bool.not_false, Nat.reduceLeDiff, and_self, true_and, and_true, ht, hi, Prog.d, List.length_map, Int.cast_ofNat_Int, beq_self_eq_true, a1, g, Bool.false_eq_true])).trans rfl
        | true =>
          have hb : beginV p b = false := by
            have : stateV p (.tuple [a, b]) = (amongV a 0 ((p.rows.length : Int) - 1) && beginV p b) := rfl
            rw [this, g, Bool.true_and] at hv
            exact hv
          refine (seq (st' := [some (false, p.d), some (false, .tuple [a, b])]) (by simp only [runD, Dv.start, evSs_nil, evSs_cons, evS, evE, evL, evB, evAnd, evOr, evO, onOwn, guardO, setAll, thenS_nx, thenS_rt, thenS_ex, onV_ok, onV_ex, onB_ok, onB_ex, bindV_ok, bindV_ex, boolV_ok, bindA_ok, consA_ok, optI_none, optI_some, outcome_nx, outcome_shr, outcome_frs, outcome_ex, setV_shr, setV_frs, binD_add, binD_addT, binD_addL, binD_sub, binD_mulr, binD_mull, binD_fdiv', binD_mod', cmpD_lt, cmpD_le, cmpD_gt, cmpD_ge, cmpD_eqi, cmpD_nei, cmpD_is, cmpD_isn, cmpD_memL, cmpD_nmemL, cmpD_memT, cmpD_nmemT, isN_none, isN_int, isN_tup, isN_lst, isN_bool, isN_str, flat_int, flat_str, flat_none, flat_bool, fnD_lenL, fnD_lenT, fnD_lenS, fnD_intB, fnD_str, fnD_tupL, fnD_tupT, fnD_lstL, fnD_lstT, fnD_all, idxD_L, idxD_T, idxD_S, slcD_L, slcD_T, itemsD_L, itemsD_T, asD_shr, asD_frs, asB_ok, okCall_t, noBrw_nil, noBrw_shr, noBrw_frs, tests_nil, tests_one, at0, at1, at2, lim_eq, List.set_cons_zero, List.set_cons_succ, List.getElem?_cons_zero, List.getElem?_cons_succ, List.length_cons, List.length_nil, List.map_cons, List.map_nil, Option.map_some, Option.map_none, if_true, if_false, ite_true, ite_false, reduceIte, reduceCtorEq, decide_true, decide_false, Nat.reduceAdd, Nat.reduceSub, Nat.reduceEqDiff, Int.reduceNeg, Int.reduceLT, Int.reduceLE, Bool.not_true, Bool.not_false, Nat.reduceLeDiff, and_self, true_and, and_true, ht, hi, Prog.d, List.length_map, Int.cast_ofNat_Int, beq_self_eq_true, a1, g, Bool.false_eq_true])).trans ?_
          exact (seq_ex (by simp only [runD, Dv.start, evSs_nil, evSs_cons, evS, evE, evL, evB, evAnd, evOr, evO, onOwn, guardO, setAll, thenS_nx, thenS_rt, thenS_ex, onV_ok, onV_ex, onB_ok, onB_ex, bindV_ok, bindV_ex, boolV_ok, bindA_ok, consA_ok, optI_none, optI_some, outcome_nx, outcome_shr, outcome_frs, outcome_ex, setV_shr, setV_frs, binD_add, binD_addT, binD_addL, binD_sub, binD_mulr, binD_mull, binD_fdiv', binD_mod', cmpD_lt, cmpD_le, cmpD_gt, cmpD_ge, cmpD_eqi, cmpD_nei, cmpD_is, cmpD_isn, cmpD_memL, cmpD_nmemL, cmpD_memT, cmpD_nmemT, isN_none, isN_int, isN_tup, isN_lst, isN_bool, isN_str, flat_int, flat_str, flat_none, flat_bool, fnD_lenL, fnD_lenT, fnD_lenS, fnD_intB, fnD_str, fnD_tupL, fnD_tupT, fnD_lstL, fnD_lstT, fnD_all, idxD_L, idxD_T, idxD_S, slcD_L, slcD_T, itemsD_L, itemsD_T, asD_shr, asD_frs, asB_ok, okCall_t, noBrw_nil, noBrw_shr, noBrw_frs, tests_nil, tests_one, at0, at1, at2, lim_eq, List.set_cons_zero, List.set_cons_succ, List.getElem?_cons_zero, List.getElem?_cons_succ, List.length_cons, List.length_nil, List.map_cons, List.map_nil, Option.map_some, Option.map_none, if_true, if_false, ite_true, ite_false, reduceIte, reduceCtorEq, decide_true, decide_false, Nat.reduceAdd, Nat.reduceSub, Nat.reduceEqDiff, Int.reduceNeg, Int.reduceLT, Int.reduceLE, Bool.not_true, Bool.not_false, Nat.reduceLeDiff, and_self, true_and, and_true, Prog.d, b1, hb])).trans rfl
    · have hl' : ((xs.length : Int) == 2) = false := by rw [beq_eq_false_iff_ne]; omega
      exact (seq_ex (by simp only [runD, Dv.start, evSs_nil, evSs_cons, evS, evE, evL, evB, evAnd, evOr, evO, onOwn, guardO, setAll, thenS_nx, thenS_rt, thenS_ex, onV_ok, onV_ex, onB_ok, onB_ex, bindV_ok, bindV_ex, boolV_ok, bindA_ok, consA_ok, optI_none, optI_some, outcome_nx, outcome_shr, outcome_frs, outcome_ex, setV_shr, setV_frs, binD_add, binD_addT, binD_addL, binD_sub, binD_mulr, binD_mull, binD_fdiv', binD_mod', cmpD_lt, cmpD_le, cmpD_gt, cmpD_ge, cmpD_eqi, cmpD_nei, cmpD_is, cmpD_isn, cmpD_memL, cmpD_nmemL, cmpD_memT, cmpD_nmemT, isN_none, isN_int, isN_tup, isN_lst, isN_bool, isN_str, flat_int, flat_str, flat_none, flat_bool, fnD_lenL, fnD_lenT, fnD_lenS, fnD_intB, fnD_str, fnD_tupL, fnD_tupT, fnD_lstL, fnD_lstT, fnD_all, idxD_L, idxD_T, idxD_S, slcD_L, slcD_T, itemsD_L, itemsD_T, asD_shr, asD_frs, asB_ok, okCall_t, noBrw_nil, noBrw_shr, noBrw_frs, tests_nil, tests_one, at0, at1, at2, lim_eq, List.set_cons_zero, List.set_cons_succ, List.getElem?_cons_zero, List.getElem?_cons_succ, List.length_cons, List.length_nil, List.map_cons, List.map_nil, Option.map_some, Option.map_none, if_true, if_false, ite_true, ite_false, reduceIte, reduceCtorEq, decide_true, decide_false, Nat.reduceAdd, Nat.reduceSub, Nat.reduceEqDiff, Int.reduceNeg, Int.reduceLT, Int.reduceLE, Bool.not_true, Bool.not_false, Nat.reduceLeDiff, and_self, true_and, and_true, ht, hi, Prog.d, hl', Bool.false_eq_true])).trans rfl
  · rw [Bool.not_eq_true] at hi
    exact (seq_ex (by simp only [runD, Dv.start, evSs_nil, evSs_cons, evS, evE, evL, evB, evAnd, evOr, evO, onOwn, guardO, setAll, thenS_nx, thenS_rt, thenS_ex, onV_ok, onV_ex, onB_ok, onB_ex, bindV_ok, bindV_ex, boolV_ok, bindA_ok, consA_ok, optI_none, optI_some, outcome_nx, outcome_shr, outcome_frs, outcome_ex, setV_shr, setV_frs, binD_add, binD_addT, binD_addL, binD_sub, binD_mulr, binD_mull, binD_fdiv', binD_mod', cmpD_lt, cmpD_le, cmpD_gt, cmpD_ge, cmpD_eqi, cmpD_nei, cmpD_is, cmpD_isn, cmpD_memL, cmpD_nmemL, cmpD_memT, cmpD_nmemT, isN_none, isN_int, isN_tup, isN_lst, isN_bool, isN_str, flat_int, flat_str, flat_none, flat_bool, fnD_lenL, fnD_lenT, fnD_lenS, fnD_intB, fnD_str, fnD_tupL, fnD_tupT, fnD_lstL, fnD_lstT, fnD_all, idxD_L, idxD_T, idxD_S, slcD_L, slcD_T, itemsD_L, itemsD_T, asD_shr, asD_frs, asB_ok, okCall_t, noBrw_nil, noBrw_shr, noBrw_frs, tests_nil, tests_one, at0, at1, at2, lim_eq, List.set_cons_zero, List.set_cons_succ, List.getElem?_cons_zero, List.getElem?_cons_succ, List.length_cons, List.length_nil, List.map_cons, List.map_nil, Option.map_some, Option.map_none, if_true, if_false, ite_true, ite_false, reduceIte, reduceCtorEq, decide_true, decide_false, Nat.reduceAdd, Nat.reduceSub, Nat.reduceEqDiff, Int.reduceNeg, Int.reduceLT, Int.reduceLE, Bool.not_true, Bool.not_false, Nat.reduceLeDiff, and_self, true_and, and_true, ht, hi, Bool.false_eq_true])).trans rfl
theorem need_state_yes {fu n : Nat} (p : Prog) {d : D} (h : plainState d = true) (hv : stateV p d = true) : run tab fu (n + 3) "need_state" [p.d, d] = some (.ok .shr d) := by
  rw [run_need_state]
  refine runD_rt rfl ?_
  unfold d_need_state
  rw [show Dv.start _ _ = [some (false, p.d), some (false, d)] from rfl]
  unfold stateV at hv
  split at hv
  · rename_i a b
    simp only [plainState, Bool.and_eq_true] at h
    rw [Bool.and_eq_true] at hv
    have a1 := among_ok (fu := fu) (n := n + 1) h.1 0 ((p.rows.length : Int) - 1)
    have b1 := begin_is (fu := fu) (n := n) p h.2
    rw [Prog.d] at b1
    rw [hv.1] at a1
    rw [hv.2] at b1
    have ht : okTy (.tuple [a, b]) = true := rfl
    have hi : isInst (.tuple [a, b]) .tuple = true := rfl
    refine (seq (st' := [some (false, p.d), some (false, .tuple [a, b])]) (by simp only [runD, Dv.start, evSs_nil, evSs_cons, evS, evE, evL, evB, evAnd, evOr, evO, onOwn, guardO, setAll, thenS_nx, thenS_rt, thenS_ex, onV_ok, onV_ex, onB_ok, onB_ex, bindV_ok, bindV_ex, boolV_ok, bindA_ok, consA_ok, optI_none, optI_some, outcome_nx, outcome_shr, outcome_frs, outcome_ex, setV_shr, setV_frs, binD_add, binD_addT, binD_addL, binD_sub, binD_mulr, binD_mull, binD_fdiv', binD_mod', cmpD_lt, cmpD_le, cmpD_gt, cmpD_ge, cmpD_eqi, cmpD_nei, cmpD_is, cmpD_isn, cmpD_memL, cmpD_nmemL, cmpD_memT, cmpD_nmemT, isN_none, isN_int, isN_tup, isN_lst, isN_bool, isN_str, flat_int, flat_str, flat_none, flat_bool, fnD_lenL, fnD_lenT, fnD_lenS, fnD_intB, fnD_str, fnD_tupL, fnD_tupT, fnD_lstL, fnD_lstT, fnD_all, idxD_L, idxD_T, idxD_S, slcD_L, slcD_T, itemsD_L, itemsD_T, asD_shr, asD_frs, asB_ok, okCall_t, noBrw_nil, noBrw_shr, noBrw_frs, tests_nil, tests_one, at0, at1, at2, lim_eq, List.set_cons_zero, List.set_cons_succ, List.getElem?_cons_zero, List.getElem?_cons_succ, List.length_cons, List.length_nil, List.map_cons, List.map_nil, Option.map_some, Option.map_none, if_true, if_false, ite_true, ite_false, reduceIte, reduceCtorEq, decide_true, decide_false, Nat.reduceAdd, Nat.reduceSub, Nat.reduceEqDiff, Int.reduceNeg, Int.reduceLT, Int.reduceLE, Bool.not_true, Bool.not_false, Nat.reduceLeDiff, and_self, true_and, and_true, ht, hi, Prog.d, List.length_map, Int.cast_ofNat_Int, beq_self_eq_true, a1, Bool.false_eq_true])).trans ?_
    refine (seq (st' := [some (false, p.d), some (false, .tuple [a, b])]) (by simp only [runD, Dv.start, evSs_nil, evSs_cons, evS, evE, evL, evB, evAnd, evOr, evO, onOwn, guardO, setAll, thenS_nx, thenS_rt, thenS_ex, onV_ok, onV_ex, onB_ok, onB_ex, bindV_ok, bindV_ex, boolV_ok, bindA_ok, consA_ok, optI_none, optI_some, outcome_nx, outcome_shr, outcome_frs, outcome_ex, setV_shr, setV_frs, binD_add, binD_addT, binD_addL, binD_sub, binD_mulr, binD_mull, binD_fdiv', binD_mod', cmpD_lt, cmpD_le, cmpD_gt, cmpD_ge, cmpD_eqi, cmpD_nei, cmpD_is, cmpD_isn, cmpD_memL, cmpD_nmemL, cmpD_memT, cmpD_nmemT, isN_none, isN_int, isN_tup, isN_lst, isN_bool, isN_str, flat_int, flat_str, flat_none, flat_bool, fnD_lenL, fnD_lenT, fnD_lenS, fnD_intB, fnD_str, fnD_tupL, fnD_tupT, fnD_lstL, fnD_lstT, fnD_all, idxD_L, idxD_T, idxD_S, slcD_L, slcD_T, itemsD_L, itemsD_T, asD_shr, asD_frs, asB_ok, okCall_t, noBrw_nil, noBrw_shr, noBrw_frs, tests_nil, tests_one, at0, at1, at2, lim_eq, List.set_cons_zero, List.set_cons_succ, List.getElem?_cons_zero, List.getElem?_cons_succ, List.length_cons, List.length_nil, List.map_cons, List.map_nil, Option.map_some, Option.map_none, if_true, if_false, ite_true, ite_false, reduceIte, reduceCtorEq, decide_true, decide_false, Nat.reduceAdd, Nat.reduceSub, Nat.reduceEqDiff, Int.reduceNeg, Int.reduceLT, Int.reduceLE, Bool.not_true, Bool.not_false, Nat.reduceLeDiff, and_self, true_and, and_true, Prog.d, b1, Bool.false_eq_true])).trans ?_
    exact (seq_rt (by simp only [runD, Dv.start, evSs_nil, evSs_cons, evS, evE, evL, evB, evAnd, evOr, evO, onOwn, guardO, setAll, thenS_nx, thenS_rt, thenS_ex, onV_ok, onV_ex, onB_ok, onB_ex, bindV_ok, bindV_ex, boolV_ok, bindA_ok, consA_ok, optI_none, optI_some, outcome_nx, outcome_shr, outcome_frs, outcome_ex, setV_shr, setV_frs, binD_add, binD_addT, binD_addL, binD_sub, binD_mulr, binD_mull, binD_fdiv', binD_mod', cmpD_lt, cmpD_le, cmpD_gt, cmpD_ge, cmpD_eqi, cmpD_nei, cmpD_is, cmpD_isn, cmpD_memL, cmpD_nmemL, cmpD_memT, cmpD_nmemT, isN_none, isN_int, isN_tup, isN_lst, isN_bool, isN_str, flat_int, flat_str, flat_none, flat_bool, fnD_lenL, fnD_lenT, fnD_lenS, fnD_intB, fnD_str, fnD_tupL, fnD_tupT, fnD_lstL, fnD_lstT, fnD_all, idxD_L, idxD_T, idxD_S, slcD_L, slcD_T, itemsD_L, itemsD_T, asD_shr, asD_frs, asB_ok, okCall_t, noBrw_nil, noBrw_shr, noBrw_frs, tests_nil, tests_one, at0, at1, at2, lim_eq, List.set_cons_zero, List.set_cons_succ, List.getElem?_cons_zero, List.getElem?_cons_succ, List.length_cons, List.length_nil, List.map_cons, List.map_nil, Option.map_some, Option.map_none, if_true, if_false, ite_true, ite_false, reduceIte, reduceCtorEq, decide_true, decide_false, Nat.reduceAdd, Nat.reduceSub, Nat.reduceEqDiff, Int.reduceNeg, Int.reduceLT, Int.reduceLE, Bool.not_true, Bool.not_false, Nat.reduceLeDiff, and_self, true_and, and_true]; try rfl)).trans rfl
  · cases hv
theorem nums_plain (ns : List Nat) (h : ns.length ≤ 100000) : plainBeg (numsD ns) = true := by
  show ((ns.map fun (n : Nat) => PyData.int (n : Int)).all plainD && decide _) = true
  rw [Bool.and_eq_true, decide_eq_true_eq, List.all_map, List.length_map]
  exact ⟨List.all_eq_true.mpr fun _ _ => rfl, h⟩
theorem state_plain {p : Prog} {s : Nat × List Nat} (hb : p.boxes ≤ 3) (h : StateOk p s) : plainState (stD s) = true := by
  show (true && plainBeg (numsD s.2)) = true
  rw [nums_plain s.2 (by rw [h.2.1]; omega)]
  rfl
theorem state_yes {p : Prog} {s : Nat × List Nat} (h : StateOk p s) : stateV p (stD s) = true := by
  show (amongV (.int s.1) 0 ((p.rows.length : Int) - 1) && beginV p (numsD s.2)) = true
  rw [among_yes (by omega) (by have := h.1; omega), Bool.true_and]
  show ((((s.2.map fun (n : Nat) => PyData.int (n : Int)).length : Int) == (p.boxes : Int)) && (s.2.map fun (n : Nat) => PyData.int (n : Int)).all fun x => amongV x 0 p.most) = true
  rw [List.length_map, h.2.1, beq_self_eq_true, Bool.true_and, List.all_map, List.all_eq_true]
  exact fun n hn => among_yes (i := (n : Int)) (a := 0) (b := (p.most : Int)) (by omega) (by have := h.2.2 n hn; omega)
end Law
namespace Law
open PySem Dv
def iD (ns : List Nat) : List D := ns.map fun (n : Nat) => PyData.int (n : Int)
theorem numsD_i (ns : List Nat) : numsD ns = .tuple (iD ns) := rfl
theorem iD_len (ns : List Nat) : (iD ns).length = ns.length := List.length_map ..
theorem iD_at {ns : List Nat} {b : Nat} (h : b < ns.length) : L2.atI (iD ns) (b : Int) = some (.int ((ns.getD b 0 : Nat) : Int)) := by
  refine atN ?_
  unfold iD
  rw [List.getElem?_map, List.getElem?_eq_getElem h, List.getD_eq_getElem?_getD, List.getElem?_eq_getElem h]
  rfl
theorem iD_set {ns : List Nat} {b v : Nat} (h : b < ns.length) : (iD ns).take b ++ [PyData.int (v : Int)] ++ (iD ns).drop (b + 1) = iD (ns.set b v) := by
  unfold iD
  rw [List.set_eq_take_append_cons_drop, if_pos h, List.map_append, List.map_cons, List.map_take, List.map_drop, List.append_assoc]
  rfl
theorem with_number_ok {fu n : Nat} {ns : List Nat} {b v : Nat} (h : b < ns.length) (hl : ns.length ≤ 3) : run tab fu (n + 1) "with_number" [numsD ns, .int b, .int v] = some (.ok .shr (numsD (ns.set b v))) := by
  rw [run_with_number]
  refine runD_rt rfl ?_
  unfold d_with_number
  rw [show Dv.start _ _ = [some (false, numsD ns), some (false, .int b), some (false, .int v)] from rfl]
  have c1 : cutD (iD ns) none (some (b : Int)) = (iD ns).take b := cut_take (by rw [iD_len]; omega)
  have c2 : cutD (iD ns) (some ((b : Int) + 1)) none = (iD ns).drop (b + 1) := cut_drop (k := b + 1) (by rw [iD_len]; omega)
  have l1 : min b ns.length + 1 ≤ 100000 := by omega
  have l2 : min b ns.length + 1 + (ns.length - (b + 1)) ≤ 100000 := by omega
  refine (seq_rt (d := numsD (ns.set b v)) ?_).trans rfl
  simp only [runD, Dv.start, evSs_nil, evSs_cons, evS, evE, evL, evB, evAnd, evOr, evO, onOwn, guardO, setAll, thenS_nx, thenS_rt, thenS_ex, onV_ok, onV_ex, onB_ok, onB_ex, bindV_ok, bindV_ex, boolV_ok, bindA_ok, consA_ok, optI_none, optI_some, outcome_nx, outcome_shr, outcome_frs, outcome_ex, setV_shr, setV_frs, binD_add, binD_addT, binD_addL, binD_sub, binD_mulr, binD_mull, binD_fdiv', binD_mod', cmpD_lt, cmpD_le, cmpD_gt, cmpD_ge, cmpD_eqi, cmpD_nei, cmpD_is, cmpD_isn, cmpD_memL, cmpD_nmemL, cmpD_memT, cmpD_nmemT, isN_none, isN_int, isN_tup, isN_lst, isN_bool, isN_str, flat_int, flat_str, flat_none, flat_bool, fnD_lenL, fnD_lenT, fnD_lenS, fnD_intB, fnD_str, fnD_tupL, fnD_tupT, fnD_lstL, fnD_lstT, fnD_all, idxD_L, idxD_T, idxD_S, slcD_L, slcD_T, itemsD_L, itemsD_T, asD_shr, asD_frs, asB_ok, okCall_t, noBrw_nil, noBrw_shr, noBrw_frs, tests_nil, tests_one, at0, at1, at2, lim_eq, List.set_cons_zero, List.set_cons_succ, List.getElem?_cons_zero, List.getElem?_cons_succ, List.length_cons, List.length_nil, List.map_cons, List.map_nil, Option.map_some, Option.map_none, if_true, if_false, ite_true, ite_false, reduceIte, reduceCtorEq, decide_true, decide_false, Nat.reduceAdd, Nat.reduceSub, Nat.reduceEqDiff, Int.reduceNeg, Int.reduceLT, Int.reduceLE, Bool.not_true, Bool.not_false, Nat.reduceLeDiff, and_self, true_and, and_true, numsD_i, c1, c2, iD_len, List.length_take, List.length_append, List.length_drop, l1, l2, iD_set h, Nat.zero_le, Nat.reduceLeDiff]
theorem row_at {p : Prog} {i : Nat} (h : i < p.rows.length) : L2.atI (p.rows.map Row.d) (i : Int) = some (p.rows.getD i .stop).d := by
  refine atN ?_
  rw [List.getElem?_map, List.getElem?_eq_getElem h, List.getD_eq_getElem?_getD, List.getElem?_eq_getElem h]
  rfl
theorem row_mem {p : Prog} {i : Nat} (h : i < p.rows.length) : p.rows.getD i .stop ∈ p.rows := by
  rw [List.getD_eq_getElem?_getD, List.getElem?_eq_getElem h]
  exact List.getElem_mem h
theorem next_is {fu n : Nat} {p : Prog} (hp : p.Ok) {s : Nat × List Nat} (hs : StateOk p s) : run tab fu (n + 2) "next_state" [p.d, stD s] = some (.ok .shr (optS (stepV p s).1)) := by
  obtain ⟨i, ns⟩ := s
  obtain ⟨hi, hn, hm⟩ := hs
  have hi' : i < p.rows.length := hi
  have hn' : ns.length = p.boxes := hn
  have hb3 := hp.boxes
  have hr := hp.row _ (row_mem hi')
  have ea := row_at hi'
  rw [run_next_state]
  refine runD_rt rfl ?_
  unfold d_next_state stepV
  rw [show Dv.start _ _ = [some (false, p.d), some (false, stD (i, ns)), none, none, none] from rfl]
  show evSs _ _ _ _ = some (.rt .shr (optS (stepR p (i, ns) (p.rows.getD i .stop)).1))
  generalize p.rows.getD i .stop = r at hr ea
  have wn : ∀ {b v : Nat}, b < ns.length → run tab fu (n + 1) "with_number" [.tuple (iD ns), .int b, .int v] = some (.ok .shr (.tuple (iD (ns.set b v)))) := fun {b v} hb => with_number_ok (fu := fu) (n := n) hb (by omega)
  refine (seq (st' := [some (false, p.d), some (false, stD (i, ns)), some (false, .int i), some (false, .tuple (iD ns)), none]) (by simp only [runD, Dv.start, evSs_nil, evSs_cons, evS, evE, evL, evB, evAnd, evOr, evO, onOwn, guardO, setAll, thenS_nx, thenS_rt, thenS_ex, onV_ok, onV_ex, onB_ok, onB_ex, bindV_ok, bindV_ex, boolV_ok, bindA_ok, consA_ok, optI_none, optI_some, outcome_nx, outcome_shr, outcome_frs, outcome_ex, setV_shr, setV_frs, binD_add, binD_addT, binD_addL, binD_sub, binD_mulr, binD_mull, binD_fdiv', binD_mod', cmpD_lt, cmpD_le, cmpD_gt, cmpD_ge, cmpD_eqi, cmpD_nei, cmpD_is, cmpD_isn, cmpD_memL, cmpD_nmemL, cmpD_memT, cmpD_nmemT, isN_none, isN_int, isN_tup, isN_lst, isN_bool, isN_str, flat_int, flat_str, flat_none, flat_bool, fnD_lenL, fnD_lenT, fnD_lenS, fnD_intB, fnD_str, fnD_tupL, fnD_tupT, fnD_lstL, fnD_lstT, fnD_all, idxD_L, idxD_T, idxD_S, slcD_L, slcD_T, itemsD_L, itemsD_T, asD_shr, asD_frs, asB_ok, okCall_t, noBrw_nil, noBrw_shr, noBrw_frs, tests_nil, tests_one, at0, at1, at2, lim_eq, List.set_cons_zero, List.set_cons_succ, List.getElem?_cons_zero, List.getElem?_cons_succ, List.length_cons, List.length_nil, List.map_cons, List.map_nil, Option.map_some, Option.map_none, if_true, if_false, ite_true, ite_false, reduceIte, reduceCtorEq, decide_true, decide_false, Nat.reduceAdd, Nat.reduceSub, Nat.reduceEqDiff, Int.reduceNeg, Int.reduceLT, Int.reduceLE, Bool.not_true, Bool.not_false, Nat.reduceLeDiff, and_self, true_and, and_true, stD, numsD_i])).trans ?_
  refine (seq (st' := [some (false, p.d), some (false, stD (i, ns)), some (false, .int i), some (false, .tuple (iD ns)), some (false, r.d)]) (by simp only [runD, Dv.start, evSs_nil, evSs_cons, evS, evE, evL, evB, evAnd, evOr, evO, onOwn, guardO, setAll, thenS_nx, thenS_rt, thenS_ex, onV_ok, onV_ex, onB_ok, onB_ex, bindV_ok, bindV_ex, boolV_ok, bindA_ok, consA_ok, optI_none, optI_some, outcome_nx, outcome_shr, outcome_frs, outcome_ex, setV_shr, setV_frs, binD_add, binD_addT, binD_addL, binD_sub, binD_mulr, binD_mull, binD_fdiv', binD_mod', cmpD_lt, cmpD_le, cmpD_gt, cmpD_ge, cmpD_eqi, cmpD_nei, cmpD_is, cmpD_isn, cmpD_memL, cmpD_nmemL, cmpD_memT, cmpD_nmemT, isN_none, isN_int, isN_tup, isN_lst, isN_bool, isN_str, flat_int, flat_str, flat_none, flat_bool, fnD_lenL, fnD_lenT, fnD_lenS, fnD_intB, fnD_str, fnD_tupL, fnD_tupT, fnD_lstL, fnD_lstT, fnD_all, idxD_L, idxD_T, idxD_S, slcD_L, slcD_T, itemsD_L, itemsD_T, asD_shr, asD_frs, asB_ok, okCall_t, noBrw_nil, noBrw_shr, noBrw_frs, tests_nil, tests_one, at0, at1, at2, lim_eq, List.set_cons_zero, List.set_cons_succ, List.getElem?_cons_zero, List.getElem?_cons_succ, List.length_cons, List.length_nil, List.map_cons, List.map_nil, Option.map_some, Option.map_none, if_true, if_false, ite_true, ite_false, reduceIte, reduceCtorEq, decide_true, decide_false, Nat.reduceAdd, Nat.reduceSub, Nat.reduceEqDiff, Int.reduceNeg, Int.reduceLT, Int.reduceLE, Bool.not_true, Bool.not_false, Nat.reduceLeDiff, and_self, true_and, and_true, Prog.d, ea])).trans ?_
  cases r with
  | stop => exact (seq_rt (by simp only [runD, Dv.start, evSs_nil, evSs_cons, evS, evE, evL, evB, evAnd, evOr, evO, onOwn, guardO, setAll, thenS_nx, thenS_rt, thenS_ex, onV_ok, onV_ex, onB_ok, onB_ex, bindV_ok, bindV_ex, boolV_ok, bindA_ok, consA_ok, optI_none, optI_some, outcome_nx, outcome_shr, outcome_frs, outcome_ex, setV_shr, setV_frs, binD_add, binD_addT, binD_addL, binD_sub, binD_mulr, binD_mull, binD_fdiv', binD_mod', cmpD_lt, cmpD_le, cmpD_gt, cmpD_ge, cmpD_eqi, cmpD_nei, cmpD_is, cmpD_isn, cmpD_memL, cmpD_nmemL, cmpD_memT, cmpD_nmemT, isN_none, isN_int, isN_tup, isN_lst, isN_bool, isN_str, flat_int, flat_str, flat_none, flat_bool, fnD_lenL, fnD_lenT, fnD_lenS, fnD_intB, fnD_str, fnD_tupL, fnD_tupT, fnD_lstL, fnD_lstT, fnD_all, idxD_L, idxD_T, idxD_S, slcD_L, slcD_T, itemsD_L, itemsD_T, asD_shr, asD_frs, asB_ok, okCall_t, noBrw_nil, noBrw_shr, noBrw_frs, tests_nil, tests_one, at0, at1, at2, lim_eq, List.set_cons_zero, List.set_cons_succ, List.getElem?_cons_zero, List.getElem?_cons_succ, List.length_cons, List.length_nil, List.map_cons, List.map_nil, Option.map_some, Option.map_none, if_true, if_false, ite_true, ite_false, reduceIte, reduceCtorEq, decide_true, decide_false, Nat.reduceAdd, Nat.reduceSub, Nat.reduceEqDiff, Int.reduceNeg, Int.reduceLT, Int.reduceLE, Bool.not_true, Bool.not_false, Nat.reduceLeDiff, and_self, true_and, and_true, Row.d, w_put_put, w_put_more, w_put_copy, w_put_tell, w_put_go, w_put_ask, w_put_stop, w_put_is, w_put_by, w_more_put, w_more_more, w_more_copy, w_more_tell, w_more_go, w_more_ask, w_more_stop, w_more_is, w_more_by, w_copy_put, w_copy_more, w_copy_copy, w_copy_tell, w_copy_go, w_copy_ask, w_copy_stop, w_copy_is, w_copy_by, w_tell_put, w_tell_more, w_tell_copy, w_tell_tell, w_tell_go, w_tell_ask, w_tell_stop, w_tell_is, w_tell_by, w_go_put, w_go_more, w_go_copy, w_go_tell, w_go_go, w_go_ask, w_go_stop, w_go_is, w_go_by, w_ask_put, w_ask_more, w_ask_copy, w_ask_tell, w_ask_go, w_ask_ask, w_ask_stop, w_ask_is, w_ask_by, w_stop_put, w_stop_more, w_stop_copy, w_stop_tell, w_stop_go, w_stop_ask, w_stop_stop, w_stop_is, w_stop_by, w_is_put, w_is_more, w_is_copy, w_is_tell, w_is_go, w_is_ask, w_is_stop, w_is_is, w_is_by, w_by_put, w_by_more, w_by_copy, w_by_tell, w_by_go, w_by_ask, w_by_stop, w_by_is, w_by_by]; rfl)).trans rfl
  | go x =>
    refine (seq (st' := [some (false, p.d), some (false, stD (i, ns)), some (false, .int i), some (false, .tuple (iD ns)), some (false, (Row.go x).d)]) (by simp only [runD, Dv.start, evSs_nil, evSs_cons, evS, evE, evL, evB, evAnd, evOr, evO, onOwn, guardO, setAll, thenS_nx, thenS_rt, thenS_ex, onV_ok, onV_ex, onB_ok, onB_ex, bindV_ok, bindV_ex, boolV_ok, bindA_ok, consA_ok, optI_none, optI_some, outcome_nx, outcome_shr, outcome_frs, outcome_ex, setV_shr, setV_frs, binD_add, binD_addT, binD_addL, binD_sub, binD_mulr, binD_mull, binD_fdiv', binD_mod', cmpD_lt, cmpD_le, cmpD_gt, cmpD_ge, cmpD_eqi, cmpD_nei, cmpD_is, cmpD_isn, cmpD_memL, cmpD_nmemL, cmpD_memT, cmpD_nmemT, isN_none, isN_int, isN_tup, isN_lst, isN_bool, isN_str, flat_int, flat_str, flat_none, flat_bool, fnD_lenL, fnD_lenT, fnD_lenS, fnD_intB, fnD_str, fnD_tupL, fnD_tupT, fnD_lstL, fnD_lstT, fnD_all, idxD_L, idxD_T, idxD_S, slcD_L, slcD_T, itemsD_L, itemsD_T, asD_shr, asD_frs, asB_ok, okCall_t, noBrw_nil, noBrw_shr, noBrw_frs, tests_nil, tests_one, at0, at1, at2, lim_eq, List.set_cons_zero, List.set_cons_succ, List.getElem?_cons_zero, List.getElem?_cons_succ, List.length_cons, List.length_nil, List.map_cons, List.map_nil, Option.map_some, Option.map_none, if_true, if_false, ite_true, ite_false, reduceIte, reduceCtorEq, decide_true, decide_false, Nat.reduceAdd, Nat.reduceSub, Nat.reduceEqDiff, Int.reduceNeg, Int.reduceLT, Int.reduceLE, Bool.not_true, Bool.not_false, Nat.reduceLeDiff, and_self, true_and, and_true, Row.d, w_put_put, w_put_more, w_put_copy, w_put_tell, w_put_go, w_put_ask, w_put_stop, w_put_is, w_put_by, w_more_put, w_more_more, w_more_copy, w_more_tell, w_more_go, w_more_ask, w_more_stop, w_more_is, w_more_by, w_copy_put, w_copy_more, w_copy_copy, w_copy_tell, w_copy_go, w_copy_ask, w_copy_stop, w_copy_is, w_copy_by, w_tell_put, w_tell_more, w_tell_copy, w_tell_tell, w_tell_go, w_tell_ask, w_tell_stop, w_tell_is, w_tell_by, w_go_put, w_go_more, w_go_copy, w_go_tell, w_go_go, w_go_ask, w_go_stop, w_go_is, w_go_by, w_ask_put, w_ask_more, w_ask_copy, w_ask_tell, w_ask_go, w_ask_ask, w_ask_stop, w_ask_is, w_ask_by, w_stop_put, w_stop_more, w_stop_copy, w_stop_tell, w_stop_go, w_stop_ask, w_stop_stop, w_stop_is, w_stop_by, w_is_put, w_is_more, w_is_copy, w_is_tell, w_is_go, w_is_ask, w_is_stop, w_is_is, w_is_by, w_by_put, w_by_more, w_by_copy, w_by_tell, w_by_go, w_by_ask, w_by_stop, w_by_is, w_by_by, Bool.false_eq_true])).trans ?_
    exact (seq_rt (by simp only [runD, Dv.start, evSs_nil, evSs_cons, evS, evE, evL, evB, evAnd, evOr, evO, onOwn, guardO, setAll, thenS_nx, thenS_rt, thenS_ex, onV_ok, onV_ex, onB_ok, onB_ex, bindV_ok, bindV_ex, boolV_ok, bindA_ok, consA_ok, optI_none, optI_some, outcome_nx, outcome_shr, outcome_frs, outcome_ex, setV_shr, setV_frs, binD_add, binD_addT, binD_addL, binD_sub, binD_mulr, binD_mull, binD_fdiv', binD_mod', cmpD_lt, cmpD_le, cmpD_gt, cmpD_ge, cmpD_eqi, cmpD_nei, cmpD_is, cmpD_isn, cmpD_memL, cmpD_nmemL, cmpD_memT, cmpD_nmemT, isN_none, isN_int, isN_tup, isN_lst, isN_bool, isN_str, flat_int, flat_str, flat_none, flat_bool, fnD_lenL, fnD_lenT, fnD_lenS, fnD_intB, fnD_str, fnD_tupL, fnD_tupT, fnD_lstL, fnD_lstT, fnD_all, idxD_L, idxD_T, idxD_S, slcD_L, slcD_T, itemsD_L, itemsD_T, asD_shr, asD_frs, asB_ok, okCall_t, noBrw_nil, noBrw_shr, noBrw_frs, tests_nil, tests_one, at0, at1, at2, lim_eq, List.set_cons_zero, List.set_cons_succ, List.getElem?_cons_zero, List.getElem?_cons_succ, List.length_cons, List.length_nil, List.map_cons, List.map_nil, Option.map_some, Option.map_none, if_true, if_false, ite_true, ite_false, reduceIte, reduceCtorEq, decide_true, decide_false, Nat.reduceAdd, Nat.reduceSub, Nat.reduceEqDiff, Int.reduceNeg, Int.reduceLT, Int.reduceLE, Bool.not_true, Bool.not_false, Nat.reduceLeDiff, and_self, true_and, and_true, Row.d, w_put_put, w_put_more, w_put_copy, w_put_tell, w_put_go, w_put_ask, w_put_stop, w_put_is, w_put_by, w_more_put, w_more_more, w_more_copy, w_more_tell, w_more_go, w_more_ask, w_more_stop, w_more_is, w_more_by, w_copy_put, w_copy_more, w_copy_copy, w_copy_tell, w_copy_go, w_copy_ask, w_copy_stop, w_copy_is, w_copy_by, w_tell_put, w_tell_more, w_tell_copy, w_tell_tell, w_tell_go, w_tell_ask, w_tell_stop, w_tell_is, w_tell_by, w_go_put, w_go_more, w_go_copy, w_go_tell, w_go_go, w_go_ask, w_go_stop, w_go_is, w_go_by, w_ask_put, w_ask_more, w_ask_copy, w_ask_tell, w_ask_go, w_ask_ask, w_ask_stop, w_ask_is, w_ask_by, w_stop_put, w_stop_more, w_stop_copy, w_stop_tell, w_stop_go, w_stop_ask, w_stop_stop, w_stop_is, w_stop_by, w_is_put, w_is_more, w_is_copy, w_is_tell, w_is_go, w_is_ask, w_is_stop, w_is_is, w_is_by, w_by_put, w_by_more, w_by_copy, w_by_tell, w_by_go, w_by_ask, w_by_stop, w_by_is, w_by_by, Nat.reduceLeDiff]; rfl)).trans rfl
  | ask b x =>
    have hb : b < ns.length := by rw [hn']; exact hr.1
    have eb := iD_at hb
    refine (seq (st' := [some (false, p.d), some (false, stD (i, ns)), some (false, .int i), some (false, .tuple (iD ns)), some (false, (Row.ask b x).d)]) (by simp only [runD, Dv.start, evSs_nil, evSs_cons, evS, evE, evL, evB, evAnd, evOr, evO, onOwn, guardO, setAll, thenS_nx, thenS_rt, thenS_ex, onV_ok, onV_ex, onB_ok, onB_ex, bindV_ok, bindV_ex, boolV_ok, bindA_ok, consA_ok, optI_none, optI_some, outcome_nx, outcome_shr, outcome_frs, outcome_ex, setV_shr, setV_frs, binD_add, binD_addT, binD_addL, binD_sub, binD_mulr, binD_mull, binD_fdiv', binD_mod', cmpD_lt, cmpD_le, cmpD_gt, cmpD_ge, cmpD_eqi, cmpD_nei, cmpD_is, cmpD_isn, cmpD_memL, cmpD_nmemL, cmpD_memT, cmpD_nmemT, isN_none, isN_int, isN_tup, isN_lst, isN_bool, isN_str, flat_int, flat_str, flat_none, flat_bool, fnD_lenL, fnD_lenT, fnD_lenS, fnD_intB, fnD_str, fnD_tupL, fnD_tupT, fnD_lstL, fnD_lstT, fnD_all, idxD_L, idxD_T, idxD_S, slcD_L, slcD_T, itemsD_L, itemsD_T, asD_shr, asD_frs, asB_ok, okCall_t, noBrw_nil, noBrw_shr, noBrw_frs, tests_nil, tests_one, at0, at1, at2, lim_eq, List.set_cons_zero, List.set_cons_succ, List.getElem?_cons_zero, List.getElem?_cons_succ, List.length_cons, List.length_nil, List.map_cons, List.map_nil, Option.map_some, Option.map_none, if_true, if_false, ite_true, ite_false, reduceIte, reduceCtorEq, decide_true, decide_false, Nat.reduceAdd, Nat.reduceSub, Nat.reduceEqDiff, Int.reduceNeg, Int.reduceLT, Int.reduceLE, Bool.not_true, Bool.not_false, Nat.reduceLeDiff, and_self, true_and, and_true, Row.d, w_put_put, w_put_more, w_put_copy, w_put_tell, w_put_go, w_put_ask, w_put_stop, w_put_is, w_put_by, w_more_put, w_more_more, w_more_copy, w_more_tell, w_more_go, w_more_ask, w_more_stop, w_more_is, w_more_by, w_copy_put, w_copy_more, w_copy_copy, w_copy_tell, w_copy_go, w_copy_ask, w_copy_stop, w_copy_is, w_copy_by, w_tell_put, w_tell_more, w_tell_copy, w_tell_tell, w_tell_go, w_tell_ask, w_tell_stop, w_tell_is, w_tell_by, w_go_put, w_go_more, w_go_copy, w_go_tell, w_go_go, w_go_ask, w_go_stop, w_go_is, w_go_by, w_ask_put, w_ask_more, w_ask_copy, w_ask_tell, w_ask_go, w_ask_ask, w_ask_stop, w_ask_is, w_ask_by, w_stop_put, w_stop_more, w_stop_copy, w_stop_tell, w_stop_go, w_stop_ask, w_stop_stop, w_stop_is, w_stop_by, w_is_put, w_is_more, w_is_copy, w_is_tell, w_is_go, w_is_ask, w_is_stop, w_is_is, w_is_by, w_by_put, w_by_more, w_by_copy, w_by_tell, w_by_go, w_by_ask, w_by_stop, w_by_is, w_by_by, Bool.false_eq_true])).trans ?_
    refine (seq (st' := [some (false, p.d), some (false, stD (i, ns)), some (false, .int i), some (false, .tuple (iD ns)), some (false, (Row.ask b x).d)]) (by simp only [runD, Dv.start, evSs_nil, evSs_cons, evS, evE, evL, evB, evAnd, evOr, evO, onOwn, guardO, setAll, thenS_nx, thenS_rt, thenS_ex, onV_ok, onV_ex, onB_ok, onB_ex, bindV_ok, bindV_ex, boolV_ok, bindA_ok, consA_ok, optI_none, optI_some, outcome_nx, outcome_shr, outcome_frs, outcome_ex, setV_shr, setV_frs, binD_add, binD_addT, binD_addL, binD_sub, binD_mulr, binD_mull, binD_fdiv', binD_mod', cmpD_lt, cmpD_le, cmpD_gt, cmpD_ge, cmpD_eqi, cmpD_nei, cmpD_is, cmpD_isn, cmpD_memL, cmpD_nmemL, cmpD_memT, cmpD_nmemT, isN_none, isN_int, isN_tup, isN_lst, isN_bool, isN_str, flat_int, flat_str, flat_none, flat_bool, fnD_lenL, fnD_lenT, fnD_lenS, fnD_intB, fnD_str, fnD_tupL, fnD_tupT, fnD_lstL, fnD_lstT, fnD_all, idxD_L, idxD_T, idxD_S, slcD_L, slcD_T, itemsD_L, itemsD_T, asD_shr, asD_frs, asB_ok, okCall_t, noBrw_nil, noBrw_shr, noBrw_frs, tests_nil, tests_one, at0, at1, at2, lim_eq, List.set_cons_zero, List.set_cons_succ, List.getElem?_cons_zero, List.getElem?_cons_succ, List.length_cons, List.length_nil, List.map_cons, List.map_nil, Option.map_some, Option.map_none, if_true, if_false, ite_true, ite_false, reduceIte, reduceCtorEq, decide_true, decide_false, Nat.reduceAdd, Nat.reduceSub, Nat.reduceEqDiff, Int.reduceNeg, Int.reduceLT, Int.reduceLE, Bool.not_true, Bool.not_false, Nat.reduceLeDiff, and_self, true_and, and_true, Row.d, w_put_put, w_put_more, w_put_copy, w_put_tell, w_put_go, w_put_ask, w_put_stop, w_put_is, w_put_by, w_more_put, w_more_more, w_more_copy, w_more_tell, w_more_go, w_more_ask, w_more_stop, w_more_is, w_more_by, w_copy_put, w_copy_more, w_copy_copy, w_copy_tell, w_copy_go, w_copy_ask, w_copy_stop, w_copy_is, w_copy_by, w_tell_put, w_tell_more, w_tell_copy, w_tell_tell, w_tell_go, w_tell_ask, w_tell_stop, w_tell_is, w_tell_by, w_go_put, w_go_more, w_go_copy, w_go_tell, w_go_go, w_go_ask, w_go_stop, w_go_is, w_go_by, w_ask_put, w_ask_more, w_ask_copy, w_ask_tell, w_ask_go, w_ask_ask, w_ask_stop, w_ask_is, w_ask_by, w_stop_put, w_stop_more, w_stop_copy, w_stop_tell, w_stop_go, w_stop_ask, w_stop_stop, w_stop_is, w_stop_by, w_is_put, w_is_more, w_is_copy, w_is_tell, w_is_go, w_is_ask, w_is_stop, w_is_is, w_is_by, w_by_put, w_by_more, w_by_copy, w_by_tell, w_by_go, w_by_ask, w_by_stop, w_by_is, w_by_by, Bool.false_eq_true])).trans ?_
    by_cases hz : ns.getD b 0 = 0
    · have hz' : (((ns.getD b 0 : Nat) : Int) == 0) = true := by rw [hz]; rfl
      refine (seq_rt (d := stD (x, ns)) (by simp only [runD, Dv.start, evSs_nil, evSs_cons, evS, evE, evL, evB, evAnd, evOr, evO, onOwn, guardO, setAll, thenS_nx, thenS_rt, thenS_ex, onV_ok, onV_ex, onB_ok, onB_ex, bindV_ok, bindV_ex, boolV_ok, bindA_ok, consA_ok, optI_none, optI_some, outcome_nx, outcome_shr, outcome_frs, outcome_ex, setV_shr, setV_frs, binD_add, binD_addT, binD_addL, binD_sub, binD_mulr, binD_mull, binD_fdiv', binD_mod', cmpD_lt, cmpD_le, cmpD_gt, cmpD_ge, cmpD_eqi, cmpD_nei, cmpD_is, cmpD_isn, cmpD_memL, cmpD_nmemL, cmpD_memT, cmpD_nmemT, isN_none, isN_int, isN_tup, isN_lst, isN_bool, isN_str, flat_int, flat_str, flat_none, flat_bool, fnD_lenL, fnD_lenT, fnD_lenS, fnD_intB, fnD_str, fnD_tupL, fnD_tupT, fnD_lstL, fnD_lstT, fnD_all, idxD_L, idxD_T, idxD_S, slcD_L, slcD_T, itemsD_L, itemsD_T, asD_shr, asD_frs, asB_ok, okCall_t, noBrw_nil, noBrw_shr, noBrw_frs, tests_nil, tests_one, at0, at1, at2, lim_eq, List.set_cons_zero, List.set_cons_succ, List.getElem?_cons_zero, List.getElem?_cons_succ, List.length_cons, List.length_nil, List.map_cons, List.map_nil, Option.map_some, Option.map_none, if_true, if_false, ite_true, ite_false, reduceIte, reduceCtorEq, decide_true, decide_false, Nat.reduceAdd, Nat.reduceSub, Nat.reduceEqDiff, Int.reduceNeg, Int.reduceLT, Int.reduceLE, Bool.not_true, Bool.not_false, Nat.reduceLeDiff, and_self, true_and, and_true, Row.d, w_put_put, w_put_more, w_put_copy, w_put_tell, w_put_go, w_put_ask, w_put_stop, w_put_is, w_put_by, w_more_put, w_more_more, w_more_copy, w_more_tell, w_more_go, w_more_ask, w_more_stop, w_more_is, w_more_by, w_copy_put, w_copy_more, w_copy_copy, w_copy_tell, w_copy_go, w_copy_ask, w_copy_stop, w_copy_is, w_copy_by, w_tell_put, w_tell_more, w_tell_copy, w_tell_tell, w_tell_go, w_tell_ask, w_tell_stop, w_tell_is, w_tell_by, w_go_put, w_go_more, w_go_copy, w_go_tell, w_go_go, w_go_ask, w_go_stop, w_go_is, w_go_by, w_ask_put, w_ask_more, w_ask_copy, w_ask_tell, w_ask_go, w_ask_ask, w_ask_stop, w_ask_is, w_ask_by, w_stop_put, w_stop_more, w_stop_copy, w_stop_tell, w_stop_go, w_stop_ask, w_stop_stop, w_stop_is, w_stop_by, w_is_put, w_is_more, w_is_copy, w_is_tell, w_is_go, w_is_ask, w_is_stop, w_is_is, w_is_by, w_by_put, w_by_more, w_by_copy, w_by_tell, w_by_go, w_by_ask, w_by_stop, w_by_is, w_by_by, eb, hz', Nat.reduceLeDiff]; rfl)).trans ?_
      show _ = some (SO.rt .shr (stD (if ns.getD b 0 = 0 then x else i + 1, ns)))
      rw [if_pos hz]
    · have hz' : (((ns.getD b 0 : Nat) : Int) == 0) = false := by rw [beq_eq_false_iff_ne]; omega
      refine (seq_rt (d := stD (i + 1, ns)) (by simp only [runD, Dv.start, evSs_nil, evSs_cons, evS, evE, evL, evB, evAnd, evOr, evO, onOwn, guardO, setAll, thenS_nx, thenS_rt, thenS_ex, onV_ok, onV_ex, onB_ok, onB_ex, bindV_ok, bindV_ex, boolV_ok, bindA_ok, consA_ok, optI_none, optI_some, outcome_nx, outcome_shr, outcome_frs, outcome_ex, setV_shr, setV_frs, binD_add, binD_addT, binD_addL, binD_sub, binD_mulr, binD_mull, binD_fdiv', binD_mod', cmpD_lt, cmpD_le, cmpD_gt, cmpD_ge, cmpD_eqi, cmpD_nei, cmpD_is, cmpD_isn, cmpD_memL, cmpD_nmemL, cmpD_memT, cmpD_nmemT, isN_none, isN_int, isN_tup, isN_lst, isN_bool, isN_str, flat_int, flat_str, flat_none, flat_bool, fnD_lenL, fnD_lenT, fnD_lenS, fnD_intB, fnD_str, fnD_tupL, fnD_tupT, fnD_lstL, fnD_lstT, fnD_all, idxD_L, idxD_T, idxD_S, slcD_L, slcD_T, itemsD_L, itemsD_T, asD_shr, asD_frs, asB_ok, okCall_t, noBrw_nil, noBrw_shr, noBrw_frs, tests_nil, tests_one, at0, at1, at2, lim_eq, List.set_cons_zero, List.set_cons_succ, List.getElem?_cons_zero, List.getElem?_cons_succ, List.length_cons, List.length_nil, List.map_cons, List.map_nil, Option.map_some, Option.map_none, if_true, if_false, ite_true, ite_false, reduceIte, reduceCtorEq, decide_true, decide_false, Nat.reduceAdd, Nat.reduceSub, Nat.reduceEqDiff, Int.reduceNeg, Int.reduceLT, Int.reduceLE, Bool.not_true, Bool.not_false, Nat.reduceLeDiff, and_self, true_and, and_true, Row.d, w_put_put, w_put_more, w_put_copy, w_put_tell, w_put_go, w_put_ask, w_put_stop, w_put_is, w_put_by, w_more_put, w_more_more, w_more_copy, w_more_tell, w_more_go, w_more_ask, w_more_stop, w_more_is, w_more_by, w_copy_put, w_copy_more, w_copy_copy, w_copy_tell, w_copy_go, w_copy_ask, w_copy_stop, w_copy_is, w_copy_by, w_tell_put, w_tell_more, w_tell_copy, w_tell_tell, w_tell_go, w_tell_ask, w_tell_stop, w_tell_is, w_tell_by, w_go_put, w_go_more, w_go_copy, w_go_tell, w_go_go, w_go_ask, w_go_stop, w_go_is, w_go_by, w_ask_put, w_ask_more, w_ask_copy, w_ask_tell, w_ask_go, w_ask_ask, w_ask_stop, w_ask_is, w_ask_by, w_stop_put, w_stop_more, w_stop_copy, w_stop_tell, w_stop_go, w_stop_ask, w_stop_stop, w_stop_is, w_stop_by, w_is_put, w_is_more, w_is_copy, w_is_tell, w_is_go, w_is_ask, w_is_stop, w_is_is, w_is_by, w_by_put, w_by_more, w_by_copy, w_by_tell, w_by_go, w_by_ask, w_by_stop, w_by_is, w_by_by, eb, hz', Nat.reduceLeDiff, Bool.false_eq_true]; rfl)).trans ?_
      show _ = some (SO.rt .shr (stD (if ns.getD b 0 = 0 then x else i + 1, ns)))
      rw [if_neg hz]
  | put b v =>
    have hb : b < ns.length := by rw [hn']; exact hr.1
    have e := wn (v := v) hb
    iterate 3 refine (seq (st' := [some (false, p.d), some (false, stD (i, ns)), some (false, .int i), some (false, .tuple (iD ns)), some (false, (Row.put b v).d)]) (by simp only [runD, Dv.start, evSs_nil, evSs_cons, evS, evE, evL, evB, evAnd, evOr, evO, onOwn, guardO, setAll, thenS_nx, thenS_rt, thenS_ex, onV_ok, onV_ex, onB_ok, onB_ex, bindV_ok, bindV_ex, boolV_ok, bindA_ok, consA_ok, optI_none, optI_some, outcome_nx, outcome_shr, outcome_frs, outcome_ex, setV_shr, setV_frs, binD_add, binD_addT, binD_addL, binD_sub, binD_mulr, binD_mull, binD_fdiv', binD_mod', cmpD_lt, cmpD_le, cmpD_gt, cmpD_ge, cmpD_eqi, cmpD_nei, cmpD_is, cmpD_isn, cmpD_memL, cmpD_nmemL, cmpD_memT, cmpD_nmemT, isN_none, isN_int, isN_tup, isN_lst, isN_bool, isN_str, flat_int, flat_str, flat_none, flat_bool, fnD_lenL, fnD_lenT, fnD_lenS, fnD_intB, fnD_str, fnD_tupL, fnD_tupT, fnD_lstL, fnD_lstT, fnD_all, idxD_L, idxD_T, idxD_S, slcD_L, slcD_T, itemsD_L, itemsD_T, asD_shr, asD_frs, asB_ok, okCall_t, noBrw_nil, noBrw_shr, noBrw_frs, tests_nil, tests_one, at0, at1, at2, lim_eq, List.set_cons_zero, List.set_cons_succ, List.getElem?_cons_zero, List.getElem?_cons_succ, List.length_cons, List.length_nil, List.map_cons, List.map_nil, Option.map_some, Option.map_none, if_true, if_false, ite_true, ite_false, reduceIte, reduceCtorEq, decide_true, decide_false, Nat.reduceAdd, Nat.reduceSub, Nat.reduceEqDiff, Int.reduceNeg, Int.reduceLT, Int.reduceLE, Bool.not_true, Bool.not_false, Nat.reduceLeDiff, and_self, true_and, and_true, Row.d, w_put_put, w_put_more, w_put_copy, w_put_tell, w_put_go, w_put_ask, w_put_stop, w_put_is, w_put_by, w_more_put, w_more_more, w_more_copy, w_more_tell, w_more_go, w_more_ask, w_more_stop, w_more_is, w_more_by, w_copy_put, w_copy_more, w_copy_copy, w_copy_tell, w_copy_go, w_copy_ask, w_copy_stop, w_copy_is, w_copy_by, w_tell_put, w_tell_more, w_tell_copy, w_tell_tell, w_tell_go, w_tell_ask, w_tell_stop, w_tell_is, w_tell_by, w_go_put, w_go_more, w_go_copy, w_go_tell, w_go_go, w_go_ask, w_go_stop, w_go_is, w_go_by, w_ask_put, w_ask_more, w_ask_copy, w_ask_tell, w_ask_go, w_ask_ask, w_ask_stop, w_ask_is, w_ask_by, w_stop_put, w_stop_more, w_stop_copy, w_stop_tell, w_stop_go, w_stop_ask, w_stop_stop, w_stop_is, w_stop_by, w_is_put, w_is_more, w_is_copy, w_is_tell, w_is_go, w_is_ask, w_is_stop, w_is_is, w_is_by, w_by_put, w_by_more, w_by_copy, w_by_tell, w_by_go, w_by_ask, w_by_stop, w_by_is, w_by_by, Bool.false_eq_true])).trans ?_
    exact (seq_rt (by simp only [runD, Dv.start, evSs_nil, evSs_cons, evS, evE, evL, evB, evAnd, evOr, evO, onOwn, guardO, setAll, thenS_nx, thenS_rt, thenS_ex, onV_ok, onV_ex, onB_ok, onB_ex, bindV_ok, bindV_ex, boolV_ok, bindA_ok, consA_ok, optI_none, optI_some, outcome_nx, outcome_shr, outcome_frs, outcome_ex, setV_shr, setV_frs, binD_add, binD_addT, binD_addL, binD_sub, binD_mulr, binD_mull, binD_fdiv', binD_mod', cmpD_lt, cmpD_le, cmpD_gt, cmpD_ge, cmpD_eqi, cmpD_nei, cmpD_is, cmpD_isn, cmpD_memL, cmpD_nmemL, cmpD_memT, cmpD_nmemT, isN_none, isN_int, isN_tup, isN_lst, isN_bool, isN_str, flat_int, flat_str, flat_none, flat_bool, fnD_lenL, fnD_lenT, fnD_lenS, fnD_intB, fnD_str, fnD_tupL, fnD_tupT, fnD_lstL, fnD_lstT, fnD_all, idxD_L, idxD_T, idxD_S, slcD_L, slcD_T, itemsD_L, itemsD_T, asD_shr, asD_frs, asB_ok, okCall_t, noBrw_nil, noBrw_shr, noBrw_frs, tests_nil, tests_one, at0, at1, at2, lim_eq, List.set_cons_zero, List.set_cons_succ, List.getElem?_cons_zero, List.getElem?_cons_succ, List.length_cons, List.length_nil, List.map_cons, List.map_nil, Option.map_some, Option.map_none, if_true, if_false, ite_true, ite_false, reduceIte, reduceCtorEq, decide_true, decide_false, Nat.reduceAdd, Nat.reduceSub, Nat.reduceEqDiff, Int.reduceNeg, Int.reduceLT, Int.reduceLE, Bool.not_true, Bool.not_false, Nat.reduceLeDiff, and_self, true_and, and_true, Row.d, w_put_put, w_put_more, w_put_copy, w_put_tell, w_put_go, w_put_ask, w_put_stop, w_put_is, w_put_by, w_more_put, w_more_more, w_more_copy, w_more_tell, w_more_go, w_more_ask, w_more_stop, w_more_is, w_more_by, w_copy_put, w_copy_more, w_copy_copy, w_copy_tell, w_copy_go, w_copy_ask, w_copy_stop, w_copy_is, w_copy_by, w_tell_put, w_tell_more, w_tell_copy, w_tell_tell, w_tell_go, w_tell_ask, w_tell_stop, w_tell_is, w_tell_by, w_go_put, w_go_more, w_go_copy, w_go_tell, w_go_go, w_go_ask, w_go_stop, w_go_is, w_go_by, w_ask_put, w_ask_more, w_ask_copy, w_ask_tell, w_ask_go, w_ask_ask, w_ask_stop, w_ask_is, w_ask_by, w_stop_put, w_stop_more, w_stop_copy, w_stop_tell, w_stop_go, w_stop_ask, w_stop_stop, w_stop_is, w_stop_by, w_is_put, w_is_more, w_is_copy, w_is_tell, w_is_go, w_is_ask, w_is_stop, w_is_is, w_is_by, w_by_put, w_by_more, w_by_copy, w_by_tell, w_by_go, w_by_ask, w_by_stop, w_by_is, w_by_by, e, Nat.reduceLeDiff]; rfl)).trans rfl
  | more b =>
    have hb : b < ns.length := by rw [hn']; exact hr
    have eb := iD_at hb
    have hmz : (0 : Int) < (p.most : Int) + 1 := by omega
    have ev : (((ns.getD b 0 : Nat) : Int) + 1) % ((p.most : Int) + 1) = (((ns.getD b 0 + 1) % (p.most + 1) : Nat) : Int) := by simp
    have e := wn (v := (ns.getD b 0 + 1) % (p.most + 1)) hb
    iterate 4 refine (seq (st' := [some (false, p.d), some (false, stD (i, ns)), some (false, .int i), some (false, .tuple (iD ns)), some (false, (Row.more b).d)]) (by simp only [runD, Dv.start, evSs_nil, evSs_cons, evS, evE, evL, evB, evAnd, evOr, evO, onOwn, guardO, setAll, thenS_nx, thenS_rt, thenS_ex, onV_ok, onV_ex, onB_ok, onB_ex, bindV_ok, bindV_ex, boolV_ok, bindA_ok, consA_ok, optI_none, optI_some, outcome_nx, outcome_shr, outcome_frs, outcome_ex, setV_shr, setV_frs, binD_add, binD_addT, binD_addL, binD_sub, binD_mulr, binD_mull, binD_fdiv', binD_mod', cmpD_lt, cmpD_le, cmpD_gt, cmpD_ge, cmpD_eqi, cmpD_nei, cmpD_is, cmpD_isn, cmpD_memL, cmpD_nmemL, cmpD_memT, cmpD_nmemT, isN_none, isN_int, isN_tup, isN_lst, isN_bool, isN_str, flat_int, flat_str, flat_none, flat_bool, fnD_lenL, fnD_lenT, fnD_lenS, fnD_intB, fnD_str, fnD_tupL, fnD_tupT, fnD_lstL, fnD_lstT, fnD_all, idxD_L, idxD_T, idxD_S, slcD_L, slcD_T, itemsD_L, itemsD_T, asD_shr, asD_frs, asB_ok, okCall_t, noBrw_nil, noBrw_shr, noBrw_frs, tests_nil, tests_one, at0, at1, at2, lim_eq, List.set_cons_zero, List.set_cons_succ, List.getElem?_cons_zero, List.getElem?_cons_succ, List.length_cons, List.length_nil, List.map_cons, List.map_nil, Option.map_some, Option.map_none, if_true, if_false, ite_true, ite_false, reduceIte, reduceCtorEq, decide_true, decide_false, Nat.reduceAdd, Nat.reduceSub, Nat.reduceEqDiff, Int.reduceNeg, Int.reduceLT, Int.reduceLE, Bool.not_true, Bool.not_false, Nat.reduceLeDiff, and_self, true_and, and_true, Row.d, w_put_put, w_put_more, w_put_copy, w_put_tell, w_put_go, w_put_ask, w_put_stop, w_put_is, w_put_by, w_more_put, w_more_more, w_more_copy, w_more_tell, w_more_go, w_more_ask, w_more_stop, w_more_is, w_more_by, w_copy_put, w_copy_more, w_copy_copy, w_copy_tell, w_copy_go, w_copy_ask, w_copy_stop, w_copy_is, w_copy_by, w_tell_put, w_tell_more, w_tell_copy, w_tell_tell, w_tell_go, w_tell_ask, w_tell_stop, w_tell_is, w_tell_by, w_go_put, w_go_more, w_go_copy, w_go_tell, w_go_go, w_go_ask, w_go_stop, w_go_is, w_go_by, w_ask_put, w_ask_more, w_ask_copy, w_ask_tell, w_ask_go, w_ask_ask, w_ask_stop, w_ask_is, w_ask_by, w_stop_put, w_stop_more, w_stop_copy, w_stop_tell, w_stop_go, w_stop_ask, w_stop_stop, w_stop_is, w_stop_by, w_is_put, w_is_more, w_is_copy, w_is_tell, w_is_go, w_is_ask, w_is_stop, w_is_is, w_is_by, w_by_put, w_by_more, w_by_copy, w_by_tell, w_by_go, w_by_ask, w_by_stop, w_by_is, w_by_by, Bool.false_eq_true])).trans ?_
    exact (seq_rt (by simp only [runD, Dv.start, evSs_nil, evSs_cons, evS, evE, evL, evB, evAnd, evOr, evO, onOwn, guardO, setAll, thenS_nx, thenS_rt, thenS_ex, onV_ok, onV_ex, onB_ok, onB_ex, bindV_ok, bindV_ex, boolV_ok, bindA_ok, consA_ok, optI_none, optI_some, outcome_nx, outcome_shr, outcome_frs, outcome_ex, setV_shr, setV_frs, binD_add, binD_addT, binD_addL, binD_sub, binD_mulr, binD_mull, binD_fdiv', binD_mod', cmpD_lt, cmpD_le, cmpD_gt, cmpD_ge, cmpD_eqi, cmpD_nei, cmpD_is, cmpD_isn, cmpD_memL, cmpD_nmemL, cmpD_memT, cmpD_nmemT, isN_none, isN_int, isN_tup, isN_lst, isN_bool, isN_str, flat_int, flat_str, flat_none, flat_bool, fnD_lenL, fnD_lenT, fnD_lenS, fnD_intB, fnD_str, fnD_tupL, fnD_tupT, fnD_lstL, fnD_lstT, fnD_all, idxD_L, idxD_T, idxD_S, slcD_L, slcD_T, itemsD_L, itemsD_T, asD_shr, asD_frs, asB_ok, okCall_t, noBrw_nil, noBrw_shr, noBrw_frs, tests_nil, tests_one, at0, at1, at2, lim_eq, List.set_cons_zero, List.set_cons_succ, List.getElem?_cons_zero, List.getElem?_cons_succ, List.length_cons, List.length_nil, List.map_cons, List.map_nil, Option.map_some, Option.map_none, if_true, if_false, ite_true, ite_false, reduceIte, reduceCtorEq, decide_true, decide_false, Nat.reduceAdd, Nat.reduceSub, Nat.reduceEqDiff, Int.reduceNeg, Int.reduceLT, Int.reduceLE, Bool.not_true, Bool.not_false, Nat.reduceLeDiff, and_self, true_and, and_true, Row.d, w_put_put, w_put_more, w_put_copy, w_put_tell, w_put_go, w_put_ask, w_put_stop, w_put_is, w_put_by, w_more_put, w_more_more, w_more_copy, w_more_tell, w_more_go, w_more_ask, w_more_stop, w_more_is, w_more_by, w_copy_put, w_copy_more, w_copy_copy, w_copy_tell, w_copy_go, w_copy_ask, w_copy_stop, w_copy_is, w_copy_by, w_tell_put, w_tell_more, w_tell_copy, w_tell_tell, w_tell_go, w_tell_ask, w_tell_stop, w_tell_is, w_tell_by, w_go_put, w_go_more, w_go_copy, w_go_tell, w_go_go, w_go_ask, w_go_stop, w_go_is, w_go_by, w_ask_put, w_ask_more, w_ask_copy, w_ask_tell, w_ask_go, w_ask_ask, w_ask_stop, w_ask_is, w_ask_by, w_stop_put, w_stop_more, w_stop_copy, w_stop_tell, w_stop_go, w_stop_ask, w_stop_stop, w_stop_is, w_stop_by, w_is_put, w_is_more, w_is_copy, w_is_tell, w_is_go, w_is_ask, w_is_stop, w_is_is, w_is_by, w_by_put, w_by_more, w_by_copy, w_by_tell, w_by_go, w_by_ask, w_by_stop, w_by_is, w_by_by, Prog.d, eb, hmz, ev, e, Nat.reduceLeDiff]; rfl)).trans rfl
  | copy b c =>
    have hb : b < ns.length := by rw [hn']; exact hr.1
    have hc : c < ns.length := by rw [hn']; exact hr.2
    have ec := iD_at hc
    have e := wn (v := ns.getD c 0) hb
    iterate 5 refine (seq (st' := [some (false, p.d), some (false, stD (i, ns)), some (false, .int i), some (false, .tuple (iD ns)), some (false, (Row.copy b c).d)]) (by simp only [runD, Dv.start, evSs_nil, evSs_cons, evS, evE, evL, evB, evAnd, evOr, evO, onOwn, guardO, setAll, thenS_nx, thenS_rt, thenS_ex, onV_ok, onV_ex, onB_ok, onB_ex, bindV_ok, bindV_ex, boolV_ok, bindA_ok, consA_ok, optI_none, optI_some, outcome_nx, outcome_shr, outcome_frs, outcome_ex, setV_shr, setV_frs, binD_add, binD_addT, binD_addL, binD_sub, binD_mulr, binD_mull, binD_fdiv', binD_mod', cmpD_lt, cmpD_le, cmpD_gt, cmpD_ge, cmpD_eqi, cmpD_nei, cmpD_is, cmpD_isn, cmpD_memL, cmpD_nmemL, cmpD_memT, cmpD_nmemT, isN_none, isN_int, isN_tup, isN_lst, isN_bool, isN_str, flat_int, flat_str, flat_none, flat_bool, fnD_lenL, fnD_lenT, fnD_lenS, fnD_intB, fnD_str, fnD_tupL, fnD_tupT, fnD_lstL, fnD_lstT, fnD_all, idxD_L, idxD_T, idxD_S, slcD_L, slcD_T, itemsD_L, itemsD_T, asD_shr, asD_frs, asB_ok, okCall_t, noBrw_nil, noBrw_shr, noBrw_frs, tests_nil, tests_one, at0, at1, at2, lim_eq, List.set_cons_zero, List.set_cons_succ, List.getElem?_cons_zero, List.getElem?_cons_succ, List.length_cons, List.length_nil, List.map_cons, List.map_nil, Option.map_some, Option.map_none, if_true, if_false, ite_true, ite_false, reduceIte, reduceCtorEq, decide_true, decide_false, Nat.reduceAdd, Nat.reduceSub, Nat.reduceEqDiff, Int.reduceNeg, Int.reduceLT, Int.reduceLE, Bool.not_true, Bool.not_false, Nat.reduceLeDiff, and_self, true_and, and_true, Row.d, w_put_put, w_put_more, w_put_copy, w_put_tell, w_put_go, w_put_ask, w_put_stop, w_put_is, w_put_by, w_more_put, w_more_more, w_more_copy, w_more_tell, w_more_go, w_more_ask, w_more_stop, w_more_is, w_more_by, w_copy_put, w_copy_more, w_copy_copy, w_copy_tell, w_copy_go, w_copy_ask, w_copy_stop, w_copy_is, w_copy_by, w_tell_put, w_tell_more, w_tell_copy, w_tell_tell, w_tell_go, w_tell_ask, w_tell_stop, w_tell_is, w_tell_by, w_go_put, w_go_more, w_go_copy, w_go_tell, w_go_go, w_go_ask, w_go_stop, w_go_is, w_go_by, w_ask_put, w_ask_more, w_ask_copy, w_ask_tell, w_ask_go, w_ask_ask, w_ask_stop, w_ask_is, w_ask_by, w_stop_put, w_stop_more, w_stop_copy, w_stop_tell, w_stop_go, w_stop_ask, w_stop_stop, w_stop_is, w_stop_by, w_is_put, w_is_more, w_is_copy, w_is_tell, w_is_go, w_is_ask, w_is_stop, w_is_is, w_is_by, w_by_put, w_by_more, w_by_copy, w_by_tell, w_by_go, w_by_ask, w_by_stop, w_by_is, w_by_by, Bool.false_eq_true])).trans ?_
    exact (seq_rt (by simp only [runD, Dv.start, evSs_nil, evSs_cons, evS, evE, evL, evB, evAnd, evOr, evO, onOwn, guardO, setAll, thenS_nx, thenS_rt, thenS_ex, onV_ok, onV_ex, onB_ok, onB_ex, bindV_ok, bindV_ex, boolV_ok, bindA_ok, consA_ok, optI_none, optI_some, outcome_nx, outcome_shr, outcome_frs, outcome_ex, setV_shr, setV_frs, binD_add, binD_addT, binD_addL, binD_sub, binD_mulr, binD_mull, binD_fdiv', binD_mod', cmpD_lt, cmpD_le, cmpD_gt, cmpD_ge, cmpD_eqi, cmpD_nei, cmpD_is, cmpD_isn, cmpD_memL, cmpD_nmemL, cmpD_memT, cmpD_nmemT, isN_none, isN_int, isN_tup, isN_lst, isN_bool, isN_str, flat_int, flat_str, flat_none, flat_bool, fnD_lenL, fnD_lenT, fnD_lenS, fnD_intB, fnD_str, fnD_tupL, fnD_tupT, fnD_lstL, fnD_lstT, fnD_all, idxD_L, idxD_T, idxD_S, slcD_L, slcD_T, itemsD_L, itemsD_T, asD_shr, asD_frs, asB_ok, okCall_t, noBrw_nil, noBrw_shr, noBrw_frs, tests_nil, tests_one, at0, at1, at2, lim_eq, List.set_cons_zero, List.set_cons_succ, List.getElem?_cons_zero, List.getElem?_cons_succ, List.length_cons, List.length_nil, List.map_cons, List.map_nil, Option.map_some, Option.map_none, if_true, if_false, ite_true, ite_false, reduceIte, reduceCtorEq, decide_true, decide_false, Nat.reduceAdd, Nat.reduceSub, Nat.reduceEqDiff, Int.reduceNeg, Int.reduceLT, Int.reduceLE, Bool.not_true, Bool.not_false, Nat.reduceLeDiff, and_self, true_and, and_true, Row.d, w_put_put, w_put_more, w_put_copy, w_put_tell, w_put_go, w_put_ask, w_put_stop, w_put_is, w_put_by, w_more_put, w_more_more, w_more_copy, w_more_tell, w_more_go, w_more_ask, w_more_stop, w_more_is, w_more_by, w_copy_put, w_copy_more, w_copy_copy, w_copy_tell, w_copy_go, w_copy_ask, w_copy_stop, w_copy_is, w_copy_by, w_tell_put, w_tell_more, w_tell_copy, w_tell_tell, w_tell_go, w_tell_ask, w_tell_stop, w_tell_is, w_tell_by, w_go_put, w_go_more, w_go_copy, w_go_tell, w_go_go, w_go_ask, w_go_stop, w_go_is, w_go_by, w_ask_put, w_ask_more, w_ask_copy, w_ask_tell, w_ask_go, w_ask_ask, w_ask_stop, w_ask_is, w_ask_by, w_stop_put, w_stop_more, w_stop_copy, w_stop_tell, w_stop_go, w_stop_ask, w_stop_stop, w_stop_is, w_stop_by, w_is_put, w_is_more, w_is_copy, w_is_tell, w_is_go, w_is_ask, w_is_stop, w_is_is, w_is_by, w_by_put, w_by_more, w_by_copy, w_by_tell, w_by_go, w_by_ask, w_by_stop, w_by_is, w_by_by, ec, e, Nat.reduceLeDiff]; rfl)).trans rfl
  | tell b =>
    iterate 6 refine (seq (st' := [some (false, p.d), some (false, stD (i, ns)), some (false, .int i), some (false, .tuple (iD ns)), some (false, (Row.tell b).d)]) (by simp only [runD, Dv.start, evSs_nil, evSs_cons, evS, evE, evL, evB, evAnd, evOr, evO, onOwn, guardO, setAll, thenS_nx, thenS_rt, thenS_ex, onV_ok, onV_ex, onB_ok, onB_ex, bindV_ok, bindV_ex, boolV_ok, bindA_ok, consA_ok, optI_none, optI_some, outcome_nx, outcome_shr, outcome_frs, outcome_ex, setV_shr, setV_frs, binD_add, binD_addT, binD_addL, binD_sub, binD_mulr, binD_mull, binD_fdiv', binD_mod', cmpD_lt, cmpD_le, cmpD_gt, cmpD_ge, cmpD_eqi, cmpD_nei, cmpD_is, cmpD_isn, cmpD_memL, cmpD_nmemL, cmpD_memT, cmpD_nmemT, isN_none, isN_int, isN_tup, isN_lst, isN_bool, isN_str, flat_int, flat_str, flat_none, flat_bool, fnD_lenL, fnD_lenT, fnD_lenS, fnD_intB, fnD_str, fnD_tupL, fnD_tupT, fnD_lstL, fnD_lstT, fnD_all, idxD_L, idxD_T, idxD_S, slcD_L, slcD_T, itemsD_L, itemsD_T, asD_shr, asD_frs, asB_ok, okCall_t, noBrw_nil, noBrw_shr, noBrw_frs, tests_nil, tests_one, at0, at1, at2, lim_eq, List.set_cons_zero, List.set_cons_succ, List.getElem?_cons_zero, List.getElem?_cons_succ, List.length_cons, List.length_nil, List.map_cons, List.map_nil, Option.map_some, Option.map_none, if_true, if_false, ite_true, ite_false, reduceIte, reduceCtorEq, decide_true, decide_false, Nat.reduceAdd, Nat.reduceSub, Nat.reduceEqDiff, Int.reduceNeg, Int.reduceLT, Int.reduceLE, Bool.not_true, Bool.not_false, Nat.reduceLeDiff, and_self, true_and, and_true, Row.d, w_put_put, w_put_more, w_put_copy, w_put_tell, w_put_go, w_put_ask, w_put_stop, w_put_is, w_put_by, w_more_put, w_more_more, w_more_copy, w_more_tell, w_more_go, w_more_ask, w_more_stop, w_more_is, w_more_by, w_copy_put, w_copy_more, w_copy_copy, w_copy_tell, w_copy_go, w_copy_ask, w_copy_stop, w_copy_is, w_copy_by, w_tell_put, w_tell_more, w_tell_copy, w_tell_tell, w_tell_go, w_tell_ask, w_tell_stop, w_tell_is, w_tell_by, w_go_put, w_go_more, w_go_copy, w_go_tell, w_go_go, w_go_ask, w_go_stop, w_go_is, w_go_by, w_ask_put, w_ask_more, w_ask_copy, w_ask_tell, w_ask_go, w_ask_ask, w_ask_stop, w_ask_is, w_ask_by, w_stop_put, w_stop_more, w_stop_copy, w_stop_tell, w_stop_go, w_stop_ask, w_stop_stop, w_stop_is, w_stop_by, w_is_put, w_is_more, w_is_copy, w_is_tell, w_is_go, w_is_ask, w_is_stop, w_is_is, w_is_by, w_by_put, w_by_more, w_by_copy, w_by_tell, w_by_go, w_by_ask, w_by_stop, w_by_is, w_by_by, Bool.false_eq_true])).trans ?_
    exact (seq_rt (by simp only [runD, Dv.start, evSs_nil, evSs_cons, evS, evE, evL, evB, evAnd, evOr, evO, onOwn, guardO, setAll, thenS_nx, thenS_rt, thenS_ex, onV_ok, onV_ex, onB_ok, onB_ex, bindV_ok, bindV_ex, boolV_ok, bindA_ok, consA_ok, optI_none, optI_some, outcome_nx, outcome_shr, outcome_frs, outcome_ex, setV_shr, setV_frs, binD_add, binD_addT, binD_addL, binD_sub, binD_mulr, binD_mull, binD_fdiv', binD_mod', cmpD_lt, cmpD_le, cmpD_gt, cmpD_ge, cmpD_eqi, cmpD_nei, cmpD_is, cmpD_isn, cmpD_memL, cmpD_nmemL, cmpD_memT, cmpD_nmemT, isN_none, isN_int, isN_tup, isN_lst, isN_bool, isN_str, flat_int, flat_str, flat_none, flat_bool, fnD_lenL, fnD_lenT, fnD_lenS, fnD_intB, fnD_str, fnD_tupL, fnD_tupT, fnD_lstL, fnD_lstT, fnD_all, idxD_L, idxD_T, idxD_S, slcD_L, slcD_T, itemsD_L, itemsD_T, asD_shr, asD_frs, asB_ok, okCall_t, noBrw_nil, noBrw_shr, noBrw_frs, tests_nil, tests_one, at0, at1, at2, lim_eq, List.set_cons_zero, List.set_cons_succ, List.getElem?_cons_zero, List.getElem?_cons_succ, List.length_cons, List.length_nil, List.map_cons, List.map_nil, Option.map_some, Option.map_none, if_true, if_false, ite_true, ite_false, reduceIte, reduceCtorEq, decide_true, decide_false, Nat.reduceAdd, Nat.reduceSub, Nat.reduceEqDiff, Int.reduceNeg, Int.reduceLT, Int.reduceLE, Bool.not_true, Bool.not_false, Nat.reduceLeDiff, and_self, true_and, and_true, Nat.reduceLeDiff]; rfl)).trans rfl
end Law
namespace Law
open PySem Dv
def pairD (x : Option (Nat × List Nat) × Option Nat) : D := .tuple [optS x.1, cellD x.2]
end Law
namespace Law
open PySem Dv
theorem ixN_nat {b n : Nat} (h : b < n) : L2.ixN n (b : Int) = some b := by
  unfold L2.ixN
  rw [if_pos (by omega), if_pos (by omega), Int.toNat_natCast]
theorem law_put_ok {fu n : Nat} {ns : List Nat} {b v : Nat} (h : b < ns.length) : run tab fu (n + 1) "_law_put" [numsD ns, .int b, .int v] = some (.ok .shr (numsD (ns.set b v))) := by
  rw [run_law_put]
  refine runD_rt rfl ?_
  unfold d_law_put
  rw [show Dv.start _ _ = [some (false, numsD ns), some (false, .int b), some (false, .int v), none] from rfl]
  have e : (iD ns).set b (.int (v : Int)) = iD (ns.set b v) := by unfold iD; rw [List.map_set]
  have ix : L2.ixN (iD ns).length (b : Int) = some b := ixN_nat (by rw [iD_len]; exact h)
  refine (seq (st' := [some (false, numsD ns), some (false, .int b), some (false, .int v), some (true, .list (iD ns))]) (by simp only [runD, Dv.start, evSs_nil, evSs_cons, evS, evE, evL, evB, evAnd, evOr, evO, onOwn, guardO, setAll, thenS_nx, thenS_rt, thenS_ex, onV_ok, onV_ex, onB_ok, onB_ex, bindV_ok, bindV_ex, boolV_ok, bindA_ok, consA_ok, optI_none, optI_some, outcome_nx, outcome_shr, outcome_frs, outcome_ex, setV_shr, setV_frs, binD_add, binD_addT, binD_addL, binD_sub, binD_mulr, binD_mull, binD_fdiv', binD_mod', cmpD_lt, cmpD_le, cmpD_gt, cmpD_ge, cmpD_eqi, cmpD_nei, cmpD_is, cmpD_isn, cmpD_memL, cmpD_nmemL, cmpD_memT, cmpD_nmemT, isN_none, isN_int, isN_tup, isN_lst, isN_bool, isN_str, flat_int, flat_str, flat_none, flat_bool, fnD_lenL, fnD_lenT, fnD_lenS, fnD_intB, fnD_str, fnD_tupL, fnD_tupT, fnD_lstL, fnD_lstT, fnD_all, idxD_L, idxD_T, idxD_S, slcD_L, slcD_T, itemsD_L, itemsD_T, asD_shr, asD_frs, asB_ok, okCall_t, noBrw_nil, noBrw_shr, noBrw_frs, tests_nil, tests_one, at0, at1, at2, lim_eq, List.set_cons_zero, List.set_cons_succ, List.getElem?_cons_zero, List.getElem?_cons_succ, List.length_cons, List.length_nil, List.map_cons, List.map_nil, Option.map_some, Option.map_none, if_true, if_false, ite_true, ite_false, reduceIte, reduceCtorEq, decide_true, decide_false, Nat.reduceAdd, Nat.reduceSub, Nat.reduceEqDiff, Int.reduceNeg, Int.reduceLT, Int.reduceLE, Bool.not_true, Bool.not_false, Nat.reduceLeDiff, and_self, true_and, and_true, numsD_i])).trans ?_
  refine (seq (st' := [some (false, numsD ns), some (false, .int b), some (false, .int v), some (true, .list (iD (ns.set b v)))]) (by simp only [runD, Dv.start, evSs_nil, evSs_cons, evS, evE, evL, evB, evAnd, evOr, evO, onOwn, guardO, setAll, thenS_nx, thenS_rt, thenS_ex, onV_ok, onV_ex, onB_ok, onB_ex, bindV_ok, bindV_ex, boolV_ok, bindA_ok, consA_ok, optI_none, optI_some, outcome_nx, outcome_shr, outcome_frs, outcome_ex, setV_shr, setV_frs, binD_add, binD_addT, binD_addL, binD_sub, binD_mulr, binD_mull, binD_fdiv', binD_mod', cmpD_lt, cmpD_le, cmpD_gt, cmpD_ge, cmpD_eqi, cmpD_nei, cmpD_is, cmpD_isn, cmpD_memL, cmpD_nmemL, cmpD_memT, cmpD_nmemT, isN_none, isN_int, isN_tup, isN_lst, isN_bool, isN_str, flat_int, flat_str, flat_none, flat_bool, fnD_lenL, fnD_lenT, fnD_lenS, fnD_intB, fnD_str, fnD_tupL, fnD_tupT, fnD_lstL, fnD_lstT, fnD_all, idxD_L, idxD_T, idxD_S, slcD_L, slcD_T, itemsD_L, itemsD_T, asD_shr, asD_frs, asB_ok, okCall_t, noBrw_nil, noBrw_shr, noBrw_frs, tests_nil, tests_one, at0, at1, at2, lim_eq, List.set_cons_zero, List.set_cons_succ, List.getElem?_cons_zero, List.getElem?_cons_succ, List.length_cons, List.length_nil, List.map_cons, List.map_nil, Option.map_some, Option.map_none, if_true, if_false, ite_true, ite_false, reduceIte, reduceCtorEq, decide_true, decide_false, Nat.reduceAdd, Nat.reduceSub, Nat.reduceEqDiff, Int.reduceNeg, Int.reduceLT, Int.reduceLE, Bool.not_true, Bool.not_false, Nat.reduceLeDiff, and_self, true_and, and_true, ix, e])).trans ?_
  exact (seq_rt (by simp only [runD, Dv.start, evSs_nil, evSs_cons, evS, evE, evL, evB, evAnd, evOr, evO, onOwn, guardO, setAll, thenS_nx, thenS_rt, thenS_ex, onV_ok, onV_ex, onB_ok, onB_ex, bindV_ok, bindV_ex, boolV_ok, bindA_ok, consA_ok, optI_none, optI_some, outcome_nx, outcome_shr, outcome_frs, outcome_ex, setV_shr, setV_frs, binD_add, binD_addT, binD_addL, binD_sub, binD_mulr, binD_mull, binD_fdiv', binD_mod', cmpD_lt, cmpD_le, cmpD_gt, cmpD_ge, cmpD_eqi, cmpD_nei, cmpD_is, cmpD_isn, cmpD_memL, cmpD_nmemL, cmpD_memT, cmpD_nmemT, isN_none, isN_int, isN_tup, isN_lst, isN_bool, isN_str, flat_int, flat_str, flat_none, flat_bool, fnD_lenL, fnD_lenT, fnD_lenS, fnD_intB, fnD_str, fnD_tupL, fnD_tupT, fnD_lstL, fnD_lstT, fnD_all, idxD_L, idxD_T, idxD_S, slcD_L, slcD_T, itemsD_L, itemsD_T, asD_shr, asD_frs, asB_ok, okCall_t, noBrw_nil, noBrw_shr, noBrw_frs, tests_nil, tests_one, at0, at1, at2, lim_eq, List.set_cons_zero, List.set_cons_succ, List.getElem?_cons_zero, List.getElem?_cons_succ, List.length_cons, List.length_nil, List.map_cons, List.map_nil, Option.map_some, Option.map_none, if_true, if_false, ite_true, ite_false, reduceIte, reduceCtorEq, decide_true, decide_false, Nat.reduceAdd, Nat.reduceSub, Nat.reduceEqDiff, Int.reduceNeg, Int.reduceLT, Int.reduceLE, Bool.not_true, Bool.not_false, Nat.reduceLeDiff, and_self, true_and, and_true]; try rfl)).trans rfl
end Law
namespace Law
open PySem Dv
theorem law_step_is {fu n : Nat} {p : Prog} (hp : p.Ok) {s : Nat × List Nat} (hs : StateOk p s) : run tab fu (n + 2) "_law_step" [p.d, stD s] = some (.ok .shr (pairD (stepV p s))) := by
  have ea := row_at hs.1
  have hr := hp.row _ (row_mem hs.1)
  obtain ⟨i, ns⟩ := s
  have hn' : ns.length = p.boxes := hs.2.1
  have hmost := hs.2.2
  rw [run_law_step]
  refine runD_rt rfl ?_
  unfold d_law_step
  rw [show Dv.start _ _ = [some (false, p.d), some (false, stD (i, ns)), none, none, none, none] from rfl]
  have hv : stepV p (i, ns) = stepR p (i, ns) (p.rows.getD i .stop) := rfl
  rw [hv]
  generalize p.rows.getD i .stop = r at hr ea
  have pn : ∀ {b v : Nat}, b < ns.length → run tab fu (n + 1) "_law_put" [.tuple (iD ns), .int b, .int v] = some (.ok .shr (.tuple (iD (ns.set b v)))) := fun {b v} hb => law_put_ok (fu := fu) (n := n) hb
  refine (seq (st' := [some (false, p.d), some (false, stD (i, ns)), some (false, .int i), none, none, none]) (by simp only [runD, Dv.start, evSs_nil, evSs_cons, evS, evE, evL, evB, evAnd, evOr, evO, onOwn, guardO, setAll, thenS_nx, thenS_rt, thenS_ex, onV_ok, onV_ex, onB_ok, onB_ex, bindV_ok, bindV_ex, boolV_ok, bindA_ok, consA_ok, optI_none, optI_some, outcome_nx, outcome_shr, outcome_frs, outcome_ex, setV_shr, setV_frs, binD_add, binD_addT, binD_addL, binD_sub, binD_mulr, binD_mull, binD_fdiv', binD_mod', cmpD_lt, cmpD_le, cmpD_gt, cmpD_ge, cmpD_eqi, cmpD_nei, cmpD_is, cmpD_isn, cmpD_memL, cmpD_nmemL, cmpD_memT, cmpD_nmemT, isN_none, isN_int, isN_tup, isN_lst, isN_bool, isN_str, flat_int, flat_str, flat_none, flat_bool, fnD_lenL, fnD_lenT, fnD_lenS, fnD_intB, fnD_str, fnD_tupL, fnD_tupT, fnD_lstL, fnD_lstT, fnD_all, idxD_L, idxD_T, idxD_S, slcD_L, slcD_T, itemsD_L, itemsD_T, asD_shr, asD_frs, asB_ok, okCall_t, noBrw_nil, noBrw_shr, noBrw_frs, tests_nil, tests_one, at0, at1, at2, lim_eq, List.set_cons_zero, List.set_cons_succ, List.getElem?_cons_zero, List.getElem?_cons_succ, List.length_cons, List.length_nil, List.map_cons, List.map_nil, Option.map_some, Option.map_none, if_true, if_false, ite_true, ite_false, reduceIte, reduceCtorEq, decide_true, decide_false, Nat.reduceAdd, Nat.reduceSub, Nat.reduceEqDiff, Int.reduceNeg, Int.reduceLT, Int.reduceLE, Bool.not_true, Bool.not_false, Nat.reduceLeDiff, and_self, true_and, and_true, stD])).trans ?_
  refine (seq (st' := [some (false, p.d), some (false, stD (i, ns)), some (false, .int i), some (false, .tuple (iD ns)), none, none]) (by simp only [runD, Dv.start, evSs_nil, evSs_cons, evS, evE, evL, evB, evAnd, evOr, evO, onOwn, guardO, setAll, thenS_nx, thenS_rt, thenS_ex, onV_ok, onV_ex, onB_ok, onB_ex, bindV_ok, bindV_ex, boolV_ok, bindA_ok, consA_ok, optI_none, optI_some, outcome_nx, outcome_shr, outcome_frs, outcome_ex, setV_shr, setV_frs, binD_add, binD_addT, binD_addL, binD_sub, binD_mulr, binD_mull, binD_fdiv', binD_mod', cmpD_lt, cmpD_le, cmpD_gt, cmpD_ge, cmpD_eqi, cmpD_nei, cmpD_is, cmpD_isn, cmpD_memL, cmpD_nmemL, cmpD_memT, cmpD_nmemT, isN_none, isN_int, isN_tup, isN_lst, isN_bool, isN_str, flat_int, flat_str, flat_none, flat_bool, fnD_lenL, fnD_lenT, fnD_lenS, fnD_intB, fnD_str, fnD_tupL, fnD_tupT, fnD_lstL, fnD_lstT, fnD_all, idxD_L, idxD_T, idxD_S, slcD_L, slcD_T, itemsD_L, itemsD_T, asD_shr, asD_frs, asB_ok, okCall_t, noBrw_nil, noBrw_shr, noBrw_frs, tests_nil, tests_one, at0, at1, at2, lim_eq, List.set_cons_zero, List.set_cons_succ, List.getElem?_cons_zero, List.getElem?_cons_succ, List.length_cons, List.length_nil, List.map_cons, List.map_nil, Option.map_some, Option.map_none, if_true, if_false, ite_true, ite_false, reduceIte, reduceCtorEq, decide_true, decide_false, Nat.reduceAdd, Nat.reduceSub, Nat.reduceEqDiff, Int.reduceNeg, Int.reduceLT, Int.reduceLE, Bool.not_true, Bool.not_false, Nat.reduceLeDiff, and_self, true_and, and_true, stD, numsD_i])).trans ?_
  refine (seq (st' := [some (false, p.d), some (false, stD (i, ns)), some (false, .int i), some (false, .tuple (iD ns)), some (false, r.d), none]) (by simp only [runD, Dv.start, evSs_nil, evSs_cons, evS, evE, evL, evB, evAnd, evOr, evO, onOwn, guardO, setAll, thenS_nx, thenS_rt, thenS_ex, onV_ok, onV_ex, onB_ok, onB_ex, bindV_ok, bindV_ex, boolV_ok, bindA_ok, consA_ok, optI_none, optI_some, outcome_nx, outcome_shr, outcome_frs, outcome_ex, setV_shr, setV_frs, binD_add, binD_addT, binD_addL, binD_sub, binD_mulr, binD_mull, binD_fdiv', binD_mod', cmpD_lt, cmpD_le, cmpD_gt, cmpD_ge, cmpD_eqi, cmpD_nei, cmpD_is, cmpD_isn, cmpD_memL, cmpD_nmemL, cmpD_memT, cmpD_nmemT, isN_none, isN_int, isN_tup, isN_lst, isN_bool, isN_str, flat_int, flat_str, flat_none, flat_bool, fnD_lenL, fnD_lenT, fnD_lenS, fnD_intB, fnD_str, fnD_tupL, fnD_tupT, fnD_lstL, fnD_lstT, fnD_all, idxD_L, idxD_T, idxD_S, slcD_L, slcD_T, itemsD_L, itemsD_T, asD_shr, asD_frs, asB_ok, okCall_t, noBrw_nil, noBrw_shr, noBrw_frs, tests_nil, tests_one, at0, at1, at2, lim_eq, List.set_cons_zero, List.set_cons_succ, List.getElem?_cons_zero, List.getElem?_cons_succ, List.length_cons, List.length_nil, List.map_cons, List.map_nil, Option.map_some, Option.map_none, if_true, if_false, ite_true, ite_false, reduceIte, reduceCtorEq, decide_true, decide_false, Nat.reduceAdd, Nat.reduceSub, Nat.reduceEqDiff, Int.reduceNeg, Int.reduceLT, Int.reduceLE, Bool.not_true, Bool.not_false, Nat.reduceLeDiff, and_self, true_and, and_true, Prog.d, ea])).trans ?_
  cases r with
  | stop => exact (seq_rt (by simp only [runD, Dv.start, evSs_nil, evSs_cons, evS, evE, evL, evB, evAnd, evOr, evO, onOwn, guardO, setAll, thenS_nx, thenS_rt, thenS_ex, onV_ok, onV_ex, onB_ok, onB_ex, bindV_ok, bindV_ex, boolV_ok, bindA_ok, consA_ok, optI_none, optI_some, outcome_nx, outcome_shr, outcome_frs, outcome_ex, setV_shr, setV_frs, binD_add, binD_addT, binD_addL, binD_sub, binD_mulr, binD_mull, binD_fdiv', binD_mod', cmpD_lt, cmpD_le, cmpD_gt, cmpD_ge, cmpD_eqi, cmpD_nei, cmpD_is, cmpD_isn, cmpD_memL, cmpD_nmemL, cmpD_memT, cmpD_nmemT, isN_none, isN_int, isN_tup, isN_lst, isN_bool, isN_str, flat_int, flat_str, flat_none, flat_bool, fnD_lenL, fnD_lenT, fnD_lenS, fnD_intB, fnD_str, fnD_tupL, fnD_tupT, fnD_lstL, fnD_lstT, fnD_all, idxD_L, idxD_T, idxD_S, slcD_L, slcD_T, itemsD_L, itemsD_T, asD_shr, asD_frs, asB_ok, okCall_t, noBrw_nil, noBrw_shr, noBrw_frs, tests_nil, tests_one, at0, at1, at2, lim_eq, List.set_cons_zero, List.set_cons_succ, List.getElem?_cons_zero, List.getElem?_cons_succ, List.length_cons, List.length_nil, List.map_cons, List.map_nil, Option.map_some, Option.map_none, if_true, if_false, ite_true, ite_false, reduceIte, reduceCtorEq, decide_true, decide_false, Nat.reduceAdd, Nat.reduceSub, Nat.reduceEqDiff, Int.reduceNeg, Int.reduceLT, Int.reduceLE, Bool.not_true, Bool.not_false, Nat.reduceLeDiff, and_self, true_and, and_true, Row.d, w_put_put, w_put_more, w_put_copy, w_put_tell, w_put_go, w_put_ask, w_put_stop, w_put_is, w_put_by, w_more_put, w_more_more, w_more_copy, w_more_tell, w_more_go, w_more_ask, w_more_stop, w_more_is, w_more_by, w_copy_put, w_copy_more, w_copy_copy, w_copy_tell, w_copy_go, w_copy_ask, w_copy_stop, w_copy_is, w_copy_by, w_tell_put, w_tell_more, w_tell_copy, w_tell_tell, w_tell_go, w_tell_ask, w_tell_stop, w_tell_is, w_tell_by, w_go_put, w_go_more, w_go_copy, w_go_tell, w_go_go, w_go_ask, w_go_stop, w_go_is, w_go_by, w_ask_put, w_ask_more, w_ask_copy, w_ask_tell, w_ask_go, w_ask_ask, w_ask_stop, w_ask_is, w_ask_by, w_stop_put, w_stop_more, w_stop_copy, w_stop_tell, w_stop_go, w_stop_ask, w_stop_stop, w_stop_is, w_stop_by, w_is_put, w_is_more, w_is_copy, w_is_tell, w_is_go, w_is_ask, w_is_stop, w_is_is, w_is_by, w_by_put, w_by_more, w_by_copy, w_by_tell, w_by_go, w_by_ask, w_by_stop, w_by_is, w_by_by, Nat.reduceLeDiff]; rfl)).trans rfl
  | tell b =>
    have hb : b < ns.length := by rw [hn']; exact hr
    have eb := iD_at hb
    refine (seq (st' := [some (false, p.d), some (false, stD (i, ns)), some (false, .int i), some (false, .tuple (iD ns)), some (false, (Row.tell b).d), none]) (by simp only [runD, Dv.start, evSs_nil, evSs_cons, evS, evE, evL, evB, evAnd, evOr, evO, onOwn, guardO, setAll, thenS_nx, thenS_rt, thenS_ex, onV_ok, onV_ex, onB_ok, onB_ex, bindV_ok, bindV_ex, boolV_ok, bindA_ok, consA_ok, optI_none, optI_some, outcome_nx, outcome_shr, outcome_frs, outcome_ex, setV_shr, setV_frs, binD_add, binD_addT, binD_addL, binD_sub, binD_mulr, binD_mull, binD_fdiv', binD_mod', cmpD_lt, cmpD_le, cmpD_gt, cmpD_ge, cmpD_eqi, cmpD_nei, cmpD_is, cmpD_isn, cmpD_memL, cmpD_nmemL, cmpD_memT, cmpD_nmemT, isN_none, isN_int, isN_tup, isN_lst, isN_bool, isN_str, flat_int, flat_str, flat_none, flat_bool, fnD_lenL, fnD_lenT, fnD_lenS, fnD_intB, fnD_str, fnD_tupL, fnD_tupT, fnD_lstL, fnD_lstT, fnD_all, idxD_L, idxD_T, idxD_S, slcD_L, slcD_T, itemsD_L, itemsD_T, asD_shr, asD_frs, asB_ok, okCall_t, noBrw_nil, noBrw_shr, noBrw_frs, tests_nil, tests_one, at0, at1, at2, lim_eq, List.set_cons_zero, List.set_cons_succ, List.getElem?_cons_zero, List.getElem?_cons_succ, List.length_cons, List.length_nil, List.map_cons, List.map_nil, Option.map_some, Option.map_none, if_true, if_false, ite_true, ite_false, reduceIte, reduceCtorEq, decide_true, decide_false, Nat.reduceAdd, Nat.reduceSub, Nat.reduceEqDiff, Int.reduceNeg, Int.reduceLT, Int.reduceLE, Bool.not_true, Bool.not_false, Nat.reduceLeDiff, and_self, true_and, and_true, Row.d, w_put_put, w_put_more, w_put_copy, w_put_tell, w_put_go, w_put_ask, w_put_stop, w_put_is, w_put_by, w_more_put, w_more_more, w_more_copy, w_more_tell, w_more_go, w_more_ask, w_more_stop, w_more_is, w_more_by, w_copy_put, w_copy_more, w_copy_copy, w_copy_tell, w_copy_go, w_copy_ask, w_copy_stop, w_copy_is, w_copy_by, w_tell_put, w_tell_more, w_tell_copy, w_tell_tell, w_tell_go, w_tell_ask, w_tell_stop, w_tell_is, w_tell_by, w_go_put, w_go_more, w_go_copy, w_go_tell, w_go_go, w_go_ask, w_go_stop, w_go_is, w_go_by, w_ask_put, w_ask_more, w_ask_copy, w_ask_tell, w_ask_go, w_ask_ask, w_ask_stop, w_ask_is, w_ask_by, w_stop_put, w_stop_more, w_stop_copy, w_stop_tell, w_stop_go, w_stop_ask, w_stop_stop, w_stop_is, w_stop_by, w_is_put, w_is_more, w_is_copy, w_is_tell, w_is_go, w_is_ask, w_is_stop, w_is_is, w_is_by, w_by_put, w_by_more, w_by_copy, w_by_tell, w_by_go, w_by_ask, w_by_stop, w_by_is, w_by_by, Bool.false_eq_true])).trans ?_
    exact (seq_rt (by simp only [runD, Dv.start, evSs_nil, evSs_cons, evS, evE, evL, evB, evAnd, evOr, evO, onOwn, guardO, setAll, thenS_nx, thenS_rt, thenS_ex, onV_ok, onV_ex, onB_ok, onB_ex, bindV_ok, bindV_ex, boolV_ok, bindA_ok, consA_ok, optI_none, optI_some, outcome_nx, outcome_shr, outcome_frs, outcome_ex, setV_shr, setV_frs, binD_add, binD_addT, binD_addL, binD_sub, binD_mulr, binD_mull, binD_fdiv', binD_mod', cmpD_lt, cmpD_le, cmpD_gt, cmpD_ge, cmpD_eqi, cmpD_nei, cmpD_is, cmpD_isn, cmpD_memL, cmpD_nmemL, cmpD_memT, cmpD_nmemT, isN_none, isN_int, isN_tup, isN_lst, isN_bool, isN_str, flat_int, flat_str, flat_none, flat_bool, fnD_lenL, fnD_lenT, fnD_lenS, fnD_intB, fnD_str, fnD_tupL, fnD_tupT, fnD_lstL, fnD_lstT, fnD_all, idxD_L, idxD_T, idxD_S, slcD_L, slcD_T, itemsD_L, itemsD_T, asD_shr, asD_frs, asB_ok, okCall_t, noBrw_nil, noBrw_shr, noBrw_frs, tests_nil, tests_one, at0, at1, at2, lim_eq, List.set_cons_zero, List.set_cons_succ, List.getElem?_cons_zero, List.getElem?_cons_succ, List.length_cons, List.length_nil, List.map_cons, List.map_nil, Option.map_some, Option.map_none, if_true, if_false, ite_true, ite_false, reduceIte, reduceCtorEq, decide_true, decide_false, Nat.reduceAdd, Nat.reduceSub, Nat.reduceEqDiff, Int.reduceNeg, Int.reduceLT, Int.reduceLE, Bool.not_true, Bool.not_false, Nat.reduceLeDiff, and_self, true_and, and_true, Row.d, w_put_put, w_put_more, w_put_copy, w_put_tell, w_put_go, w_put_ask, w_put_stop, w_put_is, w_put_by, w_more_put, w_more_more, w_more_copy, w_more_tell, w_more_go, w_more_ask, w_more_stop, w_more_is, w_more_by, w_copy_put, w_copy_more, w_copy_copy, w_copy_tell, w_copy_go, w_copy_ask, w_copy_stop, w_copy_is, w_copy_by, w_tell_put, w_tell_more, w_tell_copy, w_tell_tell, w_tell_go, w_tell_ask, w_tell_stop, w_tell_is, w_tell_by, w_go_put, w_go_more, w_go_copy, w_go_tell, w_go_go, w_go_ask, w_go_stop, w_go_is, w_go_by, w_ask_put, w_ask_more, w_ask_copy, w_ask_tell, w_ask_go, w_ask_ask, w_ask_stop, w_ask_is, w_ask_by, w_stop_put, w_stop_more, w_stop_copy, w_stop_tell, w_stop_go, w_stop_ask, w_stop_stop, w_stop_is, w_stop_by, w_is_put, w_is_more, w_is_copy, w_is_tell, w_is_go, w_is_ask, w_is_stop, w_is_is, w_is_by, w_by_put, w_by_more, w_by_copy, w_by_tell, w_by_go, w_by_ask, w_by_stop, w_by_is, w_by_by, eb, Nat.reduceLeDiff]; rfl)).trans rfl
  | go x =>
    have el : L2.atI [PyData.str "go", .int (x : Int)] (-1) = some (.int x) := rfl
    iterate 2 refine (seq (st' := [some (false, p.d), some (false, stD (i, ns)), some (false, .int i), some (false, .tuple (iD ns)), some (false, (Row.go x).d), none]) (by simp only [runD, Dv.start, evSs_nil, evSs_cons, evS, evE, evL, evB, evAnd, evOr, evO, onOwn, guardO, setAll, thenS_nx, thenS_rt, thenS_ex, onV_ok, onV_ex, onB_ok, onB_ex, bindV_ok, bindV_ex, boolV_ok, bindA_ok, consA_ok, optI_none, optI_some, outcome_nx, outcome_shr, outcome_frs, outcome_ex, setV_shr, setV_frs, binD_add, binD_addT, binD_addL, binD_sub, binD_mulr, binD_mull, binD_fdiv', binD_mod', cmpD_lt, cmpD_le, cmpD_gt, cmpD_ge, cmpD_eqi, cmpD_nei, cmpD_is, cmpD_isn, cmpD_memL, cmpD_nmemL, cmpD_memT, cmpD_nmemT, isN_none, isN_int, isN_tup, isN_lst, isN_bool, isN_str, flat_int, flat_str, flat_none, flat_bool, fnD_lenL, fnD_lenT, fnD_lenS, fnD_intB, fnD_str, fnD_tupL, fnD_tupT, fnD_lstL, fnD_lstT, fnD_all, idxD_L, idxD_T, idxD_S, slcD_L, slcD_T, itemsD_L, itemsD_T, asD_shr, asD_frs, asB_ok, okCall_t, noBrw_nil, noBrw_shr, noBrw_frs, tests_nil, tests_one, at0, at1, at2, lim_eq, List.set_cons_zero, List.set_cons_succ, List.getElem?_cons_zero, List.getElem?_cons_succ, List.length_cons, List.length_nil, List.map_cons, List.map_nil, Option.map_some, Option.map_none, if_true, if_false, ite_true, ite_false, reduceIte, reduceCtorEq, decide_true, decide_false, Nat.reduceAdd, Nat.reduceSub, Nat.reduceEqDiff, Int.reduceNeg, Int.reduceLT, Int.reduceLE, Bool.not_true, Bool.not_false, Nat.reduceLeDiff, and_self, true_and, and_true, Row.d, w_put_put, w_put_more, w_put_copy, w_put_tell, w_put_go, w_put_ask, w_put_stop, w_put_is, w_put_by, w_more_put, w_more_more, w_more_copy, w_more_tell, w_more_go, w_more_ask, w_more_stop, w_more_is, w_more_by, w_copy_put, w_copy_more, w_copy_copy, w_copy_tell, w_copy_go, w_copy_ask, w_copy_stop, w_copy_is, w_copy_by, w_tell_put, w_tell_more, w_tell_copy, w_tell_tell, w_tell_go, w_tell_ask, w_tell_stop, w_tell_is, w_tell_by, w_go_put, w_go_more, w_go_copy, w_go_tell, w_go_go, w_go_ask, w_go_stop, w_go_is, w_go_by, w_ask_put, w_ask_more, w_ask_copy, w_ask_tell, w_ask_go, w_ask_ask, w_ask_stop, w_ask_is, w_ask_by, w_stop_put, w_stop_more, w_stop_copy, w_stop_tell, w_stop_go, w_stop_ask, w_stop_stop, w_stop_is, w_stop_by, w_is_put, w_is_more, w_is_copy, w_is_tell, w_is_go, w_is_ask, w_is_stop, w_is_is, w_is_by, w_by_put, w_by_more, w_by_copy, w_by_tell, w_by_go, w_by_ask, w_by_stop, w_by_is, w_by_by, Bool.false_eq_true])).trans ?_
    exact (seq_rt (by simp only [runD, Dv.start, evSs_nil, evSs_cons, evS, evE, evL, evB, evAnd, evOr, evO, onOwn, guardO, setAll, thenS_nx, thenS_rt, thenS_ex, onV_ok, onV_ex, onB_ok, onB_ex, bindV_ok, bindV_ex, boolV_ok, bindA_ok, consA_ok, optI_none, optI_some, outcome_nx, outcome_shr, outcome_frs, outcome_ex, setV_shr, setV_frs, binD_add, binD_addT, binD_addL, binD_sub, binD_mulr, binD_mull, binD_fdiv', binD_mod', cmpD_lt, cmpD_le, cmpD_gt, cmpD_ge, cmpD_eqi, cmpD_nei, cmpD_is, cmpD_isn, cmpD_memL, cmpD_nmemL, cmpD_memT, cmpD_nmemT, isN_none, isN_int, isN_tup, isN_lst, isN_bool, isN_str, flat_int, flat_str, flat_none, flat_bool, fnD_lenL, fnD_lenT, fnD_lenS, fnD_intB, fnD_str, fnD_tupL, fnD_tupT, fnD_lstL, fnD_lstT, fnD_all, idxD_L, idxD_T, idxD_S, slcD_L, slcD_T, itemsD_L, itemsD_T, asD_shr, asD_frs, asB_ok, okCall_t, noBrw_nil, noBrw_shr, noBrw_frs, tests_nil, tests_one, at0, at1, at2, lim_eq, List.set_cons_zero, List.set_cons_succ, List.getElem?_cons_zero, List.getElem?_cons_succ, List.length_cons, List.length_nil, List.map_cons, List.map_nil, Option.map_some, Option.map_none, if_true, if_false, ite_true, ite_false, reduceIte, reduceCtorEq, decide_true, decide_false, Nat.reduceAdd, Nat.reduceSub, Nat.reduceEqDiff, Int.reduceNeg, Int.reduceLT, Int.reduceLE, Bool.not_true, Bool.not_false, Nat.reduceLeDiff, and_self, true_and, and_true, Row.d, w_put_put, w_put_more, w_put_copy, w_put_tell, w_put_go, w_put_ask, w_put_stop, w_put_is, w_put_by, w_more_put, w_more_more, w_more_copy, w_more_tell, w_more_go, w_more_ask, w_more_stop, w_more_is, w_more_by, w_copy_put, w_copy_more, w_copy_copy, w_copy_tell, w_copy_go, w_copy_ask, w_copy_stop, w_copy_is, w_copy_by, w_tell_put, w_tell_more, w_tell_copy, w_tell_tell, w_tell_go, w_tell_ask, w_tell_stop, w_tell_is, w_tell_by, w_go_put, w_go_more, w_go_copy, w_go_tell, w_go_go, w_go_ask, w_go_stop, w_go_is, w_go_by, w_ask_put, w_ask_more, w_ask_copy, w_ask_tell, w_ask_go, w_ask_ask, w_ask_stop, w_ask_is, w_ask_by, w_stop_put, w_stop_more, w_stop_copy, w_stop_tell, w_stop_go, w_stop_ask, w_stop_stop, w_stop_is, w_stop_by, w_is_put, w_is_more, w_is_copy, w_is_tell, w_is_go, w_is_ask, w_is_stop, w_is_is, w_is_by, w_by_put, w_by_more, w_by_copy, w_by_tell, w_by_go, w_by_ask, w_by_stop, w_by_is, w_by_by, el, Nat.reduceLeDiff]; rfl)).trans rfl
  | ask b x =>
    have hb : b < ns.length := by rw [hn']; exact hr.1
    have eb := iD_at hb
    have el : L2.atI [PyData.str "ask", .int (b : Int), .int (x : Int)] (-1) = some (.int x) := rfl
    iterate 2 refine (seq (st' := [some (false, p.d), some (false, stD (i, ns)), some (false, .int i), some (false, .tuple (iD ns)), some (false, (Row.ask b x).d), none]) (by simp only [runD, Dv.start, evSs_nil, evSs_cons, evS, evE, evL, evB, evAnd, evOr, evO, onOwn, guardO, setAll, thenS_nx, thenS_rt, thenS_ex, onV_ok, onV_ex, onB_ok, onB_ex, bindV_ok, bindV_ex, boolV_ok, bindA_ok, consA_ok, optI_none, optI_some, outcome_nx, outcome_shr, outcome_frs, outcome_ex, setV_shr, setV_frs, binD_add, binD_addT, binD_addL, binD_sub, binD_mulr, binD_mull, binD_fdiv', binD_mod', cmpD_lt, cmpD_le, cmpD_gt, cmpD_ge, cmpD_eqi, cmpD_nei, cmpD_is, cmpD_isn, cmpD_memL, cmpD_nmemL, cmpD_memT, cmpD_nmemT, isN_none, isN_int, isN_tup, isN_lst, isN_bool, isN_str, flat_int, flat_str, flat_none, flat_bool, fnD_lenL, fnD_lenT, fnD_lenS, fnD_intB, fnD_str, fnD_tupL, fnD_tupT, fnD_lstL, fnD_lstT, fnD_all, idxD_L, idxD_T, idxD_S, slcD_L, slcD_T, itemsD_L, itemsD_T, asD_shr, asD_frs, asB_ok, okCall_t, noBrw_nil, noBrw_shr, noBrw_frs, tests_nil, tests_one, at0, at1, at2, lim_eq, List.set_cons_zero, List.set_cons_succ, List.getElem?_cons_zero, List.getElem?_cons_succ, List.length_cons, List.length_nil, List.map_cons, List.map_nil, Option.map_some, Option.map_none, if_true, if_false, ite_true, ite_false, reduceIte, reduceCtorEq, decide_true, decide_false, Nat.reduceAdd, Nat.reduceSub, Nat.reduceEqDiff, Int.reduceNeg, Int.reduceLT, Int.reduceLE, Bool.not_true, Bool.not_false, Nat.reduceLeDiff, and_self, true_and, and_true, Row.d, w_put_put, w_put_more, w_put_copy, w_put_tell, w_put_go, w_put_ask, w_put_stop, w_put_is, w_put_by, w_more_put, w_more_more, w_more_copy, w_more_tell, w_more_go, w_more_ask, w_more_stop, w_more_is, w_more_by, w_copy_put, w_copy_more, w_copy_copy, w_copy_tell, w_copy_go, w_copy_ask, w_copy_stop, w_copy_is, w_copy_by, w_tell_put, w_tell_more, w_tell_copy, w_tell_tell, w_tell_go, w_tell_ask, w_tell_stop, w_tell_is, w_tell_by, w_go_put, w_go_more, w_go_copy, w_go_tell, w_go_go, w_go_ask, w_go_stop, w_go_is, w_go_by, w_ask_put, w_ask_more, w_ask_copy, w_ask_tell, w_ask_go, w_ask_ask, w_ask_stop, w_ask_is, w_ask_by, w_stop_put, w_stop_more, w_stop_copy, w_stop_tell, w_stop_go, w_stop_ask, w_stop_stop, w_stop_is, w_stop_by, w_is_put, w_is_more, w_is_copy, w_is_tell, w_is_go, w_is_ask, w_is_stop, w_is_is, w_is_by, w_by_put, w_by_more, w_by_copy, w_by_tell, w_by_go, w_by_ask, w_by_stop, w_by_is, w_by_by, Bool.false_eq_true])).trans ?_
    by_cases hz : ns.getD b 0 = 0
    · have hz' : (((ns.getD b 0 : Nat) : Int) == 0) = true := by rw [hz]; rfl
      refine (seq_rt (d := pairD (some (x, ns), none)) (by simp only [runD, Dv.start, evSs_nil, evSs_cons, evS, evE, evL, evB, evAnd, evOr, evO, onOwn, guardO, setAll, thenS_nx, thenS_rt, thenS_ex, onV_ok, onV_ex, onB_ok, onB_ex, bindV_ok, bindV_ex, boolV_ok, bindA_ok, consA_ok, optI_none, optI_some, outcome_nx, outcome_shr, outcome_frs, outcome_ex, setV_shr, setV_frs, binD_add, binD_addT, binD_addL, binD_sub, binD_mulr, binD_mull, binD_fdiv', binD_mod', cmpD_lt, cmpD_le, cmpD_gt, cmpD_ge, cmpD_eqi, cmpD_nei, cmpD_is, cmpD_isn, cmpD_memL, cmpD_nmemL, cmpD_memT, cmpD_nmemT, isN_none, isN_int, isN_tup, isN_lst, isN_bool, isN_str, flat_int, flat_str, flat_none, flat_bool, fnD_lenL, fnD_lenT, fnD_lenS, fnD_intB, fnD_str, fnD_tupL, fnD_tupT, fnD_lstL, fnD_lstT, fnD_all, idxD_L, idxD_T, idxD_S, slcD_L, slcD_T, itemsD_L, itemsD_T, asD_shr, asD_frs, asB_ok, okCall_t, noBrw_nil, noBrw_shr, noBrw_frs, tests_nil, tests_one, at0, at1, at2, lim_eq, List.set_cons_zero, List.set_cons_succ, List.getElem?_cons_zero, List.getElem?_cons_succ, List.length_cons, List.length_nil, List.map_cons, List.map_nil, Option.map_some, Option.map_none, if_true, if_false, ite_true, ite_false, reduceIte, reduceCtorEq, decide_true, decide_false, Nat.reduceAdd, Nat.reduceSub, Nat.reduceEqDiff, Int.reduceNeg, Int.reduceLT, Int.reduceLE, Bool.not_true, Bool.not_false, Nat.reduceLeDiff, and_self, true_and, and_true, Row.d, w_put_put, w_put_more, w_put_copy, w_put_tell, w_put_go, w_put_ask, w_put_stop, w_put_is, w_put_by, w_more_put, w_more_more, w_more_copy, w_more_tell, w_more_go, w_more_ask, w_more_stop, w_more_is, w_more_by, w_copy_put, w_copy_more, w_copy_copy, w_copy_tell, w_copy_go, w_copy_ask, w_copy_stop, w_copy_is, w_copy_by, w_tell_put, w_tell_more, w_tell_copy, w_tell_tell, w_tell_go, w_tell_ask, w_tell_stop, w_tell_is, w_tell_by, w_go_put, w_go_more, w_go_copy, w_go_tell, w_go_go, w_go_ask, w_go_stop, w_go_is, w_go_by, w_ask_put, w_ask_more, w_ask_copy, w_ask_tell, w_ask_go, w_ask_ask, w_ask_stop, w_ask_is, w_ask_by, w_stop_put, w_stop_more, w_stop_copy, w_stop_tell, w_stop_go, w_stop_ask, w_stop_stop, w_stop_is, w_stop_by, w_is_put, w_is_more, w_is_copy, w_is_tell, w_is_go, w_is_ask, w_is_stop, w_is_is, w_is_by, w_by_put, w_by_more, w_by_copy, w_by_tell, w_by_go, w_by_ask, w_by_stop, w_by_is, w_by_by, eb, hz', el, Nat.reduceLeDiff, Bool.false_eq_true]; rfl)).trans ?_
      show _ = some (SO.rt .shr (pairD (some (if ns.getD b 0 = 0 then x else i + 1, ns), none)))
      rw [if_pos hz]
    · have hz' : (((ns.getD b 0 : Nat) : Int) == 0) = false := by rw [beq_eq_false_iff_ne]; omega
      iterate 4 refine (seq (st' := [some (false, p.d), some (false, stD (i, ns)), some (false, .int i), some (false, .tuple (iD ns)), some (false, (Row.ask b x).d), none]) (by simp only [runD, Dv.start, evSs_nil, evSs_cons, evS, evE, evL, evB, evAnd, evOr, evO, onOwn, guardO, setAll, thenS_nx, thenS_rt, thenS_ex, onV_ok, onV_ex, onB_ok, onB_ex, bindV_ok, bindV_ex, boolV_ok, bindA_ok, consA_ok, optI_none, optI_some, outcome_nx, outcome_shr, outcome_frs, outcome_ex, setV_shr, setV_frs, binD_add, binD_addT, binD_addL, binD_sub, binD_mulr, binD_mull, binD_fdiv', binD_mod', cmpD_lt, cmpD_le, cmpD_gt, cmpD_ge, cmpD_eqi, cmpD_nei, cmpD_is, cmpD_isn, cmpD_memL, cmpD_nmemL, cmpD_memT, cmpD_nmemT, isN_none, isN_int, isN_tup, isN_lst, isN_bool, isN_str, flat_int, flat_str, flat_none, flat_bool, fnD_lenL, fnD_lenT, fnD_lenS, fnD_intB, fnD_str, fnD_tupL, fnD_tupT, fnD_lstL, fnD_lstT, fnD_all, idxD_L, idxD_T, idxD_S, slcD_L, slcD_T, itemsD_L, itemsD_T, asD_shr, asD_frs, asB_ok, okCall_t, noBrw_nil, noBrw_shr, noBrw_frs, tests_nil, tests_one, at0, at1, at2, lim_eq, List.set_cons_zero, List.set_cons_succ, List.getElem?_cons_zero, List.getElem?_cons_succ, List.length_cons, List.length_nil, List.map_cons, List.map_nil, Option.map_some, Option.map_none, if_true, if_false, ite_true, ite_false, reduceIte, reduceCtorEq, decide_true, decide_false, Nat.reduceAdd, Nat.reduceSub, Nat.reduceEqDiff, Int.reduceNeg, Int.reduceLT, Int.reduceLE, Bool.not_true, Bool.not_false, Nat.reduceLeDiff, and_self, true_and, and_true, Row.d, w_put_put, w_put_more, w_put_copy, w_put_tell, w_put_go, w_put_ask, w_put_stop, w_put_is, w_put_by, w_more_put, w_more_more, w_more_copy, w_more_tell, w_more_go, w_more_ask, w_more_stop, w_more_is, w_more_by, w_copy_put, w_copy_more, w_copy_copy, w_copy_tell, w_copy_go, w_copy_ask, w_copy_stop, w_copy_is, w_copy_by, w_tell_put, w_tell_more, w_tell_copy, w_tell_tell, w_tell_go, w_tell_ask, w_tell_stop, w_tell_is, w_tell_by, w_go_put, w_go_more, w_go_copy, w_go_tell, w_go_go, w_go_ask, w_go_stop, w_go_is, w_go_by, w_ask_put, w_ask_more, w_ask_copy, w_ask_tell, w_ask_go, w_ask_ask, w_ask_stop, w_ask_is, w_ask_by, w_stop_put, w_stop_more, w_stop_copy, w_stop_tell, w_stop_go, w_stop_ask, w_stop_stop, w_stop_is, w_stop_by, w_is_put, w_is_more, w_is_copy, w_is_tell, w_is_go, w_is_ask, w_is_stop, w_is_is, w_is_by, w_by_put, w_by_more, w_by_copy, w_by_tell, w_by_go, w_by_ask, w_by_stop, w_by_is, w_by_by, eb, hz', Bool.false_eq_true])).trans ?_
      refine (seq_rt (d := pairD (some (i + 1, ns), none)) (by simp only [runD, Dv.start, evSs_nil, evSs_cons, evS, evE, evL, evB, evAnd, evOr, evO, onOwn, guardO, setAll, thenS_nx, thenS_rt, thenS_ex, onV_ok, onV_ex, onB_ok, onB_ex, bindV_ok, bindV_ex, boolV_ok, bindA_ok, consA_ok, optI_none, optI_some, outcome_nx, outcome_shr, outcome_frs, outcome_ex, setV_shr, setV_frs, binD_add, binD_addT, binD_addL, binD_sub, binD_mulr, binD_mull, binD_fdiv', binD_mod', cmpD_lt, cmpD_le, cmpD_gt, cmpD_ge, cmpD_eqi, cmpD_nei, cmpD_is, cmpD_isn, cmpD_memL, cmpD_nmemL, cmpD_memT, cmpD_nmemT, isN_none, isN_int, isN_tup, isN_lst, isN_bool, isN_str, flat_int, flat_str, flat_none, flat_bool, fnD_lenL, fnD_lenT, fnD_lenS, fnD_intB, fnD_str, fnD_tupL, fnD_tupT, fnD_lstL, fnD_lstT, fnD_all, idxD_L, idxD_T, idxD_S, slcD_L, slcD_T, itemsD_L, itemsD_T, asD_shr, asD_frs, asB_ok, okCall_t, noBrw_nil, noBrw_shr, noBrw_frs, tests_nil, tests_one, at0, at1, at2, lim_eq, List.set_cons_zero, List.set_cons_succ, List.getElem?_cons_zero, List.getElem?_cons_succ, List.length_cons, List.length_nil, List.map_cons, List.map_nil, Option.map_some, Option.map_none, if_true, if_false, ite_true, ite_false, reduceIte, reduceCtorEq, decide_true, decide_false, Nat.reduceAdd, Nat.reduceSub, Nat.reduceEqDiff, Int.reduceNeg, Int.reduceLT, Int.reduceLE, Bool.not_true, Bool.not_false, Nat.reduceLeDiff, and_self, true_and, and_true, Nat.reduceLeDiff]; rfl)).trans ?_
      show _ = some (SO.rt .shr (pairD (some (if ns.getD b 0 = 0 then x else i + 1, ns), none)))
      rw [if_neg hz]
  | put b v =>
    have hb : b < ns.length := by rw [hn']; exact hr.1
    have e := pn (v := v) hb
    iterate 3 refine (seq (st' := [some (false, p.d), some (false, stD (i, ns)), some (false, .int i), some (false, .tuple (iD ns)), some (false, (Row.put b v).d), none]) (by simp only [runD, Dv.start, evSs_nil, evSs_cons, evS, evE, evL, evB, evAnd, evOr, evO, onOwn, guardO, setAll, thenS_nx, thenS_rt, thenS_ex, onV_ok, onV_ex, onB_ok, onB_ex, bindV_ok, bindV_ex, boolV_ok, bindA_ok, consA_ok, optI_none, optI_some, outcome_nx, outcome_shr, outcome_frs, outcome_ex, setV_shr, setV_frs, binD_add, binD_addT, binD_addL, binD_sub, binD_mulr, binD_mull, binD_fdiv', binD_mod', cmpD_lt, cmpD_le, cmpD_gt, cmpD_ge, cmpD_eqi, cmpD_nei, cmpD_is, cmpD_isn, cmpD_memL, cmpD_nmemL, cmpD_memT, cmpD_nmemT, isN_none, isN_int, isN_tup, isN_lst, isN_bool, isN_str, flat_int, flat_str, flat_none, flat_bool, fnD_lenL, fnD_lenT, fnD_lenS, fnD_intB, fnD_str, fnD_tupL, fnD_tupT, fnD_lstL, fnD_lstT, fnD_all, idxD_L, idxD_T, idxD_S, slcD_L, slcD_T, itemsD_L, itemsD_T, asD_shr, asD_frs, asB_ok, okCall_t, noBrw_nil, noBrw_shr, noBrw_frs, tests_nil, tests_one, at0, at1, at2, lim_eq, List.set_cons_zero, List.set_cons_succ, List.getElem?_cons_zero, List.getElem?_cons_succ, List.length_cons, List.length_nil, List.map_cons, List.map_nil, Option.map_some, Option.map_none, if_true, if_false, ite_true, ite_false, reduceIte, reduceCtorEq, decide_true, decide_false, Nat.reduceAdd, Nat.reduceSub, Nat.reduceEqDiff, Int.reduceNeg, Int.reduceLT, Int.reduceLE, Bool.not_true, Bool.not_false, Nat.reduceLeDiff, and_self, true_and, and_true, Row.d, w_put_put, w_put_more, w_put_copy, w_put_tell, w_put_go, w_put_ask, w_put_stop, w_put_is, w_put_by, w_more_put, w_more_more, w_more_copy, w_more_tell, w_more_go, w_more_ask, w_more_stop, w_more_is, w_more_by, w_copy_put, w_copy_more, w_copy_copy, w_copy_tell, w_copy_go, w_copy_ask, w_copy_stop, w_copy_is, w_copy_by, w_tell_put, w_tell_more, w_tell_copy, w_tell_tell, w_tell_go, w_tell_ask, w_tell_stop, w_tell_is, w_tell_by, w_go_put, w_go_more, w_go_copy, w_go_tell, w_go_go, w_go_ask, w_go_stop, w_go_is, w_go_by, w_ask_put, w_ask_more, w_ask_copy, w_ask_tell, w_ask_go, w_ask_ask, w_ask_stop, w_ask_is, w_ask_by, w_stop_put, w_stop_more, w_stop_copy, w_stop_tell, w_stop_go, w_stop_ask, w_stop_stop, w_stop_is, w_stop_by, w_is_put, w_is_more, w_is_copy, w_is_tell, w_is_go, w_is_ask, w_is_stop, w_is_is, w_is_by, w_by_put, w_by_more, w_by_copy, w_by_tell, w_by_go, w_by_ask, w_by_stop, w_by_is, w_by_by, Bool.false_eq_true])).trans ?_
    iterate 3 refine (seq (st' := [some (false, p.d), some (false, stD (i, ns)), some (false, .int i), some (false, .tuple (iD (ns.set b v))), some (false, (Row.put b v).d), none]) (by simp only [runD, Dv.start, evSs_nil, evSs_cons, evS, evE, evL, evB, evAnd, evOr, evO, onOwn, guardO, setAll, thenS_nx, thenS_rt, thenS_ex, onV_ok, onV_ex, onB_ok, onB_ex, bindV_ok, bindV_ex, boolV_ok, bindA_ok, consA_ok, optI_none, optI_some, outcome_nx, outcome_shr, outcome_frs, outcome_ex, setV_shr, setV_frs, binD_add, binD_addT, binD_addL, binD_sub, binD_mulr, binD_mull, binD_fdiv', binD_mod', cmpD_lt, cmpD_le, cmpD_gt, cmpD_ge, cmpD_eqi, cmpD_nei, cmpD_is, cmpD_isn, cmpD_memL, cmpD_nmemL, cmpD_memT, cmpD_nmemT, isN_none, isN_int, isN_tup, isN_lst, isN_bool, isN_str, flat_int, flat_str, flat_none, flat_bool, fnD_lenL, fnD_lenT, fnD_lenS, fnD_intB, fnD_str, fnD_tupL, fnD_tupT, fnD_lstL, fnD_lstT, fnD_all, idxD_L, idxD_T, idxD_S, slcD_L, slcD_T, itemsD_L, itemsD_T, asD_shr, asD_frs, asB_ok, okCall_t, noBrw_nil, noBrw_shr, noBrw_frs, tests_nil, tests_one, at0, at1, at2, lim_eq, List.set_cons_zero, List.set_cons_succ, List.getElem?_cons_zero, List.getElem?_cons_succ, List.length_cons, List.length_nil, List.map_cons, List.map_nil, Option.map_some, Option.map_none, if_true, if_false, ite_true, ite_false, reduceIte, reduceCtorEq, decide_true, decide_false, Nat.reduceAdd, Nat.reduceSub, Nat.reduceEqDiff, Int.reduceNeg, Int.reduceLT, Int.reduceLE, Bool.not_true, Bool.not_false, Nat.reduceLeDiff, and_self, true_and, and_true, Row.d, w_put_put, w_put_more, w_put_copy, w_put_tell, w_put_go, w_put_ask, w_put_stop, w_put_is, w_put_by, w_more_put, w_more_more, w_more_copy, w_more_tell, w_more_go, w_more_ask, w_more_stop, w_more_is, w_more_by, w_copy_put, w_copy_more, w_copy_copy, w_copy_tell, w_copy_go, w_copy_ask, w_copy_stop, w_copy_is, w_copy_by, w_tell_put, w_tell_more, w_tell_copy, w_tell_tell, w_tell_go, w_tell_ask, w_tell_stop, w_tell_is, w_tell_by, w_go_put, w_go_more, w_go_copy, w_go_tell, w_go_go, w_go_ask, w_go_stop, w_go_is, w_go_by, w_ask_put, w_ask_more, w_ask_copy, w_ask_tell, w_ask_go, w_ask_ask, w_ask_stop, w_ask_is, w_ask_by, w_stop_put, w_stop_more, w_stop_copy, w_stop_tell, w_stop_go, w_stop_ask, w_stop_stop, w_stop_is, w_stop_by, w_is_put, w_is_more, w_is_copy, w_is_tell, w_is_go, w_is_ask, w_is_stop, w_is_is, w_is_by, w_by_put, w_by_more, w_by_copy, w_by_tell, w_by_go, w_by_ask, w_by_stop, w_by_is, w_by_by, e, Bool.false_eq_true])).trans ?_
    exact (seq_rt (by simp only [runD, Dv.start, evSs_nil, evSs_cons, evS, evE, evL, evB, evAnd, evOr, evO, onOwn, guardO, setAll, thenS_nx, thenS_rt, thenS_ex, onV_ok, onV_ex, onB_ok, onB_ex, bindV_ok, bindV_ex, boolV_ok, bindA_ok, consA_ok, optI_none, optI_some, outcome_nx, outcome_shr, outcome_frs, outcome_ex, setV_shr, setV_frs, binD_add, binD_addT, binD_addL, binD_sub, binD_mulr, binD_mull, binD_fdiv', binD_mod', cmpD_lt, cmpD_le, cmpD_gt, cmpD_ge, cmpD_eqi, cmpD_nei, cmpD_is, cmpD_isn, cmpD_memL, cmpD_nmemL, cmpD_memT, cmpD_nmemT, isN_none, isN_int, isN_tup, isN_lst, isN_bool, isN_str, flat_int, flat_str, flat_none, flat_bool, fnD_lenL, fnD_lenT, fnD_lenS, fnD_intB, fnD_str, fnD_tupL, fnD_tupT, fnD_lstL, fnD_lstT, fnD_all, idxD_L, idxD_T, idxD_S, slcD_L, slcD_T, itemsD_L, itemsD_T, asD_shr, asD_frs, asB_ok, okCall_t, noBrw_nil, noBrw_shr, noBrw_frs, tests_nil, tests_one, at0, at1, at2, lim_eq, List.set_cons_zero, List.set_cons_succ, List.getElem?_cons_zero, List.getElem?_cons_succ, List.length_cons, List.length_nil, List.map_cons, List.map_nil, Option.map_some, Option.map_none, if_true, if_false, ite_true, ite_false, reduceIte, reduceCtorEq, decide_true, decide_false, Nat.reduceAdd, Nat.reduceSub, Nat.reduceEqDiff, Int.reduceNeg, Int.reduceLT, Int.reduceLE, Bool.not_true, Bool.not_false, Nat.reduceLeDiff, and_self, true_and, and_true, Nat.reduceLeDiff]; rfl)).trans rfl
  | copy b c =>
    have hb : b < ns.length := by rw [hn']; exact hr.1
    have hc : c < ns.length := by rw [hn']; exact hr.2
    have ec := iD_at hc
    have e := pn (v := ns.getD c 0) hb
    iterate 4 refine (seq (st' := [some (false, p.d), some (false, stD (i, ns)), some (false, .int i), some (false, .tuple (iD ns)), some (false, (Row.copy b c).d), none]) (by simp only [runD, Dv.start, evSs_nil, evSs_cons, evS, evE, evL, evB, evAnd, evOr, evO, onOwn, guardO, setAll, thenS_nx, thenS_rt, thenS_ex, onV_ok, onV_ex, onB_ok, onB_ex, bindV_ok, bindV_ex, boolV_ok, bindA_ok, consA_ok, optI_none, optI_some, outcome_nx, outcome_shr, outcome_frs, outcome_ex, setV_shr, setV_frs, binD_add, binD_addT, binD_addL, binD_sub, binD_mulr, binD_mull, binD_fdiv', binD_mod', cmpD_lt, cmpD_le, cmpD_gt, cmpD_ge, cmpD_eqi, cmpD_nei, cmpD_is, cmpD_isn, cmpD_memL, cmpD_nmemL, cmpD_memT, cmpD_nmemT, isN_none, isN_int, isN_tup, isN_lst, isN_bool, isN_str, flat_int, flat_str, flat_none, flat_bool, fnD_lenL, fnD_lenT, fnD_lenS, fnD_intB, fnD_str, fnD_tupL, fnD_tupT, fnD_lstL, fnD_lstT, fnD_all, idxD_L, idxD_T, idxD_S, slcD_L, slcD_T, itemsD_L, itemsD_T, asD_shr, asD_frs, asB_ok, okCall_t, noBrw_nil, noBrw_shr, noBrw_frs, tests_nil, tests_one, at0, at1, at2, lim_eq, List.set_cons_zero, List.set_cons_succ, List.getElem?_cons_zero, List.getElem?_cons_succ, List.length_cons, List.length_nil, List.map_cons, List.map_nil, Option.map_some, Option.map_none, if_true, if_false, ite_true, ite_false, reduceIte, reduceCtorEq, decide_true, decide_false, Nat.reduceAdd, Nat.reduceSub, Nat.reduceEqDiff, Int.reduceNeg, Int.reduceLT, Int.reduceLE, Bool.not_true, Bool.not_false, Nat.reduceLeDiff, and_self, true_and, and_true, Row.d, w_put_put, w_put_more, w_put_copy, w_put_tell, w_put_go, w_put_ask, w_put_stop, w_put_is, w_put_by, w_more_put, w_more_more, w_more_copy, w_more_tell, w_more_go, w_more_ask, w_more_stop, w_more_is, w_more_by, w_copy_put, w_copy_more, w_copy_copy, w_copy_tell, w_copy_go, w_copy_ask, w_copy_stop, w_copy_is, w_copy_by, w_tell_put, w_tell_more, w_tell_copy, w_tell_tell, w_tell_go, w_tell_ask, w_tell_stop, w_tell_is, w_tell_by, w_go_put, w_go_more, w_go_copy, w_go_tell, w_go_go, w_go_ask, w_go_stop, w_go_is, w_go_by, w_ask_put, w_ask_more, w_ask_copy, w_ask_tell, w_ask_go, w_ask_ask, w_ask_stop, w_ask_is, w_ask_by, w_stop_put, w_stop_more, w_stop_copy, w_stop_tell, w_stop_go, w_stop_ask, w_stop_stop, w_stop_is, w_stop_by, w_is_put, w_is_more, w_is_copy, w_is_tell, w_is_go, w_is_ask, w_is_stop, w_is_is, w_is_by, w_by_put, w_by_more, w_by_copy, w_by_tell, w_by_go, w_by_ask, w_by_stop, w_by_is, w_by_by, Bool.false_eq_true])).trans ?_
    iterate 2 refine (seq (st' := [some (false, p.d), some (false, stD (i, ns)), some (false, .int i), some (false, .tuple (iD (ns.set b (ns.getD c 0)))), some (false, (Row.copy b c).d), none]) (by simp only [runD, Dv.start, evSs_nil, evSs_cons, evS, evE, evL, evB, evAnd, evOr, evO, onOwn, guardO, setAll, thenS_nx, thenS_rt, thenS_ex, onV_ok, onV_ex, onB_ok, onB_ex, bindV_ok, bindV_ex, boolV_ok, bindA_ok, consA_ok, optI_none, optI_some, outcome_nx, outcome_shr, outcome_frs, outcome_ex, setV_shr, setV_frs, binD_add, binD_addT, binD_addL, binD_sub, binD_mulr, binD_mull, binD_fdiv', binD_mod', cmpD_lt, cmpD_le, cmpD_gt, cmpD_ge, cmpD_eqi, cmpD_nei, cmpD_is, cmpD_isn, cmpD_memL, cmpD_nmemL, cmpD_memT, cmpD_nmemT, isN_none, isN_int, isN_tup, isN_lst, isN_bool, isN_str, flat_int, flat_str, flat_none, flat_bool, fnD_lenL, fnD_lenT, fnD_lenS, fnD_intB, fnD_str, fnD_tupL, fnD_tupT, fnD_lstL, fnD_lstT, fnD_all, idxD_L, idxD_T, idxD_S, slcD_L, slcD_T, itemsD_L, itemsD_T, asD_shr, asD_frs, asB_ok, okCall_t, noBrw_nil, noBrw_shr, noBrw_frs, tests_nil, tests_one, at0, at1, at2, lim_eq, List.set_cons_zero, List.set_cons_succ, List.getElem?_cons_zero, List.getElem?_cons_succ, List.length_cons, List.length_nil, List.map_cons, List.map_nil, Option.map_some, Option.map_none, if_true, if_false, ite_true, ite_false, reduceIte, reduceCtorEq, decide_true, decide_false, Nat.reduceAdd, Nat.reduceSub, Nat.reduceEqDiff, Int.reduceNeg, Int.reduceLT, Int.reduceLE, Bool.not_true, Bool.not_false, Nat.reduceLeDiff, and_self, true_and, and_true, Row.d, w_put_put, w_put_more, w_put_copy, w_put_tell, w_put_go, w_put_ask, w_put_stop, w_put_is, w_put_by, w_more_put, w_more_more, w_more_copy, w_more_tell, w_more_go, w_more_ask, w_more_stop, w_more_is, w_more_by, w_copy_put, w_copy_more, w_copy_copy, w_copy_tell, w_copy_go, w_copy_ask, w_copy_stop, w_copy_is, w_copy_by, w_tell_put, w_tell_more, w_tell_copy, w_tell_tell, w_tell_go, w_tell_ask, w_tell_stop, w_tell_is, w_tell_by, w_go_put, w_go_more, w_go_copy, w_go_tell, w_go_go, w_go_ask, w_go_stop, w_go_is, w_go_by, w_ask_put, w_ask_more, w_ask_copy, w_ask_tell, w_ask_go, w_ask_ask, w_ask_stop, w_ask_is, w_ask_by, w_stop_put, w_stop_more, w_stop_copy, w_stop_tell, w_stop_go, w_stop_ask, w_stop_stop, w_stop_is, w_stop_by, w_is_put, w_is_more, w_is_copy, w_is_tell, w_is_go, w_is_ask, w_is_stop, w_is_is, w_is_by, w_by_put, w_by_more, w_by_copy, w_by_tell, w_by_go, w_by_ask, w_by_stop, w_by_is, w_by_by, ec, e, Bool.false_eq_true])).trans ?_
    exact (seq_rt (by simp only [runD, Dv.start, evSs_nil, evSs_cons, evS, evE, evL, evB, evAnd, evOr, evO, onOwn, guardO, setAll, thenS_nx, thenS_rt, thenS_ex, onV_ok, onV_ex, onB_ok, onB_ex, bindV_ok, bindV_ex, boolV_ok, bindA_ok, consA_ok, optI_none, optI_some, outcome_nx, outcome_shr, outcome_frs, outcome_ex, setV_shr, setV_frs, binD_add, binD_addT, binD_addL, binD_sub, binD_mulr, binD_mull, binD_fdiv', binD_mod', cmpD_lt, cmpD_le, cmpD_gt, cmpD_ge, cmpD_eqi, cmpD_nei, cmpD_is, cmpD_isn, cmpD_memL, cmpD_nmemL, cmpD_memT, cmpD_nmemT, isN_none, isN_int, isN_tup, isN_lst, isN_bool, isN_str, flat_int, flat_str, flat_none, flat_bool, fnD_lenL, fnD_lenT, fnD_lenS, fnD_intB, fnD_str, fnD_tupL, fnD_tupT, fnD_lstL, fnD_lstT, fnD_all, idxD_L, idxD_T, idxD_S, slcD_L, slcD_T, itemsD_L, itemsD_T, asD_shr, asD_frs, asB_ok, okCall_t, noBrw_nil, noBrw_shr, noBrw_frs, tests_nil, tests_one, at0, at1, at2, lim_eq, List.set_cons_zero, List.set_cons_succ, List.getElem?_cons_zero, List.getElem?_cons_succ, List.length_cons, List.length_nil, List.map_cons, List.map_nil, Option.map_some, Option.map_none, if_true, if_false, ite_true, ite_false, reduceIte, reduceCtorEq, decide_true, decide_false, Nat.reduceAdd, Nat.reduceSub, Nat.reduceEqDiff, Int.reduceNeg, Int.reduceLT, Int.reduceLE, Bool.not_true, Bool.not_false, Nat.reduceLeDiff, and_self, true_and, and_true, Nat.reduceLeDiff]; rfl)).trans rfl
  | more b =>
    have hb : b < ns.length := by rw [hn']; exact hr
    have eb := iD_at hb
    have e := pn (v := (ns.getD b 0 + 1) % (p.most + 1)) hb
    have hbm : ns.getD b 0 ≤ p.most := by
      rw [List.getD_eq_getElem?_getD, List.getElem?_eq_getElem hb]
      exact hmost _ (List.getElem_mem hb)
    have pick : L2.atI [PyData.int (((ns.getD b 0 : Nat) : Int) + 1), .int 0] (if decide ((p.most : Int) < ((ns.getD b 0 : Nat) : Int) + 1) = true then 1 else 0) = some (.int (((ns.getD b 0 + 1) % (p.most + 1) : Nat) : Int)) := by
      by_cases q : ns.getD b 0 = p.most
      · rw [if_pos (by rw [decide_eq_true_eq]; omega), q, Nat.mod_self]
        rfl
      · rw [if_neg (by rw [decide_eq_true_eq]; omega), Nat.mod_eq_of_lt (by omega)]
        rfl
    iterate 5 refine (seq (st' := [some (false, p.d), some (false, stD (i, ns)), some (false, .int i), some (false, .tuple (iD ns)), some (false, (Row.more b).d), none]) (by simp only [runD, Dv.start, evSs_nil, evSs_cons, evS, evE, evL, evB, evAnd, evOr, evO, onOwn, guardO, setAll, thenS_nx, thenS_rt, thenS_ex, onV_ok, onV_ex, onB_ok, onB_ex, bindV_ok, bindV_ex, boolV_ok, bindA_ok, consA_ok, optI_none, optI_some, outcome_nx, outcome_shr, outcome_frs, outcome_ex, setV_shr, setV_frs, binD_add, binD_addT, binD_addL, binD_sub, binD_mulr, binD_mull, binD_fdiv', binD_mod', cmpD_lt, cmpD_le, cmpD_gt, cmpD_ge, cmpD_eqi, cmpD_nei, cmpD_is, cmpD_isn, cmpD_memL, cmpD_nmemL, cmpD_memT, cmpD_nmemT, isN_none, isN_int, isN_tup, isN_lst, isN_bool, isN_str, flat_int, flat_str, flat_none, flat_bool, fnD_lenL, fnD_lenT, fnD_lenS, fnD_intB, fnD_str, fnD_tupL, fnD_tupT, fnD_lstL, fnD_lstT, fnD_all, idxD_L, idxD_T, idxD_S, slcD_L, slcD_T, itemsD_L, itemsD_T, asD_shr, asD_frs, asB_ok, okCall_t, noBrw_nil, noBrw_shr, noBrw_frs, tests_nil, tests_one, at0, at1, at2, lim_eq, List.set_cons_zero, List.set_cons_succ, List.getElem?_cons_zero, List.getElem?_cons_succ, List.length_cons, List.length_nil, List.map_cons, List.map_nil, Option.map_some, Option.map_none, if_true, if_false, ite_true, ite_false, reduceIte, reduceCtorEq, decide_true, decide_false, Nat.reduceAdd, Nat.reduceSub, Nat.reduceEqDiff, Int.reduceNeg, Int.reduceLT, Int.reduceLE, Bool.not_true, Bool.not_false, Nat.reduceLeDiff, and_self, true_and, and_true, Row.d, w_put_put, w_put_more, w_put_copy, w_put_tell, w_put_go, w_put_ask, w_put_stop, w_put_is, w_put_by, w_more_put, w_more_more, w_more_copy, w_more_tell, w_more_go, w_more_ask, w_more_stop, w_more_is, w_more_by, w_copy_put, w_copy_more, w_copy_copy, w_copy_tell, w_copy_go, w_copy_ask, w_copy_stop, w_copy_is, w_copy_by, w_tell_put, w_tell_more, w_tell_copy, w_tell_tell, w_tell_go, w_tell_ask, w_tell_stop, w_tell_is, w_tell_by, w_go_put, w_go_more, w_go_copy, w_go_tell, w_go_go, w_go_ask, w_go_stop, w_go_is, w_go_by, w_ask_put, w_ask_more, w_ask_copy, w_ask_tell, w_ask_go, w_ask_ask, w_ask_stop, w_ask_is, w_ask_by, w_stop_put, w_stop_more, w_stop_copy, w_stop_tell, w_stop_go, w_stop_ask, w_stop_stop, w_stop_is, w_stop_by, w_is_put, w_is_more, w_is_copy, w_is_tell, w_is_go, w_is_ask, w_is_stop, w_is_is, w_is_by, w_by_put, w_by_more, w_by_copy, w_by_tell, w_by_go, w_by_ask, w_by_stop, w_by_is, w_by_by, Bool.false_eq_true])).trans ?_
    refine (seq (st' := [some (false, p.d), some (false, stD (i, ns)), some (false, .int i), some (false, .tuple (iD (ns.set b ((ns.getD b 0 + 1) % (p.most + 1))))), some (false, (Row.more b).d), some (false, .int (((ns.getD b 0 : Nat) : Int) + 1))]) (by simp only [runD, Dv.start, evSs_nil, evSs_cons, evS, evE, evL, evB, evAnd, evOr, evO, onOwn, guardO, setAll, thenS_nx, thenS_rt, thenS_ex, onV_ok, onV_ex, onB_ok, onB_ex, bindV_ok, bindV_ex, boolV_ok, bindA_ok, consA_ok, optI_none, optI_some, outcome_nx, outcome_shr, outcome_frs, outcome_ex, setV_shr, setV_frs, binD_add, binD_addT, binD_addL, binD_sub, binD_mulr, binD_mull, binD_fdiv', binD_mod', cmpD_lt, cmpD_le, cmpD_gt, cmpD_ge, cmpD_eqi, cmpD_nei, cmpD_is, cmpD_isn, cmpD_memL, cmpD_nmemL, cmpD_memT, cmpD_nmemT, isN_none, isN_int, isN_tup, isN_lst, isN_bool, isN_str, flat_int, flat_str, flat_none, flat_bool, fnD_lenL, fnD_lenT, fnD_lenS, fnD_intB, fnD_str, fnD_tupL, fnD_tupT, fnD_lstL, fnD_lstT, fnD_all, idxD_L, idxD_T, idxD_S, slcD_L, slcD_T, itemsD_L, itemsD_T, asD_shr, asD_frs, asB_ok, okCall_t, noBrw_nil, noBrw_shr, noBrw_frs, tests_nil, tests_one, at0, at1, at2, lim_eq, List.set_cons_zero, List.set_cons_succ, List.getElem?_cons_zero, List.getElem?_cons_succ, List.length_cons, List.length_nil, List.map_cons, List.map_nil, Option.map_some, Option.map_none, if_true, if_false, ite_true, ite_false, reduceIte, reduceCtorEq, decide_true, decide_false, Nat.reduceAdd, Nat.reduceSub, Nat.reduceEqDiff, Int.reduceNeg, Int.reduceLT, Int.reduceLE, Bool.not_true, Bool.not_false, Nat.reduceLeDiff, and_self, true_and, and_true, Row.d, w_put_put, w_put_more, w_put_copy, w_put_tell, w_put_go, w_put_ask, w_put_stop, w_put_is, w_put_by, w_more_put, w_more_more, w_more_copy, w_more_tell, w_more_go, w_more_ask, w_more_stop, w_more_is, w_more_by, w_copy_put, w_copy_more, w_copy_copy, w_copy_tell, w_copy_go, w_copy_ask, w_copy_stop, w_copy_is, w_copy_by, w_tell_put, w_tell_more, w_tell_copy, w_tell_tell, w_tell_go, w_tell_ask, w_tell_stop, w_tell_is, w_tell_by, w_go_put, w_go_more, w_go_copy, w_go_tell, w_go_go, w_go_ask, w_go_stop, w_go_is, w_go_by, w_ask_put, w_ask_more, w_ask_copy, w_ask_tell, w_ask_go, w_ask_ask, w_ask_stop, w_ask_is, w_ask_by, w_stop_put, w_stop_more, w_stop_copy, w_stop_tell, w_stop_go, w_stop_ask, w_stop_stop, w_stop_is, w_stop_by, w_is_put, w_is_more, w_is_copy, w_is_tell, w_is_go, w_is_ask, w_is_stop, w_is_is, w_is_by, w_by_put, w_by_more, w_by_copy, w_by_tell, w_by_go, w_by_ask, w_by_stop, w_by_is, w_by_by, Prog.d, eb, pick, e, Nat.reduceLeDiff])).trans ?_
    exact (seq_rt (by simp only [runD, Dv.start, evSs_nil, evSs_cons, evS, evE, evL, evB, evAnd, evOr, evO, onOwn, guardO, setAll, thenS_nx, thenS_rt, thenS_ex, onV_ok, onV_ex, onB_ok, onB_ex, bindV_ok, bindV_ex, boolV_ok, bindA_ok, consA_ok, optI_none, optI_some, outcome_nx, outcome_shr, outcome_frs, outcome_ex, setV_shr, setV_frs, binD_add, binD_addT, binD_addL, binD_sub, binD_mulr, binD_mull, binD_fdiv', binD_mod', cmpD_lt, cmpD_le, cmpD_gt, cmpD_ge, cmpD_eqi, cmpD_nei, cmpD_is, cmpD_isn, cmpD_memL, cmpD_nmemL, cmpD_memT, cmpD_nmemT, isN_none, isN_int, isN_tup, isN_lst, isN_bool, isN_str, flat_int, flat_str, flat_none, flat_bool, fnD_lenL, fnD_lenT, fnD_lenS, fnD_intB, fnD_str, fnD_tupL, fnD_tupT, fnD_lstL, fnD_lstT, fnD_all, idxD_L, idxD_T, idxD_S, slcD_L, slcD_T, itemsD_L, itemsD_T, asD_shr, asD_frs, asB_ok, okCall_t, noBrw_nil, noBrw_shr, noBrw_frs, tests_nil, tests_one, at0, at1, at2, lim_eq, List.set_cons_zero, List.set_cons_succ, List.getElem?_cons_zero, List.getElem?_cons_succ, List.length_cons, List.length_nil, List.map_cons, List.map_nil, Option.map_some, Option.map_none, if_true, if_false, ite_true, ite_false, reduceIte, reduceCtorEq, decide_true, decide_false, Nat.reduceAdd, Nat.reduceSub, Nat.reduceEqDiff, Int.reduceNeg, Int.reduceLT, Int.reduceLE, Bool.not_true, Bool.not_false, Nat.reduceLeDiff, and_self, true_and, and_true, Nat.reduceLeDiff]; rfl)).trans rfl
end Law
namespace Law
open PySem Dv
theorem ins_at {xs : List D} {k : Nat} : xs.take (k : Int).toNat = xs.take k := by rw [Int.toNat_natCast]
theorem law_places_ok {fu n : Nat} (c : Int) {p q : Prog} (hp : p.Ok) (hq : q.Ok) : ∃ xs : List Place, (∀ x ∈ xs, x.Ok p q) ∧ RowsApart xs ∧ xs.length ≤ 16 ∧ run tab fu (n + 3) "_law_places" [.int c, p.d, q.d] = some (.ok .frs (placesD xs)) := by
  rw [run_law_places]
  have hr16 := hp.rows
  have hq0 := hq.rows0
  have hq3 := hq.boxes
  have hqz : (0 : Int) < q.rows.length := by omega
  obtain ⟨st', el, s', xs, k5, k6, k7, est, hx, ha, hlt, hl⟩ := forGo_rng (f := fun d st => evSs (run tab fu (n + 2)) fu b_law_places_2 (List.set st 5 (some (false, d))))
    (fun j st => ∃ (s' : Int) (xs : List Place) (k5 k6 k7 : Option (Bool × D)), st = [some (false, .int c), some (false, p.d), some (false, q.d), some (true, placesD xs), some (false, .int s'), k5, k6, k7] ∧ (∀ x ∈ xs, x.Ok p q) ∧ RowsApart xs ∧ (∀ x ∈ xs, x.row < j) ∧ xs.length ≤ j) p.rows.length
    [some (false, .int c), some (false, p.d), some (false, q.d), some (true, .list []), some (false, .int (nextS c)), none, none, none] (by
      rintro j st hj ⟨s', xs, k5, k6, k7, rfl, hx, ha, hlt, hl⟩
      generalize hs2 : nextS (s' + j) = s2
      have hnx : run tab fu (n + 2) "_law_next" [.int (s' + j)] = some (.ok .shr (.int s2)) := by rw [← hs2]; exact next_ok _
      unfold b_law_places_2
      show ∃ st', evSs _ _ _ [some (false, .int c), some (false, p.d), some (false, q.d), some (true, placesD xs), some (false, .int s'), some (false, .int j), k6, k7] = some (.nx st') ∧ _
      by_cases g : (0 : Int) < s2 % 3
      · obtain ⟨rs, h1, h2, h3⟩ := rules_ok (fu := fu) (n := n + 1) s2 hp hq (fun _ => []) (fun d => asD (evE (run tab fu (n + 2)) e_law_places_1 [some (false, .int c), some (false, p.d), some (false, q.d), some (true, placesD xs), some (false, .int s2), some (false, .int j), k6, some (false, d)])) (fun k hk => by
          unfold e_law_places_1
          simp only [runD, Dv.start, evSs_nil, evSs_cons, evS, evE, evL, evB, evAnd, evOr, evO, onOwn, guardO, setAll, thenS_nx, thenS_rt, thenS_ex, onV_ok, onV_ex, onB_ok, onB_ex, bindV_ok, bindV_ex, boolV_ok, bindA_ok, consA_ok, optI_none, optI_some, outcome_nx, outcome_shr, outcome_frs, outcome_ex, setV_shr, setV_frs, binD_add, binD_addT, binD_addL, binD_sub, binD_mulr, binD_mull, binD_fdiv', binD_mod', cmpD_lt, cmpD_le, cmpD_gt, cmpD_ge, cmpD_eqi, cmpD_nei, cmpD_is, cmpD_isn, cmpD_memL, cmpD_nmemL, cmpD_memT, cmpD_nmemT, isN_none, isN_int, isN_tup, isN_lst, isN_bool, isN_str, flat_int, flat_str, flat_none, flat_bool, fnD_lenL, fnD_lenT, fnD_lenS, fnD_intB, fnD_str, fnD_tupL, fnD_tupT, fnD_lstL, fnD_lstT, fnD_all, idxD_L, idxD_T, idxD_S, slcD_L, slcD_T, itemsD_L, itemsD_T, asD_shr, asD_frs, asB_ok, okCall_t, noBrw_nil, noBrw_shr, noBrw_frs, tests_nil, tests_one, at0, at1, at2, lim_eq, List.set_cons_zero, List.set_cons_succ, List.getElem?_cons_zero, List.getElem?_cons_succ, List.length_cons, List.length_nil, List.map_cons, List.map_nil, Option.map_some, Option.map_none, if_true, if_false, ite_true, ite_false, reduceIte, reduceCtorEq, decide_true, decide_false, Nat.reduceAdd, Nat.reduceSub, Nat.reduceEqDiff, Int.reduceNeg, Int.reduceLT, Int.reduceLE, Bool.not_true, Bool.not_false, Nat.reduceLeDiff, and_self, true_and, and_true, next_ok])
        obtain ⟨o, eo, ho⟩ := mod_nat (s2 / 5) (m := q.rows.length) hq0
        obtain ⟨k, ek, hk⟩ := mod_nat (s2 / 9) (m := xs.length + 1) (by omega)
        have ek' : s2 / 9 % ((xs.length : Int) + 1) = k := by simpa using ek
        have hkz : (0 : Int) < (xs.length : Int) + 1 := by omega
        have hx1 : Place.Ok p q ⟨j, o, rs⟩ := ⟨hj, ho, h1, h2⟩
        refine ⟨[some (false, .int c), some (false, p.d), some (false, q.d), some (true, placesD (xs.take k ++ [⟨j, o, rs⟩] ++ xs.drop k)), some (false, .int s2), some (false, .int j), some (false, rulesD rs), k7], ?_, s2, xs.take k ++ [⟨j, o, rs⟩] ++ xs.drop k, some (false, .int j), some (false, rulesD rs), k7, rfl, ?_, ?_, ?_, ?_⟩
        · have hcg := h3
          have hrl : rs.length ≤ 100000 := by omega
          have hlen : xs.length < 100000 := by omega
          have e6 : evE (run tab fu (n + 2)) (.fn .tup (.cmpR e_law_places_1 7 (.idx (.var 2) (.int 0)) i_law_places_0)) [some (false, .int c), some (false, p.d), some (false, q.d), some (true, placesD xs), some (false, .int s2), some (false, .int j), k6, k7] = some (.ok .shr (rulesD rs)) := by
            have e0 : evE (run tab fu (n + 2)) (.idx (.var 2) (.int 0)) [some (false, .int c), some (false, p.d), some (false, q.d), some (true, placesD xs), some (false, .int s2), some (false, .int j), k6, k7] = some (.ok .shr (.int q.boxes)) := by
              simp only [runD, Dv.start, evSs_nil, evSs_cons, evS, evE, evL, evB, evAnd, evOr, evO, onOwn, guardO, setAll, thenS_nx, thenS_rt, thenS_ex, onV_ok, onV_ex, onB_ok, onB_ex, bindV_ok, bindV_ex, boolV_ok, bindA_ok, consA_ok, optI_none, optI_some, outcome_nx, outcome_shr, outcome_frs, outcome_ex, setV_shr, setV_frs, binD_add, binD_addT, binD_addL, binD_sub, binD_mulr, binD_mull, binD_fdiv', binD_mod', cmpD_lt, cmpD_le, cmpD_gt, cmpD_ge, cmpD_eqi, cmpD_nei, cmpD_is, cmpD_isn, cmpD_memL, cmpD_nmemL, cmpD_memT, cmpD_nmemT, isN_none, isN_int, isN_tup, isN_lst, isN_bool, isN_str, flat_int, flat_str, flat_none, flat_bool, fnD_lenL, fnD_lenT, fnD_lenS, fnD_intB, fnD_str, fnD_tupL, fnD_tupT, fnD_lstL, fnD_lstT, fnD_all, idxD_L, idxD_T, idxD_S, slcD_L, slcD_T, itemsD_L, itemsD_T, asD_shr, asD_frs, asB_ok, okCall_t, noBrw_nil, noBrw_shr, noBrw_frs, tests_nil, tests_one, at0, at1, at2, lim_eq, List.set_cons_zero, List.set_cons_succ, List.getElem?_cons_zero, List.getElem?_cons_succ, List.length_cons, List.length_nil, List.map_cons, List.map_nil, Option.map_some, Option.map_none, if_true, if_false, ite_true, ite_false, reduceIte, reduceCtorEq, decide_true, decide_false, Nat.reduceAdd, Nat.reduceSub, Nat.reduceEqDiff, Int.reduceNeg, Int.reduceLT, Int.reduceLE, Bool.not_true, Bool.not_false, Nat.reduceLeDiff, and_self, true_and, and_true, Prog.d]
            have e1 : ∀ st, tests (evB (run tab fu (n + 2)) i_law_places_0 st) = some true := fun _ => rfl
            rw [evE, evE, e0, bindV_ok]
            simp only [e1, List.set_cons_zero, List.set_cons_succ]
            rw [if_pos (by omega), Int.toNat_natCast, h3, sized_some (by rw [List.length_map, lim_eq]; omega), bindV_ok]
            rfl
          refine (seq (st' := [some (false, .int c), some (false, p.d), some (false, q.d), some (true, placesD xs), some (false, .int s2), some (false, .int j), k6, k7]) (by simp only [runD, Dv.start, evSs_nil, evSs_cons, evS, evE, evL, evB, evAnd, evOr, evO, onOwn, guardO, setAll, thenS_nx, thenS_rt, thenS_ex, onV_ok, onV_ex, onB_ok, onB_ex, bindV_ok, bindV_ex, boolV_ok, bindA_ok, consA_ok, optI_none, optI_some, outcome_nx, outcome_shr, outcome_frs, outcome_ex, setV_shr, setV_frs, binD_add, binD_addT, binD_addL, binD_sub, binD_mulr, binD_mull, binD_fdiv', binD_mod', cmpD_lt, cmpD_le, cmpD_gt, cmpD_ge, cmpD_eqi, cmpD_nei, cmpD_is, cmpD_isn, cmpD_memL, cmpD_nmemL, cmpD_memT, cmpD_nmemT, isN_none, isN_int, isN_tup, isN_lst, isN_bool, isN_str, flat_int, flat_str, flat_none, flat_bool, fnD_lenL, fnD_lenT, fnD_lenS, fnD_intB, fnD_str, fnD_tupL, fnD_tupT, fnD_lstL, fnD_lstT, fnD_all, idxD_L, idxD_T, idxD_S, slcD_L, slcD_T, itemsD_L, itemsD_T, asD_shr, asD_frs, asB_ok, okCall_t, noBrw_nil, noBrw_shr, noBrw_frs, tests_nil, tests_one, at0, at1, at2, lim_eq, List.set_cons_zero, List.set_cons_succ, List.getElem?_cons_zero, List.getElem?_cons_succ, List.length_cons, List.length_nil, List.map_cons, List.map_nil, Option.map_some, Option.map_none, if_true, if_false, ite_true, ite_false, reduceIte, reduceCtorEq, decide_true, decide_false, Nat.reduceAdd, Nat.reduceSub, Nat.reduceEqDiff, Int.reduceNeg, Int.reduceLT, Int.reduceLE, Bool.not_true, Bool.not_false, Nat.reduceLeDiff, and_self, true_and, and_true, hnx])).trans ?_
          refine (seq ?_).trans evSs_nil
          have ec : evE (run tab fu (n + 2)) (.cmp .gt (.bin .mod (.var 4) (.int 3)) (.int 0)) [some (false, .int c), some (false, p.d), some (false, q.d), some (true, placesD xs), some (false, .int s2), some (false, .int j), k6, k7] = some (.ok .shr (.bool true)) := by
            simp only [runD, Dv.start, evSs_nil, evSs_cons, evS, evE, evL, evB, evAnd, evOr, evO, onOwn, guardO, setAll, thenS_nx, thenS_rt, thenS_ex, onV_ok, onV_ex, onB_ok, onB_ex, bindV_ok, bindV_ex, boolV_ok, bindA_ok, consA_ok, optI_none, optI_some, outcome_nx, outcome_shr, outcome_frs, outcome_ex, setV_shr, setV_frs, binD_add, binD_addT, binD_addL, binD_sub, binD_mulr, binD_mull, binD_fdiv', binD_mod', cmpD_lt, cmpD_le, cmpD_gt, cmpD_ge, cmpD_eqi, cmpD_nei, cmpD_is, cmpD_isn, cmpD_memL, cmpD_nmemL, cmpD_memT, cmpD_nmemT, isN_none, isN_int, isN_tup, isN_lst, isN_bool, isN_str, flat_int, flat_str, flat_none, flat_bool, fnD_lenL, fnD_lenT, fnD_lenS, fnD_intB, fnD_str, fnD_tupL, fnD_tupT, fnD_lstL, fnD_lstT, fnD_all, idxD_L, idxD_T, idxD_S, slcD_L, slcD_T, itemsD_L, itemsD_T, asD_shr, asD_frs, asB_ok, okCall_t, noBrw_nil, noBrw_shr, noBrw_frs, tests_nil, tests_one, at0, at1, at2, lim_eq, List.set_cons_zero, List.set_cons_succ, List.getElem?_cons_zero, List.getElem?_cons_succ, List.length_cons, List.length_nil, List.map_cons, List.map_nil, Option.map_some, Option.map_none, if_true, if_false, ite_true, ite_false, reduceIte, reduceCtorEq, decide_true, decide_false, Nat.reduceAdd, Nat.reduceSub, Nat.reduceEqDiff, Int.reduceNeg, Int.reduceLT, Int.reduceLE, Bool.not_true, Bool.not_false, Nat.reduceLeDiff, and_self, true_and, and_true, g]
          rw [evS, ec, onB_ok, if_pos rfl]
          refine (seq (st' := [some (false, .int c), some (false, p.d), some (false, q.d), some (true, placesD xs), some (false, .int s2), some (false, .int j), some (false, rulesD rs), k7]) (by rw [evS, e6]; rfl)).trans ?_
          refine (seq ?_).trans evSs_nil
          have ei : evE (run tab fu (n + 2)) (.bin .mod (.bin .fdiv (.var 4) (.int 9)) (.bin .add (.fn .len (.var 3)) (.int 1))) [some (false, .int c), some (false, p.d), some (false, q.d), some (true, placesD xs), some (false, .int s2), some (false, .int j), some (false, rulesD rs), k7] = some (.ok .shr (.int k)) := by
            simp only [runD, Dv.start, evSs_nil, evSs_cons, evS, evE, evL, evB, evAnd, evOr, evO, onOwn, guardO, setAll, thenS_nx, thenS_rt, thenS_ex, onV_ok, onV_ex, onB_ok, onB_ex, bindV_ok, bindV_ex, boolV_ok, bindA_ok, consA_ok, optI_none, optI_some, outcome_nx, outcome_shr, outcome_frs, outcome_ex, setV_shr, setV_frs, binD_add, binD_addT, binD_addL, binD_sub, binD_mulr, binD_mull, binD_fdiv', binD_mod', cmpD_lt, cmpD_le, cmpD_gt, cmpD_ge, cmpD_eqi, cmpD_nei, cmpD_is, cmpD_isn, cmpD_memL, cmpD_nmemL, cmpD_memT, cmpD_nmemT, isN_none, isN_int, isN_tup, isN_lst, isN_bool, isN_str, flat_int, flat_str, flat_none, flat_bool, fnD_lenL, fnD_lenT, fnD_lenS, fnD_intB, fnD_str, fnD_tupL, fnD_tupT, fnD_lstL, fnD_lstT, fnD_all, idxD_L, idxD_T, idxD_S, slcD_L, slcD_T, itemsD_L, itemsD_T, asD_shr, asD_frs, asB_ok, okCall_t, noBrw_nil, noBrw_shr, noBrw_frs, tests_nil, tests_one, at0, at1, at2, lim_eq, List.set_cons_zero, List.set_cons_succ, List.getElem?_cons_zero, List.getElem?_cons_succ, List.length_cons, List.length_nil, List.map_cons, List.map_nil, Option.map_some, Option.map_none, if_true, if_false, ite_true, ite_false, reduceIte, reduceCtorEq, decide_true, decide_false, Nat.reduceAdd, Nat.reduceSub, Nat.reduceEqDiff, Int.reduceNeg, Int.reduceLT, Int.reduceLE, Bool.not_true, Bool.not_false, Nat.reduceLeDiff, and_self, true_and, and_true, placesD, List.length_map, hkz, ek']
          have ep : evE (run tab fu (n + 2)) (.tup [.var 5, .bin .mod (.bin .fdiv (.var 4) (.int 5)) (.fn .len (.idx (.var 2) (.int 2))), .var 6]) [some (false, .int c), some (false, p.d), some (false, q.d), some (true, placesD xs), some (false, .int s2), some (false, .int j), some (false, rulesD rs), k7] = some (.ok .shr (Place.d ⟨j, o, rs⟩)) := by
            have el : evE (run tab fu (n + 2)) (.fn .len (.idx (.var 2) (.int 2))) [some (false, .int c), some (false, p.d), some (false, q.d), some (true, placesD xs), some (false, .int s2), some (false, .int j), some (false, rulesD rs), k7] = some (.ok .shr (.int q.rows.length)) := by
              simp only [runD, Dv.start, evSs_nil, evSs_cons, evS, evE, evL, evB, evAnd, evOr, evO, onOwn, guardO, setAll, thenS_nx, thenS_rt, thenS_ex, onV_ok, onV_ex, onB_ok, onB_ex, bindV_ok, bindV_ex, boolV_ok, bindA_ok, consA_ok, optI_none, optI_some, outcome_nx, outcome_shr, outcome_frs, outcome_ex, setV_shr, setV_frs, binD_add, binD_addT, binD_addL, binD_sub, binD_mulr, binD_mull, binD_fdiv', binD_mod', cmpD_lt, cmpD_le, cmpD_gt, cmpD_ge, cmpD_eqi, cmpD_nei, cmpD_is, cmpD_isn, cmpD_memL, cmpD_nmemL, cmpD_memT, cmpD_nmemT, isN_none, isN_int, isN_tup, isN_lst, isN_bool, isN_str, flat_int, flat_str, flat_none, flat_bool, fnD_lenL, fnD_lenT, fnD_lenS, fnD_intB, fnD_str, fnD_tupL, fnD_tupT, fnD_lstL, fnD_lstT, fnD_all, idxD_L, idxD_T, idxD_S, slcD_L, slcD_T, itemsD_L, itemsD_T, asD_shr, asD_frs, asB_ok, okCall_t, noBrw_nil, noBrw_shr, noBrw_frs, tests_nil, tests_one, at0, at1, at2, lim_eq, List.set_cons_zero, List.set_cons_succ, List.getElem?_cons_zero, List.getElem?_cons_succ, List.length_cons, List.length_nil, List.map_cons, List.map_nil, Option.map_some, Option.map_none, if_true, if_false, ite_true, ite_false, reduceIte, reduceCtorEq, decide_true, decide_false, Nat.reduceAdd, Nat.reduceSub, Nat.reduceEqDiff, Int.reduceNeg, Int.reduceLT, Int.reduceLE, Bool.not_true, Bool.not_false, Nat.reduceLeDiff, and_self, true_and, and_true, Prog.d, List.length_map]
            have eb : evE (run tab fu (n + 2)) (.bin .mod (.bin .fdiv (.var 4) (.int 5)) (.fn .len (.idx (.var 2) (.int 2)))) [some (false, .int c), some (false, p.d), some (false, q.d), some (true, placesD xs), some (false, .int s2), some (false, .int j), some (false, rulesD rs), k7] = some (.ok .shr (.int o)) := by
              rw [evE, el]
              simp only [runD, Dv.start, evSs_nil, evSs_cons, evS, evE, evL, evB, evAnd, evOr, evO, onOwn, guardO, setAll, thenS_nx, thenS_rt, thenS_ex, onV_ok, onV_ex, onB_ok, onB_ex, bindV_ok, bindV_ex, boolV_ok, bindA_ok, consA_ok, optI_none, optI_some, outcome_nx, outcome_shr, outcome_frs, outcome_ex, setV_shr, setV_frs, binD_add, binD_addT, binD_addL, binD_sub, binD_mulr, binD_mull, binD_fdiv', binD_mod', cmpD_lt, cmpD_le, cmpD_gt, cmpD_ge, cmpD_eqi, cmpD_nei, cmpD_is, cmpD_isn, cmpD_memL, cmpD_nmemL, cmpD_memT, cmpD_nmemT, isN_none, isN_int, isN_tup, isN_lst, isN_bool, isN_str, flat_int, flat_str, flat_none, flat_bool, fnD_lenL, fnD_lenT, fnD_lenS, fnD_intB, fnD_str, fnD_tupL, fnD_tupT, fnD_lstL, fnD_lstT, fnD_all, idxD_L, idxD_T, idxD_S, slcD_L, slcD_T, itemsD_L, itemsD_T, asD_shr, asD_frs, asB_ok, okCall_t, noBrw_nil, noBrw_shr, noBrw_frs, tests_nil, tests_one, at0, at1, at2, lim_eq, List.set_cons_zero, List.set_cons_succ, List.getElem?_cons_zero, List.getElem?_cons_succ, List.length_cons, List.length_nil, List.map_cons, List.map_nil, Option.map_some, Option.map_none, if_true, if_false, ite_true, ite_false, reduceIte, reduceCtorEq, decide_true, decide_false, Nat.reduceAdd, Nat.reduceSub, Nat.reduceEqDiff, Int.reduceNeg, Int.reduceLT, Int.reduceLE, Bool.not_true, Bool.not_false, Nat.reduceLeDiff, and_self, true_and, and_true, hqz, eo]
            rw [evE, evL, evL, eb]
            simp only [runD, Dv.start, evSs_nil, evSs_cons, evS, evE, evL, evB, evAnd, evOr, evO, onOwn, guardO, setAll, thenS_nx, thenS_rt, thenS_ex, onV_ok, onV_ex, onB_ok, onB_ex, bindV_ok, bindV_ex, boolV_ok, bindA_ok, consA_ok, optI_none, optI_some, outcome_nx, outcome_shr, outcome_frs, outcome_ex, setV_shr, setV_frs, binD_add, binD_addT, binD_addL, binD_sub, binD_mulr, binD_mull, binD_fdiv', binD_mod', cmpD_lt, cmpD_le, cmpD_gt, cmpD_ge, cmpD_eqi, cmpD_nei, cmpD_is, cmpD_isn, cmpD_memL, cmpD_nmemL, cmpD_memT, cmpD_nmemT, isN_none, isN_int, isN_tup, isN_lst, isN_bool, isN_str, flat_int, flat_str, flat_none, flat_bool, fnD_lenL, fnD_lenT, fnD_lenS, fnD_intB, fnD_str, fnD_tupL, fnD_tupT, fnD_lstL, fnD_lstT, fnD_all, idxD_L, idxD_T, idxD_S, slcD_L, slcD_T, itemsD_L, itemsD_T, asD_shr, asD_frs, asB_ok, okCall_t, noBrw_nil, noBrw_shr, noBrw_frs, tests_nil, tests_one, at0, at1, at2, lim_eq, List.set_cons_zero, List.set_cons_succ, List.getElem?_cons_zero, List.getElem?_cons_succ, List.length_cons, List.length_nil, List.map_cons, List.map_nil, Option.map_some, Option.map_none, if_true, if_false, ite_true, ite_false, reduceIte, reduceCtorEq, decide_true, decide_false, Nat.reduceAdd, Nat.reduceSub, Nat.reduceEqDiff, Int.reduceNeg, Int.reduceLT, Int.reduceLE, Bool.not_true, Bool.not_false, Nat.reduceLeDiff, and_self, true_and, and_true, Nat.reduceLeDiff]
            rfl
          have hk62 : (0 : Int) ≤ (k : Int) ∧ (k : Int) < 2 ^ 62 := by
            refine ⟨by omega, Int.lt_of_lt_of_le (show (k : Int) < 100 by omega) (by decide)⟩
          rw [evS, ei, onV_ok, ep]
          simp only [placesD, guardO, onOwn, onV_ok, List.getElem?_cons_zero, List.getElem?_cons_succ, reduceCtorEq, if_false, if_pos hk62, List.length_map, lim_eq, if_pos hlen, Int.toNat_natCast, Option.map_some, List.set_cons_zero, List.set_cons_succ, List.map_append, List.map_take, List.map_drop, List.map_cons, List.map_nil]
        · intro x hx'
          rcases List.mem_append.mp hx' with h | h
          · rcases List.mem_append.mp h with h | h
            · exact hx x (List.mem_of_mem_take h)
            · simp at h; subst h; exact hx1
          · exact hx x (List.mem_of_mem_drop h)
        · have pm : List.Perm (xs.take k ++ [⟨j, o, rs⟩] ++ xs.drop k) (⟨j, o, rs⟩ :: xs) := by
            rw [List.append_assoc, List.singleton_append]
            exact List.perm_middle.trans (by rw [List.take_append_drop])
          unfold RowsApart
          refine (pm.map Place.row).nodup_iff.mpr (List.nodup_cons.mpr ⟨fun hm => ?_, ha⟩)
          obtain ⟨x, hx', e⟩ := List.mem_map.mp hm
          have e' : x.row = j := e
          have := hlt x hx'
          omega
        · intro x hx'
          rcases List.mem_append.mp hx' with h | h
          · rcases List.mem_append.mp h with h | h
            · exact Nat.lt_succ_of_lt (hlt x (List.mem_of_mem_take h))
            · simp at h; subst h; exact Nat.lt_succ_self _
          · exact Nat.lt_succ_of_lt (hlt x (List.mem_of_mem_drop h))
        · rw [List.length_append, List.length_append, List.length_take, List.length_drop]; simp only [List.length_cons, List.length_nil]; omega
      · refine ⟨[some (false, .int c), some (false, p.d), some (false, q.d), some (true, placesD xs), some (false, .int s2), some (false, .int j), k6, k7], ?_, s2, xs, some (false, .int j), k6, k7, rfl, hx, ha, fun x h => Nat.lt_succ_of_lt (hlt x h), by omega⟩
        refine (seq (st' := [some (false, .int c), some (false, p.d), some (false, q.d), some (true, placesD xs), some (false, .int s2), some (false, .int j), k6, k7]) (by simp only [runD, Dv.start, evSs_nil, evSs_cons, evS, evE, evL, evB, evAnd, evOr, evO, onOwn, guardO, setAll, thenS_nx, thenS_rt, thenS_ex, onV_ok, onV_ex, onB_ok, onB_ex, bindV_ok, bindV_ex, boolV_ok, bindA_ok, consA_ok, optI_none, optI_some, outcome_nx, outcome_shr, outcome_frs, outcome_ex, setV_shr, setV_frs, binD_add, binD_addT, binD_addL, binD_sub, binD_mulr, binD_mull, binD_fdiv', binD_mod', cmpD_lt, cmpD_le, cmpD_gt, cmpD_ge, cmpD_eqi, cmpD_nei, cmpD_is, cmpD_isn, cmpD_memL, cmpD_nmemL, cmpD_memT, cmpD_nmemT, isN_none, isN_int, isN_tup, isN_lst, isN_bool, isN_str, flat_int, flat_str, flat_none, flat_bool, fnD_lenL, fnD_lenT, fnD_lenS, fnD_intB, fnD_str, fnD_tupL, fnD_tupT, fnD_lstL, fnD_lstT, fnD_all, idxD_L, idxD_T, idxD_S, slcD_L, slcD_T, itemsD_L, itemsD_T, asD_shr, asD_frs, asB_ok, okCall_t, noBrw_nil, noBrw_shr, noBrw_frs, tests_nil, tests_one, at0, at1, at2, lim_eq, List.set_cons_zero, List.set_cons_succ, List.getElem?_cons_zero, List.getElem?_cons_succ, List.length_cons, List.length_nil, List.map_cons, List.map_nil, Option.map_some, Option.map_none, if_true, if_false, ite_true, ite_false, reduceIte, reduceCtorEq, decide_true, decide_false, Nat.reduceAdd, Nat.reduceSub, Nat.reduceEqDiff, Int.reduceNeg, Int.reduceLT, Int.reduceLE, Bool.not_true, Bool.not_false, Nat.reduceLeDiff, and_self, true_and, and_true, hnx])).trans ?_
        refine (seq (st' := [some (false, .int c), some (false, p.d), some (false, q.d), some (true, placesD xs), some (false, .int s2), some (false, .int j), k6, k7]) (by simp only [runD, Dv.start, evSs_nil, evSs_cons, evS, evE, evL, evB, evAnd, evOr, evO, onOwn, guardO, setAll, thenS_nx, thenS_rt, thenS_ex, onV_ok, onV_ex, onB_ok, onB_ex, bindV_ok, bindV_ex, boolV_ok, bindA_ok, consA_ok, optI_none, optI_some, outcome_nx, outcome_shr, outcome_frs, outcome_ex, setV_shr, setV_frs, binD_add, binD_addT, binD_addL, binD_sub, binD_mulr, binD_mull, binD_fdiv', binD_mod', cmpD_lt, cmpD_le, cmpD_gt, cmpD_ge, cmpD_eqi, cmpD_nei, cmpD_is, cmpD_isn, cmpD_memL, cmpD_nmemL, cmpD_memT, cmpD_nmemT, isN_none, isN_int, isN_tup, isN_lst, isN_bool, isN_str, flat_int, flat_str, flat_none, flat_bool, fnD_lenL, fnD_lenT, fnD_lenS, fnD_intB, fnD_str, fnD_tupL, fnD_tupT, fnD_lstL, fnD_lstT, fnD_all, idxD_L, idxD_T, idxD_S, slcD_L, slcD_T, itemsD_L, itemsD_T, asD_shr, asD_frs, asB_ok, okCall_t, noBrw_nil, noBrw_shr, noBrw_frs, tests_nil, tests_one, at0, at1, at2, lim_eq, List.set_cons_zero, List.set_cons_succ, List.getElem?_cons_zero, List.getElem?_cons_succ, List.length_cons, List.length_nil, List.map_cons, List.map_nil, Option.map_some, Option.map_none, if_true, if_false, ite_true, ite_false, reduceIte, reduceCtorEq, decide_true, decide_false, Nat.reduceAdd, Nat.reduceSub, Nat.reduceEqDiff, Int.reduceNeg, Int.reduceLT, Int.reduceLE, Bool.not_true, Bool.not_false, Nat.reduceLeDiff, and_self, true_and, and_true, g, Bool.false_eq_true])).trans evSs_nil) ⟨nextS c, [], none, none, none, rfl, by simp, List.nodup_nil, by simp, by simp⟩
  subst est
  refine ⟨xs, hx, ha, by omega, runD_frs rfl ?_⟩
  unfold d_law_places
  rw [show Dv.start _ _ = [some (false, .int c), some (false, p.d), some (false, q.d), none, none, none, none, none] from rfl]
  refine (seq (by simp only [runD, Dv.start, evSs_nil, evSs_cons, evS, evE, evL, evB, evAnd, evOr, evO, onOwn, guardO, setAll, thenS_nx, thenS_rt, thenS_ex, onV_ok, onV_ex, onB_ok, onB_ex, bindV_ok, bindV_ex, boolV_ok, bindA_ok, consA_ok, optI_none, optI_some, outcome_nx, outcome_shr, outcome_frs, outcome_ex, setV_shr, setV_frs, binD_add, binD_addT, binD_addL, binD_sub, binD_mulr, binD_mull, binD_fdiv', binD_mod', cmpD_lt, cmpD_le, cmpD_gt, cmpD_ge, cmpD_eqi, cmpD_nei, cmpD_is, cmpD_isn, cmpD_memL, cmpD_nmemL, cmpD_memT, cmpD_nmemT, isN_none, isN_int, isN_tup, isN_lst, isN_bool, isN_str, flat_int, flat_str, flat_none, flat_bool, fnD_lenL, fnD_lenT, fnD_lenS, fnD_intB, fnD_str, fnD_tupL, fnD_tupT, fnD_lstL, fnD_lstT, fnD_all, idxD_L, idxD_T, idxD_S, slcD_L, slcD_T, itemsD_L, itemsD_T, asD_shr, asD_frs, asB_ok, okCall_t, noBrw_nil, noBrw_shr, noBrw_frs, tests_nil, tests_one, at0, at1, at2, lim_eq, List.set_cons_zero, List.set_cons_succ, List.getElem?_cons_zero, List.getElem?_cons_succ, List.length_cons, List.length_nil, List.map_cons, List.map_nil, Option.map_some, Option.map_none, if_true, if_false, ite_true, ite_false, reduceIte, reduceCtorEq, decide_true, decide_false, Nat.reduceAdd, Nat.reduceSub, Nat.reduceEqDiff, Int.reduceNeg, Int.reduceLT, Int.reduceLE, Bool.not_true, Bool.not_false, Nat.reduceLeDiff, and_self, true_and, and_true, Nat.zero_le]; rfl)).trans ?_
  refine (seq (by simp only [runD, Dv.start, evSs_nil, evSs_cons, evS, evE, evL, evB, evAnd, evOr, evO, onOwn, guardO, setAll, thenS_nx, thenS_rt, thenS_ex, onV_ok, onV_ex, onB_ok, onB_ex, bindV_ok, bindV_ex, boolV_ok, bindA_ok, consA_ok, optI_none, optI_some, outcome_nx, outcome_shr, outcome_frs, outcome_ex, setV_shr, setV_frs, binD_add, binD_addT, binD_addL, binD_sub, binD_mulr, binD_mull, binD_fdiv', binD_mod', cmpD_lt, cmpD_le, cmpD_gt, cmpD_ge, cmpD_eqi, cmpD_nei, cmpD_is, cmpD_isn, cmpD_memL, cmpD_nmemL, cmpD_memT, cmpD_nmemT, isN_none, isN_int, isN_tup, isN_lst, isN_bool, isN_str, flat_int, flat_str, flat_none, flat_bool, fnD_lenL, fnD_lenT, fnD_lenS, fnD_intB, fnD_str, fnD_tupL, fnD_tupT, fnD_lstL, fnD_lstT, fnD_all, idxD_L, idxD_T, idxD_S, slcD_L, slcD_T, itemsD_L, itemsD_T, asD_shr, asD_frs, asB_ok, okCall_t, noBrw_nil, noBrw_shr, noBrw_frs, tests_nil, tests_one, at0, at1, at2, lim_eq, List.set_cons_zero, List.set_cons_succ, List.getElem?_cons_zero, List.getElem?_cons_succ, List.length_cons, List.length_nil, List.map_cons, List.map_nil, Option.map_some, Option.map_none, if_true, if_false, ite_true, ite_false, reduceIte, reduceCtorEq, decide_true, decide_false, Nat.reduceAdd, Nat.reduceSub, Nat.reduceEqDiff, Int.reduceNeg, Int.reduceLT, Int.reduceLE, Bool.not_true, Bool.not_false, Nat.reduceLeDiff, and_self, true_and, and_true, next_ok]; rfl)).trans ?_
  refine (seq ((forR_of (m := p.rows.length) ?_ (by omega)).trans el)).trans ?_
  · simp only [runD, Dv.start, evSs_nil, evSs_cons, evS, evE, evL, evB, evAnd, evOr, evO, onOwn, guardO, setAll, thenS_nx, thenS_rt, thenS_ex, onV_ok, onV_ex, onB_ok, onB_ex, bindV_ok, bindV_ex, boolV_ok, bindA_ok, consA_ok, optI_none, optI_some, outcome_nx, outcome_shr, outcome_frs, outcome_ex, setV_shr, setV_frs, binD_add, binD_addT, binD_addL, binD_sub, binD_mulr, binD_mull, binD_fdiv', binD_mod', cmpD_lt, cmpD_le, cmpD_gt, cmpD_ge, cmpD_eqi, cmpD_nei, cmpD_is, cmpD_isn, cmpD_memL, cmpD_nmemL, cmpD_memT, cmpD_nmemT, isN_none, isN_int, isN_tup, isN_lst, isN_bool, isN_str, flat_int, flat_str, flat_none, flat_bool, fnD_lenL, fnD_lenT, fnD_lenS, fnD_intB, fnD_str, fnD_tupL, fnD_tupT, fnD_lstL, fnD_lstT, fnD_all, idxD_L, idxD_T, idxD_S, slcD_L, slcD_T, itemsD_L, itemsD_T, asD_shr, asD_frs, asB_ok, okCall_t, noBrw_nil, noBrw_shr, noBrw_frs, tests_nil, tests_one, at0, at1, at2, lim_eq, List.set_cons_zero, List.set_cons_succ, List.getElem?_cons_zero, List.getElem?_cons_succ, List.length_cons, List.length_nil, List.map_cons, List.map_nil, Option.map_some, Option.map_none, if_true, if_false, ite_true, ite_false, reduceIte, reduceCtorEq, decide_true, decide_false, Nat.reduceAdd, Nat.reduceSub, Nat.reduceEqDiff, Int.reduceNeg, Int.reduceLT, Int.reduceLE, Bool.not_true, Bool.not_false, Nat.reduceLeDiff, and_self, true_and, and_true, Prog.d, List.length_map]
  exact (seq_rt (k := .frs) (by simp only [runD, Dv.start, evSs_nil, evSs_cons, evS, evE, evL, evB, evAnd, evOr, evO, onOwn, guardO, setAll, thenS_nx, thenS_rt, thenS_ex, onV_ok, onV_ex, onB_ok, onB_ex, bindV_ok, bindV_ex, boolV_ok, bindA_ok, consA_ok, optI_none, optI_some, outcome_nx, outcome_shr, outcome_frs, outcome_ex, setV_shr, setV_frs, binD_add, binD_addT, binD_addL, binD_sub, binD_mulr, binD_mull, binD_fdiv', binD_mod', cmpD_lt, cmpD_le, cmpD_gt, cmpD_ge, cmpD_eqi, cmpD_nei, cmpD_is, cmpD_isn, cmpD_memL, cmpD_nmemL, cmpD_memT, cmpD_nmemT, isN_none, isN_int, isN_tup, isN_lst, isN_bool, isN_str, flat_int, flat_str, flat_none, flat_bool, fnD_lenL, fnD_lenT, fnD_lenS, fnD_intB, fnD_str, fnD_tupL, fnD_tupT, fnD_lstL, fnD_lstT, fnD_all, idxD_L, idxD_T, idxD_S, slcD_L, slcD_T, itemsD_L, itemsD_T, asD_shr, asD_frs, asB_ok, okCall_t, noBrw_nil, noBrw_shr, noBrw_frs, tests_nil, tests_one, at0, at1, at2, lim_eq, List.set_cons_zero, List.set_cons_succ, List.getElem?_cons_zero, List.getElem?_cons_succ, List.length_cons, List.length_nil, List.map_cons, List.map_nil, Option.map_some, Option.map_none, if_true, if_false, ite_true, ite_false, reduceIte, reduceCtorEq, decide_true, decide_false, Nat.reduceAdd, Nat.reduceSub, Nat.reduceEqDiff, Int.reduceNeg, Int.reduceLT, Int.reduceLE, Bool.not_true, Bool.not_false, Nat.reduceLeDiff, and_self, true_and, and_true]; try rfl)).trans rfl
end Law
namespace Law
open PySem Dv
/-! ### what turning tells -/
def ruleV (ns : List Nat) : Rule → Option Nat
  | .is n => n
  | .by b cs => cs.getD (ns.getD b 0) none
def turnedV : List Rule → List Nat → Option (List Nat)
  | [], _ => some []
  | r :: rs, ns => match ruleV ns r, turnedV rs ns with
    | some n, some xs => some (n :: xs)
    | _, _ => none
def optD : Option (List Nat) → D
  | none => .none
  | some xs => numsD xs
theorem numsD_eq (xs : List Nat) : numsD xs = .tuple (xs.map fun (n : Nat) => PyData.int (n : Int)) := rfl
theorem cellD_fine (c : Option Nat) (n : Nat) : fine n (cellD c) := by
  cases c
  · exact fine_none n
  · exact fine_int n _
theorem numsD_fine (xs : List Nat) : fine 1 (numsD xs) := fine_tup fun d hd => by
  obtain ⟨n, _, rfl⟩ := List.mem_map.mp hd
  exact fine_int 0 _
theorem optD_fine (o : Option (List Nat)) : fine 1 (optD o) := by
  cases o
  · exact fine_none 1
  · exact numsD_fine _
theorem by_at {p q : Prog} {b : Nat} {cs : List (Option Nat)} {ns : List Nat} (h : RuleOk p q (.by b cs)) (hn : NumsOk p ns) :
    ∃ n, L2.atI (ns.map fun (n : Nat) => PyData.int (n : Int)) (b : Int) = some (.int (n : Int)) ∧ L2.atI (cs.map cellD) (n : Int) = some (cellD (ruleV ns (.by b cs))) := by
  obtain ⟨hb, hl, _⟩ := h
  have hb2 : b < ns.length := by rw [hn.1]; exact hb
  have hm := hn.2 ns[b] (List.getElem_mem hb2)
  have hk : ns[b] < cs.length := by omega
  refine ⟨ns[b], atN (by simp [hb2]), atN ?_⟩
  rw [List.getElem?_map, List.getElem?_eq_getElem hk]
  simp [ruleV, List.getD_eq_getElem?_getD, hb2, hk]
theorem any_none (cs : List (Option Nat)) : ((cs.map cellD).any fun z => PyData.eqv z .none) = cs.any (· == none) := by
  induction cs with
  | nil => rfl
  | cons c cs ih =>
    rw [List.map_cons, List.any_cons, List.any_cons, ih]
    cases c with
    | none => rw [cellD, eqv_nn]; rfl
    | some n => rw [cellD, eqv_in]; rfl
theorem turnedV_any (rs : List Rule) (ns : List Nat) : ((rs.map (ruleV ns)).any (· == none) = true → turnedV rs ns = none) ∧ ((rs.map (ruleV ns)).any (· == none) = false → ∃ xs, turnedV rs ns = some xs ∧ (rs.map (ruleV ns)).map cellD = xs.map fun (n : Nat) => PyData.int (n : Int)) := by
  induction rs with
  | nil => exact ⟨fun h => by simp at h, fun _ => ⟨[], rfl, rfl⟩⟩
  | cons r rs ih =>
    rw [List.map_cons, List.any_cons]
    cases hr : ruleV ns r with
    | none =>
      refine ⟨fun _ => by simp [turnedV, hr], fun h => by simp at h⟩
    | some n =>
      refine ⟨fun h => ?_, fun h => ?_⟩
      · have h' : (rs.map (ruleV ns)).any (· == none) = true := by simpa using h
        simp [turnedV, hr, ih.1 h']
      · have h' : (rs.map (ruleV ns)).any (· == none) = false := by simpa using h
        obtain ⟨xs, e1, e2⟩ := ih.2 h'
        exact ⟨n :: xs, by simp [turnedV, hr, e1], by simp only [List.map_cons]; rw [e2]; rfl⟩
theorem is_ne (c : Option Nat) : isNone (cellD c) = c.isNone := by cases c <;> rfl
theorem turnedV_len : ∀ (rs : List Rule) (ns xs : List Nat), turnedV rs ns = some xs → xs.length = rs.length
  | [], ns, xs, h => by simp [turnedV] at h; subst h; rfl
  | r :: rs, ns, xs, h => by
    rw [turnedV] at h
    split at h
    · next n ys h1 h2 =>
      cases h
      rw [List.length_cons, List.length_cons, turnedV_len rs ns ys h2]
    · cases h
end Law
namespace Law
open PySem Dv
theorem turned_ok {fu n : Nat} {p q : Prog} {rs : List Rule} {ns : List Nat} (hrs : ∀ r ∈ rs, RuleOk p q r) (hl : rs.length ≤ 100) (hn : NumsOk p ns) :
    run tab fu (n + 1) "turned" [rulesD rs, numsD ns] = some (.ok .shr (optD (turnedV rs ns))) := by
  rw [run_turned]
  obtain ⟨st', el, k3, est⟩ := forGo_lst (f := fun d st => evSs (run tab fu n) fu b_turned_0 (List.set st 3 (some (false, d))))
    (fun j st => ∃ (k3 : Option (Bool × D)), st = [some (false, rulesD rs), some (false, numsD ns), some (true, .list ((rs.take j).map fun r => cellD (ruleV ns r))), k3]) (rs.map Rule.d)
    [some (false, rulesD rs), some (false, numsD ns), some (true, .list []), none] (by
      rintro j x st hx ⟨k3, rfl⟩
      have hj : j < rs.length := by have := (List.getElem?_eq_some_iff.mp hx).1; simpa using this
      have hx' : x = (rs[j]).d := by
        have := (List.getElem?_eq_some_iff.mp hx).2
        simpa using this.symm
      have hr := hrs _ (List.getElem_mem hj)
      have e2 : (rs.take (j + 1)).map (fun r => cellD (ruleV ns r)) = (rs.take j).map (fun r => cellD (ruleV ns r)) ++ [cellD (ruleV ns rs[j])] := by
        rw [← List.map_singleton (f := fun r => cellD (ruleV ns r)), ← List.map_append, List.take_append_getElem hj]
      have hl2 : min j rs.length < 100000 := by omega
      refine ⟨_, ?_, some (false, x), rfl⟩
      rw [e2]
      subst hx'
      generalize hrr : rs[j] = r at hr ⊢
      unfold b_turned_0
      cases r with
      | is c =>
        simp only [runD, Dv.start, evSs_nil, evSs_cons, evS, evE, evL, evB, evAnd, evOr, evO, onOwn, guardO, setAll, thenS_nx, thenS_rt, thenS_ex, onV_ok, onV_ex, onB_ok, onB_ex, bindV_ok, bindV_ex, boolV_ok, bindA_ok, consA_ok, optI_none, optI_some, outcome_nx, outcome_shr, outcome_frs, outcome_ex, setV_shr, setV_frs, binD_add, binD_addT, binD_addL, binD_sub, binD_mulr, binD_mull, binD_fdiv', binD_mod', cmpD_lt, cmpD_le, cmpD_gt, cmpD_ge, cmpD_eqi, cmpD_nei, cmpD_is, cmpD_isn, cmpD_memL, cmpD_nmemL, cmpD_memT, cmpD_nmemT, isN_none, isN_int, isN_tup, isN_lst, isN_bool, isN_str, flat_int, flat_str, flat_none, flat_bool, fnD_lenL, fnD_lenT, fnD_lenS, fnD_intB, fnD_str, fnD_tupL, fnD_tupT, fnD_lstL, fnD_lstT, fnD_all, idxD_L, idxD_T, idxD_S, slcD_L, slcD_T, itemsD_L, itemsD_T, asD_shr, asD_frs, asB_ok, okCall_t, noBrw_nil, noBrw_shr, noBrw_frs, tests_nil, tests_one, at0, at1, at2, lim_eq, List.set_cons_zero, List.set_cons_succ, List.getElem?_cons_zero, List.getElem?_cons_succ, List.length_cons, List.length_nil, List.map_cons, List.map_nil, Option.map_some, Option.map_none, if_true, if_false, ite_true, ite_false, reduceIte, reduceCtorEq, decide_true, decide_false, Nat.reduceAdd, Nat.reduceSub, Nat.reduceEqDiff, Int.reduceNeg, Int.reduceLT, Int.reduceLE, Bool.not_true, Bool.not_false, Nat.reduceLeDiff, and_self, true_and, and_true, Rule.d, cmpD_eqs (x := "is") (y := "is") (by decide +kernel) (by decide +kernel), beq_self_eq_true, ruleV, List.length_map, List.length_take, hl2, numsD_eq]
      | «by» b cs =>
        obtain ⟨m, ea, eb⟩ := by_at hr hn
        have hne : (("by" : Str) == ("is" : Str)) = false := by decide +kernel
        simp only [runD, Dv.start, evSs_nil, evSs_cons, evS, evE, evL, evB, evAnd, evOr, evO, onOwn, guardO, setAll, thenS_nx, thenS_rt, thenS_ex, onV_ok, onV_ex, onB_ok, onB_ex, bindV_ok, bindV_ex, boolV_ok, bindA_ok, consA_ok, optI_none, optI_some, outcome_nx, outcome_shr, outcome_frs, outcome_ex, setV_shr, setV_frs, binD_add, binD_addT, binD_addL, binD_sub, binD_mulr, binD_mull, binD_fdiv', binD_mod', cmpD_lt, cmpD_le, cmpD_gt, cmpD_ge, cmpD_eqi, cmpD_nei, cmpD_is, cmpD_isn, cmpD_memL, cmpD_nmemL, cmpD_memT, cmpD_nmemT, isN_none, isN_int, isN_tup, isN_lst, isN_bool, isN_str, flat_int, flat_str, flat_none, flat_bool, fnD_lenL, fnD_lenT, fnD_lenS, fnD_intB, fnD_str, fnD_tupL, fnD_tupT, fnD_lstL, fnD_lstT, fnD_all, idxD_L, idxD_T, idxD_S, slcD_L, slcD_T, itemsD_L, itemsD_T, asD_shr, asD_frs, asB_ok, okCall_t, noBrw_nil, noBrw_shr, noBrw_frs, tests_nil, tests_one, at0, at1, at2, lim_eq, List.set_cons_zero, List.set_cons_succ, List.getElem?_cons_zero, List.getElem?_cons_succ, List.length_cons, List.length_nil, List.map_cons, List.map_nil, Option.map_some, Option.map_none, if_true, if_false, ite_true, ite_false, reduceIte, reduceCtorEq, decide_true, decide_false, Nat.reduceAdd, Nat.reduceSub, Nat.reduceEqDiff, Int.reduceNeg, Int.reduceLT, Int.reduceLE, Bool.not_true, Bool.not_false, Nat.reduceLeDiff, and_self, true_and, and_true, Rule.d, cmpD_eqs (x := "by") (y := "is") (by decide +kernel) (by decide +kernel), hne, Bool.false_eq_true, List.length_map, List.length_take, hl2, numsD_eq, ea, eb]) ⟨none, rfl⟩
  subst est
  rw [List.length_map, List.take_length] at el
  have hsh : SeqAt.shaped (.list ((rs.map fun r => cellD (ruleV ns r)))) = true := (fine_lst (n := 1) fun d hd => by
    obtain ⟨r, _, rfl⟩ := List.mem_map.mp hd
    exact cellD_fine _ 1).shaped (by decide)
  have han : (((rs.map fun r => cellD (ruleV ns r))).any fun z => PyData.eqv z .none) = (rs.map (ruleV ns)).any (· == none) := by
    rw [← any_none, List.map_map]; rfl
  refine congrArg outcome (?_ : _ = some (.rt .shr _))
  unfold d_turned
  rw [show Dv.start _ _ = [some (false, rulesD rs), some (false, numsD ns), none, none] from rfl]
  refine (seq (by simp only [runD, Dv.start, evSs_nil, evSs_cons, evS, evE, evL, evB, evAnd, evOr, evO, onOwn, guardO, setAll, thenS_nx, thenS_rt, thenS_ex, onV_ok, onV_ex, onB_ok, onB_ex, bindV_ok, bindV_ex, boolV_ok, bindA_ok, consA_ok, optI_none, optI_some, outcome_nx, outcome_shr, outcome_frs, outcome_ex, setV_shr, setV_frs, binD_add, binD_addT, binD_addL, binD_sub, binD_mulr, binD_mull, binD_fdiv', binD_mod', cmpD_lt, cmpD_le, cmpD_gt, cmpD_ge, cmpD_eqi, cmpD_nei, cmpD_is, cmpD_isn, cmpD_memL, cmpD_nmemL, cmpD_memT, cmpD_nmemT, isN_none, isN_int, isN_tup, isN_lst, isN_bool, isN_str, flat_int, flat_str, flat_none, flat_bool, fnD_lenL, fnD_lenT, fnD_lenS, fnD_intB, fnD_str, fnD_tupL, fnD_tupT, fnD_lstL, fnD_lstT, fnD_all, idxD_L, idxD_T, idxD_S, slcD_L, slcD_T, itemsD_L, itemsD_T, asD_shr, asD_frs, asB_ok, okCall_t, noBrw_nil, noBrw_shr, noBrw_frs, tests_nil, tests_one, at0, at1, at2, lim_eq, List.set_cons_zero, List.set_cons_succ, List.getElem?_cons_zero, List.getElem?_cons_succ, List.length_cons, List.length_nil, List.map_cons, List.map_nil, Option.map_some, Option.map_none, if_true, if_false, ite_true, ite_false, reduceIte, reduceCtorEq, decide_true, decide_false, Nat.reduceAdd, Nat.reduceSub, Nat.reduceEqDiff, Int.reduceNeg, Int.reduceLT, Int.reduceLE, Bool.not_true, Bool.not_false, Nat.reduceLeDiff, and_self, true_and, and_true, Nat.zero_le]; rfl)).trans ?_
  refine (seq ((for_ofT (xs := rs.map Rule.d) ?_).trans el)).trans ?_
  · simp only [runD, Dv.start, evSs_nil, evSs_cons, evS, evE, evL, evB, evAnd, evOr, evO, onOwn, guardO, setAll, thenS_nx, thenS_rt, thenS_ex, onV_ok, onV_ex, onB_ok, onB_ex, bindV_ok, bindV_ex, boolV_ok, bindA_ok, consA_ok, optI_none, optI_some, outcome_nx, outcome_shr, outcome_frs, outcome_ex, setV_shr, setV_frs, binD_add, binD_addT, binD_addL, binD_sub, binD_mulr, binD_mull, binD_fdiv', binD_mod', cmpD_lt, cmpD_le, cmpD_gt, cmpD_ge, cmpD_eqi, cmpD_nei, cmpD_is, cmpD_isn, cmpD_memL, cmpD_nmemL, cmpD_memT, cmpD_nmemT, isN_none, isN_int, isN_tup, isN_lst, isN_bool, isN_str, flat_int, flat_str, flat_none, flat_bool, fnD_lenL, fnD_lenT, fnD_lenS, fnD_intB, fnD_str, fnD_tupL, fnD_tupT, fnD_lstL, fnD_lstT, fnD_all, idxD_L, idxD_T, idxD_S, slcD_L, slcD_T, itemsD_L, itemsD_T, asD_shr, asD_frs, asB_ok, okCall_t, noBrw_nil, noBrw_shr, noBrw_frs, tests_nil, tests_one, at0, at1, at2, lim_eq, List.set_cons_zero, List.set_cons_succ, List.getElem?_cons_zero, List.getElem?_cons_succ, List.length_cons, List.length_nil, List.map_cons, List.map_nil, Option.map_some, Option.map_none, if_true, if_false, ite_true, ite_false, reduceIte, reduceCtorEq, decide_true, decide_false, Nat.reduceAdd, Nat.reduceSub, Nat.reduceEqDiff, Int.reduceNeg, Int.reduceLT, Int.reduceLE, Bool.not_true, Bool.not_false, Nat.reduceLeDiff, and_self, true_and, and_true, rulesD]
  cases ht : (rs.map (ruleV ns)).any (· == none) with
  | true =>
    rw [(turnedV_any rs ns).1 ht]
    refine (seq_rt (by simp only [runD, Dv.start, evSs_nil, evSs_cons, evS, evE, evL, evB, evAnd, evOr, evO, onOwn, guardO, setAll, thenS_nx, thenS_rt, thenS_ex, onV_ok, onV_ex, onB_ok, onB_ex, bindV_ok, bindV_ex, boolV_ok, bindA_ok, consA_ok, optI_none, optI_some, outcome_nx, outcome_shr, outcome_frs, outcome_ex, setV_shr, setV_frs, binD_add, binD_addT, binD_addL, binD_sub, binD_mulr, binD_mull, binD_fdiv', binD_mod', cmpD_lt, cmpD_le, cmpD_gt, cmpD_ge, cmpD_eqi, cmpD_nei, cmpD_is, cmpD_isn, cmpD_memL, cmpD_nmemL, cmpD_memT, cmpD_nmemT, isN_none, isN_int, isN_tup, isN_lst, isN_bool, isN_str, flat_int, flat_str, flat_none, flat_bool, fnD_lenL, fnD_lenT, fnD_lenS, fnD_intB, fnD_str, fnD_tupL, fnD_tupT, fnD_lstL, fnD_lstT, fnD_all, idxD_L, idxD_T, idxD_S, slcD_L, slcD_T, itemsD_L, itemsD_T, asD_shr, asD_frs, asB_ok, okCall_t, noBrw_nil, noBrw_shr, noBrw_frs, tests_nil, tests_one, at0, at1, at2, lim_eq, List.set_cons_zero, List.set_cons_succ, List.getElem?_cons_zero, List.getElem?_cons_succ, List.length_cons, List.length_nil, List.map_cons, List.map_nil, Option.map_some, Option.map_none, if_true, if_false, ite_true, ite_false, reduceIte, reduceCtorEq, decide_true, decide_false, Nat.reduceAdd, Nat.reduceSub, Nat.reduceEqDiff, Int.reduceNeg, Int.reduceLT, Int.reduceLE, Bool.not_true, Bool.not_false, Nat.reduceLeDiff, and_self, true_and, and_true, shaped_none, hsh, han, ht]; rfl)).trans rfl
  | false =>
    obtain ⟨xs, ex, em⟩ := (turnedV_any rs ns).2 ht
    rw [ex]
    refine (seq (by simp only [runD, Dv.start, evSs_nil, evSs_cons, evS, evE, evL, evB, evAnd, evOr, evO, onOwn, guardO, setAll, thenS_nx, thenS_rt, thenS_ex, onV_ok, onV_ex, onB_ok, onB_ex, bindV_ok, bindV_ex, boolV_ok, bindA_ok, consA_ok, optI_none, optI_some, outcome_nx, outcome_shr, outcome_frs, outcome_ex, setV_shr, setV_frs, binD_add, binD_addT, binD_addL, binD_sub, binD_mulr, binD_mull, binD_fdiv', binD_mod', cmpD_lt, cmpD_le, cmpD_gt, cmpD_ge, cmpD_eqi, cmpD_nei, cmpD_is, cmpD_isn, cmpD_memL, cmpD_nmemL, cmpD_memT, cmpD_nmemT, isN_none, isN_int, isN_tup, isN_lst, isN_bool, isN_str, flat_int, flat_str, flat_none, flat_bool, fnD_lenL, fnD_lenT, fnD_lenS, fnD_intB, fnD_str, fnD_tupL, fnD_tupT, fnD_lstL, fnD_lstT, fnD_all, idxD_L, idxD_T, idxD_S, slcD_L, slcD_T, itemsD_L, itemsD_T, asD_shr, asD_frs, asB_ok, okCall_t, noBrw_nil, noBrw_shr, noBrw_frs, tests_nil, tests_one, at0, at1, at2, lim_eq, List.set_cons_zero, List.set_cons_succ, List.getElem?_cons_zero, List.getElem?_cons_succ, List.length_cons, List.length_nil, List.map_cons, List.map_nil, Option.map_some, Option.map_none, if_true, if_false, ite_true, ite_false, reduceIte, reduceCtorEq, decide_true, decide_false, Nat.reduceAdd, Nat.reduceSub, Nat.reduceEqDiff, Int.reduceNeg, Int.reduceLT, Int.reduceLE, Bool.not_true, Bool.not_false, Nat.reduceLeDiff, and_self, true_and, and_true, shaped_none, hsh, han, ht, Bool.false_eq_true]; rfl)).trans ?_
    refine (seq_rt (by simp only [runD, Dv.start, evSs_nil, evSs_cons, evS, evE, evL, evB, evAnd, evOr, evO, onOwn, guardO, setAll, thenS_nx, thenS_rt, thenS_ex, onV_ok, onV_ex, onB_ok, onB_ex, bindV_ok, bindV_ex, boolV_ok, bindA_ok, consA_ok, optI_none, optI_some, outcome_nx, outcome_shr, outcome_frs, outcome_ex, setV_shr, setV_frs, binD_add, binD_addT, binD_addL, binD_sub, binD_mulr, binD_mull, binD_fdiv', binD_mod', cmpD_lt, cmpD_le, cmpD_gt, cmpD_ge, cmpD_eqi, cmpD_nei, cmpD_is, cmpD_isn, cmpD_memL, cmpD_nmemL, cmpD_memT, cmpD_nmemT, isN_none, isN_int, isN_tup, isN_lst, isN_bool, isN_str, flat_int, flat_str, flat_none, flat_bool, fnD_lenL, fnD_lenT, fnD_lenS, fnD_intB, fnD_str, fnD_tupL, fnD_tupT, fnD_lstL, fnD_lstT, fnD_all, idxD_L, idxD_T, idxD_S, slcD_L, slcD_T, itemsD_L, itemsD_T, asD_shr, asD_frs, asB_ok, okCall_t, noBrw_nil, noBrw_shr, noBrw_frs, tests_nil, tests_one, at0, at1, at2, lim_eq, List.set_cons_zero, List.set_cons_succ, List.getElem?_cons_zero, List.getElem?_cons_succ, List.length_cons, List.length_nil, List.map_cons, List.map_nil, Option.map_some, Option.map_none, if_true, if_false, ite_true, ite_false, reduceIte, reduceCtorEq, decide_true, decide_false, Nat.reduceAdd, Nat.reduceSub, Nat.reduceEqDiff, Int.reduceNeg, Int.reduceLT, Int.reduceLE, Bool.not_true, Bool.not_false, Nat.reduceLeDiff, and_self, true_and, and_true]; rfl)).trans ?_
    rw [show (rs.map fun r => cellD (ruleV ns r)) = (rs.map (ruleV ns)).map cellD by rw [List.map_map]; rfl, em]
    rfl
end Law
namespace Law
open PySem Dv
theorem law_turned_ok {fu n : Nat} {p q : Prog} {rs : List Rule} {ns : List Nat} (hrs : ∀ r ∈ rs, RuleOk p q r) (hl : rs.length ≤ 100) (hn : NumsOk p ns) :
    run tab fu (n + 1) "_law_turned" [rulesD rs, numsD ns] = some (.ok .shr (optD (turnedV rs ns))) := by
  rw [run_law_turned]
  have loop : ∀ (ts : List Rule) (xs : List Nat) (k3 k4 : Option (Bool × D)), (∀ r ∈ ts, RuleOk p q r) → xs.length + ts.length ≤ 100 →
      (∃ k3' k4', ∃ ys, turnedV ts ns = some ys ∧ forGo (fun d st => evSs (run tab fu n) fu b_law_turned_0 (List.set st 3 (some (false, d)))) (ts.map Rule.d)
        [some (false, rulesD rs), some (false, numsD ns), some (true, .list (xs.map fun (n : Nat) => PyData.int (n : Int))), k3, k4] =
        some (.nx [some (false, rulesD rs), some (false, numsD ns), some (true, .list ((xs ++ ys).map fun (n : Nat) => PyData.int (n : Int))), k3', k4'])) ∨
      (turnedV ts ns = none ∧ forGo (fun d st => evSs (run tab fu n) fu b_law_turned_0 (List.set st 3 (some (false, d)))) (ts.map Rule.d)
        [some (false, rulesD rs), some (false, numsD ns), some (true, .list (xs.map fun (n : Nat) => PyData.int (n : Int))), k3, k4] = some (.rt .shr .none)) := by
    intro ts
    induction ts with
    | nil => intro xs k3 k4 _ _; exact .inl ⟨k3, k4, [], rfl, by rw [List.append_nil]; rfl⟩
    | cons r ts ih =>
      intro xs k3 k4 ho hz
      rw [List.length_cons] at hz
      have hz2 : xs.length < 100000 := by omega
      have hr := ho r (by simp)
      -- one turn
      have turn : evSs (run tab fu n) fu b_law_turned_0 (List.set [some (false, rulesD rs), some (false, numsD ns), some (true, .list (xs.map fun (n : Nat) => PyData.int (n : Int))), k3, k4] 3 (some (false, r.d))) =
          match ruleV ns r with
          | none => some (.rt .shr .none)
          | some m => some (.nx [some (false, rulesD rs), some (false, numsD ns), some (true, .list ((xs ++ [m]).map fun (n : Nat) => PyData.int (n : Int))), some (false, r.d), some (false, .int m)]) := by
        unfold b_law_turned_0
        cases r with
        | is c =>
          have hne : (("is" : Str) == ("by" : Str)) = false := by decide +kernel
          cases c with
          | none => simp only [runD, Dv.start, evSs_nil, evSs_cons, evS, evE, evL, evB, evAnd, evOr, evO, onOwn, guardO, setAll, thenS_nx, thenS_rt, thenS_ex, onV_ok, onV_ex, onB_ok, onB_ex, bindV_ok, bindV_ex, boolV_ok, bindA_ok, consA_ok, optI_none, optI_some, outcome_nx, outcome_shr, outcome_frs, outcome_ex, setV_shr, setV_frs, binD_add, binD_addT, binD_addL, binD_sub, binD_mulr, binD_mull, binD_fdiv', binD_mod', cmpD_lt, cmpD_le, cmpD_gt, cmpD_ge, cmpD_eqi, cmpD_nei, cmpD_is, cmpD_isn, cmpD_memL, cmpD_nmemL, cmpD_memT, cmpD_nmemT, isN_none, isN_int, isN_tup, isN_lst, isN_bool, isN_str, flat_int, flat_str, flat_none, flat_bool, fnD_lenL, fnD_lenT, fnD_lenS, fnD_intB, fnD_str, fnD_tupL, fnD_tupT, fnD_lstL, fnD_lstT, fnD_all, idxD_L, idxD_T, idxD_S, slcD_L, slcD_T, itemsD_L, itemsD_T, asD_shr, asD_frs, asB_ok, okCall_t, noBrw_nil, noBrw_shr, noBrw_frs, tests_nil, tests_one, at0, at1, at2, lim_eq, List.set_cons_zero, List.set_cons_succ, List.getElem?_cons_zero, List.getElem?_cons_succ, List.length_cons, List.length_nil, List.map_cons, List.map_nil, Option.map_some, Option.map_none, if_true, if_false, ite_true, ite_false, reduceIte, reduceCtorEq, decide_true, decide_false, Nat.reduceAdd, Nat.reduceSub, Nat.reduceEqDiff, Int.reduceNeg, Int.reduceLT, Int.reduceLE, Bool.not_true, Bool.not_false, Nat.reduceLeDiff, and_self, true_and, and_true, Rule.d, cmpD_eqs (x := "is") (y := "by") (by decide +kernel) (by decide +kernel), hne, Bool.false_eq_true, cellD, ruleV]
          | some m => simp only [runD, Dv.start, evSs_nil, evSs_cons, evS, evE, evL, evB, evAnd, evOr, evO, onOwn, guardO, setAll, thenS_nx, thenS_rt, thenS_ex, onV_ok, onV_ex, onB_ok, onB_ex, bindV_ok, bindV_ex, boolV_ok, bindA_ok, consA_ok, optI_none, optI_some, outcome_nx, outcome_shr, outcome_frs, outcome_ex, setV_shr, setV_frs, binD_add, binD_addT, binD_addL, binD_sub, binD_mulr, binD_mull, binD_fdiv', binD_mod', cmpD_lt, cmpD_le, cmpD_gt, cmpD_ge, cmpD_eqi, cmpD_nei, cmpD_is, cmpD_isn, cmpD_memL, cmpD_nmemL, cmpD_memT, cmpD_nmemT, isN_none, isN_int, isN_tup, isN_lst, isN_bool, isN_str, flat_int, flat_str, flat_none, flat_bool, fnD_lenL, fnD_lenT, fnD_lenS, fnD_intB, fnD_str, fnD_tupL, fnD_tupT, fnD_lstL, fnD_lstT, fnD_all, idxD_L, idxD_T, idxD_S, slcD_L, slcD_T, itemsD_L, itemsD_T, asD_shr, asD_frs, asB_ok, okCall_t, noBrw_nil, noBrw_shr, noBrw_frs, tests_nil, tests_one, at0, at1, at2, lim_eq, List.set_cons_zero, List.set_cons_succ, List.getElem?_cons_zero, List.getElem?_cons_succ, List.length_cons, List.length_nil, List.map_cons, List.map_nil, Option.map_some, Option.map_none, if_true, if_false, ite_true, ite_false, reduceIte, reduceCtorEq, decide_true, decide_false, Nat.reduceAdd, Nat.reduceSub, Nat.reduceEqDiff, Int.reduceNeg, Int.reduceLT, Int.reduceLE, Bool.not_true, Bool.not_false, Nat.reduceLeDiff, and_self, true_and, and_true, Rule.d, cmpD_eqs (x := "is") (y := "by") (by decide +kernel) (by decide +kernel), hne, Bool.false_eq_true, cellD, ruleV, List.length_map, hz2, List.map_append]
        | «by» b cs =>
          obtain ⟨m, ea, eb⟩ := by_at hr hn
          cases hv : ruleV ns (.by b cs) with
          | none =>
            rw [hv, cellD] at eb
            simp only [runD, Dv.start, evSs_nil, evSs_cons, evS, evE, evL, evB, evAnd, evOr, evO, onOwn, guardO, setAll, thenS_nx, thenS_rt, thenS_ex, onV_ok, onV_ex, onB_ok, onB_ex, bindV_ok, bindV_ex, boolV_ok, bindA_ok, consA_ok, optI_none, optI_some, outcome_nx, outcome_shr, outcome_frs, outcome_ex, setV_shr, setV_frs, binD_add, binD_addT, binD_addL, binD_sub, binD_mulr, binD_mull, binD_fdiv', binD_mod', cmpD_lt, cmpD_le, cmpD_gt, cmpD_ge, cmpD_eqi, cmpD_nei, cmpD_is, cmpD_isn, cmpD_memL, cmpD_nmemL, cmpD_memT, cmpD_nmemT, isN_none, isN_int, isN_tup, isN_lst, isN_bool, isN_str, flat_int, flat_str, flat_none, flat_bool, fnD_lenL, fnD_lenT, fnD_lenS, fnD_intB, fnD_str, fnD_tupL, fnD_tupT, fnD_lstL, fnD_lstT, fnD_all, idxD_L, idxD_T, idxD_S, slcD_L, slcD_T, itemsD_L, itemsD_T, asD_shr, asD_frs, asB_ok, okCall_t, noBrw_nil, noBrw_shr, noBrw_frs, tests_nil, tests_one, at0, at1, at2, lim_eq, List.set_cons_zero, List.set_cons_succ, List.getElem?_cons_zero, List.getElem?_cons_succ, List.length_cons, List.length_nil, List.map_cons, List.map_nil, Option.map_some, Option.map_none, if_true, if_false, ite_true, ite_false, reduceIte, reduceCtorEq, decide_true, decide_false, Nat.reduceAdd, Nat.reduceSub, Nat.reduceEqDiff, Int.reduceNeg, Int.reduceLT, Int.reduceLE, Bool.not_true, Bool.not_false, Nat.reduceLeDiff, and_self, true_and, and_true, Rule.d, cmpD_eqs (x := "by") (y := "by") (by decide +kernel) (by decide +kernel), beq_self_eq_true, numsD_eq, ea, eb]
          | some m2 =>
            rw [hv, cellD] at eb
            simp only [runD, Dv.start, evSs_nil, evSs_cons, evS, evE, evL, evB, evAnd, evOr, evO, onOwn, guardO, setAll, thenS_nx, thenS_rt, thenS_ex, onV_ok, onV_ex, onB_ok, onB_ex, bindV_ok, bindV_ex, boolV_ok, bindA_ok, consA_ok, optI_none, optI_some, outcome_nx, outcome_shr, outcome_frs, outcome_ex, setV_shr, setV_frs, binD_add, binD_addT, binD_addL, binD_sub, binD_mulr, binD_mull, binD_fdiv', binD_mod', cmpD_lt, cmpD_le, cmpD_gt, cmpD_ge, cmpD_eqi, cmpD_nei, cmpD_is, cmpD_isn, cmpD_memL, cmpD_nmemL, cmpD_memT, cmpD_nmemT, isN_none, isN_int, isN_tup, isN_lst, isN_bool, isN_str, flat_int, flat_str, flat_none, flat_bool, fnD_lenL, fnD_lenT, fnD_lenS, fnD_intB, fnD_str, fnD_tupL, fnD_tupT, fnD_lstL, fnD_lstT, fnD_all, idxD_L, idxD_T, idxD_S, slcD_L, slcD_T, itemsD_L, itemsD_T, asD_shr, asD_frs, asB_ok, okCall_t, noBrw_nil, noBrw_shr, noBrw_frs, tests_nil, tests_one, at0, at1, at2, lim_eq, List.set_cons_zero, List.set_cons_succ, List.getElem?_cons_zero, List.getElem?_cons_succ, List.length_cons, List.length_nil, List.map_cons, List.map_nil, Option.map_some, Option.map_none, if_true, if_false, ite_true, ite_false, reduceIte, reduceCtorEq, decide_true, decide_false, Nat.reduceAdd, Nat.reduceSub, Nat.reduceEqDiff, Int.reduceNeg, Int.reduceLT, Int.reduceLE, Bool.not_true, Bool.not_false, Nat.reduceLeDiff, and_self, true_and, and_true, Rule.d, cmpD_eqs (x := "by") (y := "by") (by decide +kernel) (by decide +kernel), beq_self_eq_true, numsD_eq, ea, eb, Bool.false_eq_true, List.length_map, hz2, List.map_append]
      rw [List.map_cons, forGo, turn]
      cases hv : ruleV ns r with
      | none => exact .inr ⟨by simp [turnedV, hv], rfl⟩
      | some m =>
        rcases ih (xs ++ [m]) (some (false, r.d)) (some (false, .int m)) (fun x hx => ho x (by simp [hx])) (by rw [List.length_append, List.length_singleton]; omega) with ⟨a, b, ys, e1, e2⟩ | ⟨e1, e2⟩
        · refine .inl ⟨a, b, m :: ys, by simp [turnedV, hv, e1], ?_⟩
          show forGo _ _ _ = _
          rw [e2, List.append_assoc]; rfl
        · exact .inr ⟨by simp [turnedV, hv, e1], e2⟩
  refine congrArg outcome (?_ : _ = some (.rt .shr _))
  unfold d_law_turned
  rw [show Dv.start _ _ = [some (false, rulesD rs), some (false, numsD ns), none, none, none] from rfl]
  refine (seq (by simp only [runD, Dv.start, evSs_nil, evSs_cons, evS, evE, evL, evB, evAnd, evOr, evO, onOwn, guardO, setAll, thenS_nx, thenS_rt, thenS_ex, onV_ok, onV_ex, onB_ok, onB_ex, bindV_ok, bindV_ex, boolV_ok, bindA_ok, consA_ok, optI_none, optI_some, outcome_nx, outcome_shr, outcome_frs, outcome_ex, setV_shr, setV_frs, binD_add, binD_addT, binD_addL, binD_sub, binD_mulr, binD_mull, binD_fdiv', binD_mod', cmpD_lt, cmpD_le, cmpD_gt, cmpD_ge, cmpD_eqi, cmpD_nei, cmpD_is, cmpD_isn, cmpD_memL, cmpD_nmemL, cmpD_memT, cmpD_nmemT, isN_none, isN_int, isN_tup, isN_lst, isN_bool, isN_str, flat_int, flat_str, flat_none, flat_bool, fnD_lenL, fnD_lenT, fnD_lenS, fnD_intB, fnD_str, fnD_tupL, fnD_tupT, fnD_lstL, fnD_lstT, fnD_all, idxD_L, idxD_T, idxD_S, slcD_L, slcD_T, itemsD_L, itemsD_T, asD_shr, asD_frs, asB_ok, okCall_t, noBrw_nil, noBrw_shr, noBrw_frs, tests_nil, tests_one, at0, at1, at2, lim_eq, List.set_cons_zero, List.set_cons_succ, List.getElem?_cons_zero, List.getElem?_cons_succ, List.length_cons, List.length_nil, List.map_cons, List.map_nil, Option.map_some, Option.map_none, if_true, if_false, ite_true, ite_false, reduceIte, reduceCtorEq, decide_true, decide_false, Nat.reduceAdd, Nat.reduceSub, Nat.reduceEqDiff, Int.reduceNeg, Int.reduceLT, Int.reduceLE, Bool.not_true, Bool.not_false, Nat.reduceLeDiff, and_self, true_and, and_true, Nat.zero_le]; rfl)).trans ?_
  rcases loop rs [] none none hrs (by simpa using hl) with ⟨a, b, ys, e1, e2⟩ | ⟨e1, e2⟩
  · rw [e1]
    refine (seq ((for_ofT (xs := rs.map Rule.d) ?_).trans e2)).trans ?_
    · simp only [runD, Dv.start, evSs_nil, evSs_cons, evS, evE, evL, evB, evAnd, evOr, evO, onOwn, guardO, setAll, thenS_nx, thenS_rt, thenS_ex, onV_ok, onV_ex, onB_ok, onB_ex, bindV_ok, bindV_ex, boolV_ok, bindA_ok, consA_ok, optI_none, optI_some, outcome_nx, outcome_shr, outcome_frs, outcome_ex, setV_shr, setV_frs, binD_add, binD_addT, binD_addL, binD_sub, binD_mulr, binD_mull, binD_fdiv', binD_mod', cmpD_lt, cmpD_le, cmpD_gt, cmpD_ge, cmpD_eqi, cmpD_nei, cmpD_is, cmpD_isn, cmpD_memL, cmpD_nmemL, cmpD_memT, cmpD_nmemT, isN_none, isN_int, isN_tup, isN_lst, isN_bool, isN_str, flat_int, flat_str, flat_none, flat_bool, fnD_lenL, fnD_lenT, fnD_lenS, fnD_intB, fnD_str, fnD_tupL, fnD_tupT, fnD_lstL, fnD_lstT, fnD_all, idxD_L, idxD_T, idxD_S, slcD_L, slcD_T, itemsD_L, itemsD_T, asD_shr, asD_frs, asB_ok, okCall_t, noBrw_nil, noBrw_shr, noBrw_frs, tests_nil, tests_one, at0, at1, at2, lim_eq, List.set_cons_zero, List.set_cons_succ, List.getElem?_cons_zero, List.getElem?_cons_succ, List.length_cons, List.length_nil, List.map_cons, List.map_nil, Option.map_some, Option.map_none, if_true, if_false, ite_true, ite_false, reduceIte, reduceCtorEq, decide_true, decide_false, Nat.reduceAdd, Nat.reduceSub, Nat.reduceEqDiff, Int.reduceNeg, Int.reduceLT, Int.reduceLE, Bool.not_true, Bool.not_false, Nat.reduceLeDiff, and_self, true_and, and_true, rulesD]
    refine (seq_rt (by simp only [runD, Dv.start, evSs_nil, evSs_cons, evS, evE, evL, evB, evAnd, evOr, evO, onOwn, guardO, setAll, thenS_nx, thenS_rt, thenS_ex, onV_ok, onV_ex, onB_ok, onB_ex, bindV_ok, bindV_ex, boolV_ok, bindA_ok, consA_ok, optI_none, optI_some, outcome_nx, outcome_shr, outcome_frs, outcome_ex, setV_shr, setV_frs, binD_add, binD_addT, binD_addL, binD_sub, binD_mulr, binD_mull, binD_fdiv', binD_mod', cmpD_lt, cmpD_le, cmpD_gt, cmpD_ge, cmpD_eqi, cmpD_nei, cmpD_is, cmpD_isn, cmpD_memL, cmpD_nmemL, cmpD_memT, cmpD_nmemT, isN_none, isN_int, isN_tup, isN_lst, isN_bool, isN_str, flat_int, flat_str, flat_none, flat_bool, fnD_lenL, fnD_lenT, fnD_lenS, fnD_intB, fnD_str, fnD_tupL, fnD_tupT, fnD_lstL, fnD_lstT, fnD_all, idxD_L, idxD_T, idxD_S, slcD_L, slcD_T, itemsD_L, itemsD_T, asD_shr, asD_frs, asB_ok, okCall_t, noBrw_nil, noBrw_shr, noBrw_frs, tests_nil, tests_one, at0, at1, at2, lim_eq, List.set_cons_zero, List.set_cons_succ, List.getElem?_cons_zero, List.getElem?_cons_succ, List.length_cons, List.length_nil, List.map_cons, List.map_nil, Option.map_some, Option.map_none, if_true, if_false, ite_true, ite_false, reduceIte, reduceCtorEq, decide_true, decide_false, Nat.reduceAdd, Nat.reduceSub, Nat.reduceEqDiff, Int.reduceNeg, Int.reduceLT, Int.reduceLE, Bool.not_true, Bool.not_false, Nat.reduceLeDiff, and_self, true_and, and_true]; rfl)).trans rfl
  · rw [e1]
    refine (seq_rt ((for_ofT (xs := rs.map Rule.d) ?_).trans e2)).trans rfl
    simp only [runD, Dv.start, evSs_nil, evSs_cons, evS, evE, evL, evB, evAnd, evOr, evO, onOwn, guardO, setAll, thenS_nx, thenS_rt, thenS_ex, onV_ok, onV_ex, onB_ok, onB_ex, bindV_ok, bindV_ex, boolV_ok, bindA_ok, consA_ok, optI_none, optI_some, outcome_nx, outcome_shr, outcome_frs, outcome_ex, setV_shr, setV_frs, binD_add, binD_addT, binD_addL, binD_sub, binD_mulr, binD_mull, binD_fdiv', binD_mod', cmpD_lt, cmpD_le, cmpD_gt, cmpD_ge, cmpD_eqi, cmpD_nei, cmpD_is, cmpD_isn, cmpD_memL, cmpD_nmemL, cmpD_memT, cmpD_nmemT, isN_none, isN_int, isN_tup, isN_lst, isN_bool, isN_str, flat_int, flat_str, flat_none, flat_bool, fnD_lenL, fnD_lenT, fnD_lenS, fnD_intB, fnD_str, fnD_tupL, fnD_tupT, fnD_lstL, fnD_lstT, fnD_all, idxD_L, idxD_T, idxD_S, slcD_L, slcD_T, itemsD_L, itemsD_T, asD_shr, asD_frs, asB_ok, okCall_t, noBrw_nil, noBrw_shr, noBrw_frs, tests_nil, tests_one, at0, at1, at2, lim_eq, List.set_cons_zero, List.set_cons_succ, List.getElem?_cons_zero, List.getElem?_cons_succ, List.length_cons, List.length_nil, List.map_cons, List.map_nil, Option.map_some, Option.map_none, if_true, if_false, ite_true, ite_false, reduceIte, reduceCtorEq, decide_true, decide_false, Nat.reduceAdd, Nat.reduceSub, Nat.reduceEqDiff, Int.reduceNeg, Int.reduceLT, Int.reduceLE, Bool.not_true, Bool.not_false, Nat.reduceLeDiff, and_self, true_and, and_true, rulesD]
end Law
namespace Law
open PySem Dv
/-! ### what a change meets, told by parts -/
abbrev Stt := Nat × List Nat
theorem step_ok {p : Prog} (hp : p.Ok) {s : Stt} (hs : StateOk p s) : ∀ t, (stepV p s).1 = some t → StateOk p t := by
  obtain ⟨i, ns⟩ := s
  obtain ⟨hi, hl, hn⟩ := hs
  have hi' : i < p.rows.length := hi
  have hr := hp.row _ (row_mem hi')
  have nxt : ¬ isEnd (p.rows.getD i .stop) → i + 1 < p.rows.length := by
    intro h
    by_cases e : i + 1 < p.rows.length
    · exact e
    · exfalso
      refine h (hp.last _ ?_)
      rw [List.getLast?_eq_getElem?, show p.rows.length - 1 = i by omega, List.getElem?_eq_getElem hi', List.getD_eq_getElem?_getD, List.getElem?_eq_getElem hi']
      rfl
  have gt : ∀ b, b < p.boxes → ns.getD b 0 ≤ p.most := by
    intro b hb
    have hb' : b < ns.length := by rw [show ns.length = p.boxes from hl]; exact hb
    rw [List.getD_eq_getElem?_getD, List.getElem?_eq_getElem hb']
    exact hn _ (List.getElem_mem hb')
  have st : ∀ (b v : Nat), v ≤ p.most → NumsOk p (ns.set b v) := fun b v hv => ⟨by rw [List.length_set]; exact hl, fun x hx => by
    rcases List.mem_or_eq_of_mem_set hx with h | h
    · exact hn x h
    · subst h; exact hv⟩
  intro t
  unfold stepV
  simp only
  generalize p.rows.getD i .stop = r at hr nxt
  intro ht
  cases r with
  | put b n => cases ht; exact ⟨nxt id, st b n hr.2⟩
  | more b => cases ht; exact ⟨nxt id, st b _ (Nat.le_of_lt_succ (Nat.mod_lt _ (by omega)))⟩
  | copy b c => cases ht; exact ⟨nxt id, st b _ (gt c hr.2)⟩
  | tell b => cases ht; exact ⟨nxt id, hl, hn⟩
  | go x => cases ht; exact ⟨hr, hl, hn⟩
  | ask b x =>
    cases ht
    refine ⟨?_, hl, hn⟩
    show (if ns.getD b 0 = 0 then x else i + 1) < _
    split
    · exact hr.2
    · exact nxt id
  | stop => cases ht
/-! the place in a list of states -/
def fidx : List Stt → Stt → Option Nat
  | [], _ => none
  | c :: cs, s => if c = s then some 0 else (fidx cs s).map (· + 1)
theorem fidx_none : ∀ {cs : List Stt} {s : Stt}, fidx cs s = none → s ∉ cs
  | [], _, _ => by simp
  | c :: cs, s, h => by
    rw [fidx] at h
    split at h
    · cases h
    · rename_i hne
      rw [Option.map_eq_none_iff] at h
      intro hm
      rcases List.mem_cons.mp hm with rfl | hm
      · exact hne rfl
      · exact fidx_none h hm
theorem fidx_lt : ∀ {cs : List Stt} {s : Stt} {k : Nat}, fidx cs s = some k → k < cs.length
  | [], _, _, h => by simp [fidx] at h
  | c :: cs, s, k, h => by
    rw [fidx] at h
    split at h
    · cases h; simp
    · rw [Option.map_eq_some_iff] at h
      obtain ⟨j, hj, rfl⟩ := h
      have := fidx_lt hj
      rw [List.length_cons]; omega
/-! the dict of them -/
def sK (s : Stt) : NestedKey := .tup [.num s.1, .tup (s.2.map fun (n : Nat) => .num (n : Int))]
theorem kOfs_nums (ns : List Nat) : kOfs (ns.map fun (n : Nat) => PyData.int (n : Int)) = some (ns.map fun (n : Nat) => .num (n : Int)) := by
  induction ns with
  | nil => rfl
  | cons a l ih => rw [List.map_cons, kOfs, kOf, ih]; rfl
theorem kOf_st (s : Stt) : kOf (stD s) = some (sK s) := by
  unfold stD
  rw [kOf, kOfs, kOf, kOfs, numsD_eq, kOf, kOfs_nums, kOfs]
  rfl
theorem nums_depth (ns : List Nat) : NestedKey.depthAll (ns.map fun (n : Nat) => .num (n : Int)) = 0 := by
  induction ns with
  | nil => rfl
  | cons a l ih => rw [List.map_cons, NestedKey.depthAll, ih, NestedKey.depth]; rfl
theorem sK_depth (s : Stt) : (sK s).depth = 2 := by
  unfold sK
  rw [NestedKey.depth, NestedKey.depthAll, NestedKey.depthAll, NestedKey.depthAll, NestedKey.depth, NestedKey.depth, nums_depth]
  rfl
theorem tkey_st (s : Stt) : tkey [.int s.1, numsD s.2] = some (sK s) := by
  have e : kOfs [.int s.1, numsD s.2] = some [.num s.1, .tup (s.2.map fun (n : Nat) => .num (n : Int))] := by
    rw [kOfs, kOf, kOfs, numsD_eq, kOf, kOfs_nums, kOfs]
    rfl
  unfold tkey
  rw [e]
  simp only
  have := sK_depth s
  unfold sK at this
  rw [this, if_pos (by decide)]
  rfl
theorem nums_inj : ∀ {a b : List Nat}, (a.map fun (n : Nat) => NestedKey.num (n : Int)) = b.map (fun (n : Nat) => NestedKey.num (n : Int)) → a = b
  | [], [], _ => rfl
  | [], _ :: _, h => by simp at h
  | _ :: _, [], h => by simp at h
  | x :: a, y :: b, h => by
    simp only [List.map_cons, List.cons.injEq, NestedKey.num.injEq] at h
    have := nums_inj h.2
    have h1 : x = y := by omega
    rw [h1, this]
theorem sK_inj {s t : Stt} (h : sK s = sK t) : s = t := by
  obtain ⟨i, a⟩ := s
  obtain ⟨j, b⟩ := t
  simp only [sK, NestedKey.tup.injEq, List.cons.injEq, NestedKey.num.injEq, and_true] at h
  obtain ⟨h1, h2⟩ := h
  rw [nums_inj h2, show i = j by omega]
def camF : Nat → List Stt → List (D × D)
  | _, [] => []
  | i, c :: cs => (stD c, .int (i : Int)) :: camF (i + 1) cs
def camD (cs : List Stt) : List (D × D) := camF 0 cs
theorem camF_len : ∀ (i : Nat) (cs : List Stt), (camF i cs).length = cs.length
  | _, [] => rfl
  | i, c :: cs => by rw [camF, List.length_cons, List.length_cons, camF_len]
theorem camD_len (cs : List Stt) : (camD cs).length = cs.length := camF_len 0 cs
theorem camF_get : ∀ (i : Nat) (cs : List Stt) (s : Stt), tget (camF i cs) (sK s) = (fidx cs s).map fun k => .int ((i + k : Nat) : Int)
  | _, [], _ => rfl
  | i, c :: cs, s => by
    by_cases h : c = s
    · subst h
      rw [camF, fidx, if_pos rfl]
      simp [tget, kOf_st]
    · have hne : ¬ (sK c = sK s) := fun e => h (sK_inj e)
      have e1 : tget ((stD c, .int (i : Int)) :: camF (i + 1) cs) (sK s) = tget (camF (i + 1) cs) (sK s) := by
        simp [tget, kOf_st, hne]
      rw [camF, e1, camF_get (i + 1) cs s, fidx, if_neg h, Option.map_map]
      congr 1
      funext k
      simp only [Function.comp_apply, PyData.int.injEq]
      omega
theorem camD_get (cs : List Stt) (s : Stt) : tget (camD cs) (sK s) = (fidx cs s).map fun k => .int ((k : Nat) : Int) := by
  have := camF_get 0 cs s
  simp only [Nat.zero_add] at this
  exact this
theorem camF_app : ∀ (i : Nat) (cs : List Stt) (s : Stt), camF i (cs ++ [s]) = camF i cs ++ [(stD s, .int ((i + cs.length : Nat) : Int))]
  | i, [], s => rfl
  | i, c :: cs, s => by
    rw [List.cons_append, camF, camF, camF_app (i + 1) cs s, List.cons_append, List.length_cons, show i + 1 + cs.length = i + (cs.length + 1) by omega]
theorem camD_put {cs : List Stt} {s : Stt} (h : fidx cs s = none) : tput (camD cs) (stD s) (sK s) (.int (cs.length : Int)) = camD (cs ++ [s]) := by
  unfold tput
  rw [camD_get, h]
  simp only [Option.map_none, Option.isSome_none]
  rw [if_neg Bool.false_ne_true]
  unfold camD
  rw [camF_app]
  simp
theorem tk_mem {r : List (D × D)} (s : Stt) : cmpD .mem (stD s) (tkD r) = some (tget r (sK s)).isSome := by
  show (match tkOf ((.bool true, .none) :: r), tkey [.int s.1, numsD s.2] with
    | some r, some k => some (tget r k).isSome
    | _, _ => none) = _
  rw [tkey_st]; rfl
theorem tk_nmem {r : List (D × D)} (s : Stt) : cmpD .nmem (stD s) (tkD r) = some (!(tget r (sK s)).isSome) := by
  show (match tkOf ((.bool true, .none) :: r), tkey [.int s.1, numsD s.2] with
    | some r, some k => some (!(tget r k).isSome)
    | _, _ => none) = _
  rw [tkey_st]; rfl
theorem tk_idx {r : List (D × D)} (s : Stt) : idxD (tkD r) (stD s) = tget r (sK s) := by
  show (match tkOf ((.bool true, .none) :: r), tkey [.int s.1, numsD s.2] with
    | some r, some k => tget r k
    | _, _ => none) = _
  rw [tkey_st]; rfl
theorem tk_len {r : List (D × D)} : fnD .len (tkD r) = some (.ok .shr (.int r.length)) := rfl
theorem dput_tk {Φ : Str → List D → Option EO} {fu : Nat} {st : Ev} {i : Nat} {k e : E} {ke kk : Kd} {d : D} {r : List (D × D)} {s : Stt} (h1 : st[i]? = some (some (true, tkD r))) (h2 : evE Φ e st = some (.ok ke d)) (hk : ke ≠ .brw) (h3 : evE Φ k st = some (.ok kk (stD s))) (hl : r.length < 100000) :
    evS Φ fu (.dput i k e) st = some (.nx (st.set i (some (true, tkD (tput r (stD s) (sK s) d))))) := by
  have hl' : r.length < lim := hl
  have ht : tkOf ((.bool true, .none) :: r) = some r := rfl
  simp only [evS, guardD, h1, tkD, h2, onV_ok, if_neg hk, h3, stD, ht, tkey_st, if_pos hl']
end Law
namespace Law
open PySem Dv
/-! ### the rules of places, by their rows -/
def rulesAt (xs : List Place) (i : Nat) : Option (List Rule) := (xs.find? fun y => y.row == i).map Place.rules
def rofD (ys : List Place) : List (D × D) := ys.map fun y => (PyData.int (y.row : Int), rulesD y.rules)
theorem rof_real (ys : List Place) : realD (rofD ys) = true := by
  unfold realD rofD
  rw [List.all_map, List.all_eq_true]
  exact fun _ _ => rfl
theorem rof_get (ys : List Place) (i : Nat) : dgetI (rofD ys) (i : Int) = (rulesAt ys i).map rulesD := by
  unfold rulesAt
  induction ys with
  | nil => rfl
  | cons y ys ih =>
    unfold rofD at ih ⊢
    rw [List.map_cons]
    unfold dgetI at ih ⊢
    rw [List.find?_cons, List.find?_cons]
    by_cases h : y.row = i
    · simp [keyIs, h]
    · have h2 : ¬ ((y.row : Int) = (i : Int)) := by omega
      have h3 : (y.row == i) = false := by simpa using h
      simp only [keyIs, h2, decide_false, h3]
      exact ih
theorem rof_put {ys : List Place} {y : Place} (h : ∀ x ∈ ys, x.row ≠ y.row) : dputI (rofD ys) (y.row : Int) (rulesD y.rules) = rofD (ys ++ [y]) := by
  unfold dputI
  have e : ((rofD ys).any fun kv => keyIs (y.row : Int) kv.1) = false := by
    rw [List.any_eq_false]
    intro kv hkv
    obtain ⟨x, hx, rfl⟩ := List.mem_map.mp hkv
    have := h x hx
    simp [keyIs]
    omega
  rw [e, if_neg Bool.false_ne_true]
  simp [rofD]
theorem idxD_K {kvs : List (D × D)} {i : Int} (h : realD kvs = true) : idxD (.dict kvs) (.int i) = dgetI kvs i := by
  have e : scrOf kvs = none := by
    match kvs, h with
    | [], _ => rfl
    | (.int k, v) :: r, _ => rfl
    | (.none, v) :: r, h => simp [realD, isIntD] at h
    | (.bool b, v) :: r, h => simp [realD, isIntD] at h
    | (.str b, v) :: r, h => simp [realD, isIntD] at h
    | (.list b, v) :: r, h => simp [realD, isIntD] at h
    | (.tuple b, v) :: r, h => simp [realD, isIntD] at h
    | (.dict b, v) :: r, h => simp [realD, isIntD] at h
  simp only [idxD, e, h, if_true]
theorem cmpD_memK {kvs : List (D × D)} {i : Int} (h : realD kvs = true) : cmpD .mem (.int i) (.dict kvs) = some (dgetI kvs i).isSome := by
  show (if realD kvs = true then some (dgetI kvs i).isSome else none) = _
  rw [if_pos h]
theorem cmpD_nmemK {kvs : List (D × D)} {i : Int} (h : realD kvs = true) : cmpD .nmem (.int i) (.dict kvs) = some (!(dgetI kvs i).isSome) := by
  show (if realD kvs = true then some (!(dgetI kvs i).isSome) else none) = _
  rw [if_pos h]
theorem rulesAt_ok {p q : Prog} {xs : List Place} {i : Nat} {rs : List Rule} (hx : ∀ x ∈ xs, x.Ok p q) (h : rulesAt xs i = some rs) : (∀ r ∈ rs, RuleOk p q r) ∧ rs.length = q.boxes := by
  unfold rulesAt at h
  rw [Option.map_eq_some_iff] at h
  obtain ⟨y, hy, rfl⟩ := h
  have := hx y (List.mem_of_find?_eq_some hy)
  exact ⟨this.rules, this.len⟩
/-! ### how far the run goes -/
def stopGo (p : Prog) (xs : List Place) : Nat → List Stt → Option Stt → Option (List Stt × Option Stt)
  | 0, _, _ => none
  | f + 1, cs, o => match o with
    | none => some (cs, none)
    | some s => if (fidx cs s).isSome = true ∨ (rulesAt xs s.1).isSome = true then some (cs, some s) else stopGo p xs f (cs ++ [s]) (stepV p s).1
def metR (p : Prog) (xs : List Place) : List Stt × Option Stt → Str × List Nat
  | (cs, none) => ("over", [cs.length])
  | (cs, some s) => match fidx cs s with
    | some k => ("missed", [k, cs.length - k])
    | none => match rulesAt xs s.1 with
      | some rs => if (turnedV rs s.2).isNone = true then ("stuck", [cs.length]) else ("comes", [cs.length])
      | none => ("", [])
def metD (m : Str × List Nat) : D := .tuple (.str m.1 :: m.2.map fun (n : Nat) => PyData.int (n : Int))
/-! a run ends: there are no more than 2000 states -/
theorem nodup_le : ∀ (N : Nat) (l : List Nat), l.Nodup → (∀ x ∈ l, x < N) → l.length ≤ N
  | 0, l, _, h => by
    cases l with
    | nil => simp
    | cons a l => exact absurd (h a (by simp)) (Nat.not_lt_zero a)
  | N + 1, l, hn, h => by
    by_cases hm : N ∈ l
    · have := nodup_le N (l.erase N) (hn.erase N) (fun x hx => by
        have h1 := h x (List.mem_of_mem_erase hx)
        have h2 : x ≠ N := fun e => by subst e; exact hn.not_mem_erase hx
        omega)
      rw [List.length_erase_of_mem hm] at this
      omega
    · have := nodup_le N l hn (fun x hx => by
        have h1 := h x hx
        have h2 : x ≠ N := fun e => by subst e; exact hm hx
        omega)
      omega
def codeN : List Nat → Nat
  | [] => 0
  | n :: ns => n + 5 * codeN ns
theorem codeN_lt : ∀ (ns : List Nat), (∀ n ∈ ns, n ≤ 4) → codeN ns < 5 ^ ns.length
  | [], _ => by simp [codeN]
  | n :: ns, h => by
    have h1 := codeN_lt ns fun x hx => h x (by simp [hx])
    have h2 := h n (by simp)
    rw [codeN, List.length_cons, Nat.pow_succ]
    omega
theorem codeN_inj : ∀ (a b : List Nat), a.length = b.length → (∀ n ∈ a, n ≤ 4) → (∀ n ∈ b, n ≤ 4) → codeN a = codeN b → a = b
  | [], [], _, _, _, _ => rfl
  | [], _ :: _, h, _, _, _ => by simp at h
  | _ :: _, [], h, _, _, _ => by simp at h
  | x :: a, y :: b, h, ha, hb, e => by
    have hx := ha x (by simp)
    have hy := hb y (by simp)
    rw [codeN, codeN] at e
    have e1 : x = y := by omega
    have e2 : codeN a = codeN b := by omega
    rw [e1, codeN_inj a b (by simpa using h) (fun n hn => ha n (by simp [hn])) (fun n hn => hb n (by simp [hn])) e2]
def codeS (s : Stt) : Nat := s.1 * 125 + codeN s.2
theorem codeS_lt {p : Prog} (hp : p.Ok) {s : Stt} (h : StateOk p s) : codeS s < 2000 := by
  obtain ⟨h1, h2, h3⟩ := h
  have hr := hp.rows
  have hm := hp.most
  have hb := hp.boxes
  have h4 := codeN_lt s.2 fun n hn => Nat.le_trans (h3 n hn) hm
  have h5 : 5 ^ s.2.length ≤ 125 := by
    rw [h2]
    exact Nat.le_trans (Nat.pow_le_pow_right (by decide) hb) (by decide)
  unfold codeS
  omega
theorem codeS_inj {p : Prog} (hp : p.Ok) {s t : Stt} (hs : StateOk p s) (ht : StateOk p t) (e : codeS s = codeS t) : s = t := by
  have hm := hp.most
  have hb := hp.boxes
  have b1 : codeN s.2 < 125 := Nat.lt_of_lt_of_le (codeN_lt s.2 fun n hn => Nat.le_trans (hs.2.2 n hn) hm) (by
    rw [hs.2.1]; exact Nat.le_trans (Nat.pow_le_pow_right (by decide) hb) (by decide))
  have b2 : codeN t.2 < 125 := Nat.lt_of_lt_of_le (codeN_lt t.2 fun n hn => Nat.le_trans (ht.2.2 n hn) hm) (by
    rw [ht.2.1]; exact Nat.le_trans (Nat.pow_le_pow_right (by decide) hb) (by decide))
  unfold codeS at e
  have e1 : s.1 = t.1 := by omega
  have e2 : codeN s.2 = codeN t.2 := by omega
  have e3 := codeN_inj s.2 t.2 (by rw [hs.2.1, ht.2.1]) (fun n hn => Nat.le_trans (hs.2.2 n hn) hm) (fun n hn => Nat.le_trans (ht.2.2 n hn) hm) e2
  obtain ⟨i, a⟩ := s
  obtain ⟨j, b⟩ := t
  simp only at e1 e3
  rw [e1, e3]
theorem map_nodup {α β : Type} {f : α → β} : ∀ {l : List α}, (∀ a ∈ l, ∀ b ∈ l, f a = f b → a = b) → l.Nodup → (l.map f).Nodup
  | [], _, _ => List.nodup_nil
  | a :: l, h, hn => by
    rw [List.nodup_cons] at hn
    rw [List.map_cons, List.nodup_cons]
    refine ⟨fun hm => ?_, map_nodup (fun x hx y hy => h x (by simp [hx]) y (by simp [hy])) hn.2⟩
    obtain ⟨b, hb, e⟩ := List.mem_map.mp hm
    have := h b (by simp [hb]) a (by simp) e
    subst this
    exact hn.1 hb
theorem states_le {p : Prog} (hp : p.Ok) {cs : List Stt} (hn : cs.Nodup) (h : ∀ s ∈ cs, StateOk p s) : cs.length ≤ 2000 := by
  have := nodup_le 2000 (cs.map codeS) (map_nodup (fun a ha b hb e => codeS_inj hp (h a ha) (h b hb) e) hn) (fun x hx => by
    obtain ⟨s, hs, rfl⟩ := List.mem_map.mp hx
    exact codeS_lt hp (h s hs))
  rwa [List.length_map] at this
theorem nodup_snoc {cs : List Stt} {s : Stt} (hn : cs.Nodup) (h : s ∉ cs) : (cs ++ [s]).Nodup := by
  rw [List.nodup_append]
  refine ⟨hn, by simp, fun a ha b hb e => ?_⟩
  simp at hb
  subst hb
  subst e
  exact h ha
/-- where a run stops: all is known of it -/
structure Stops (p : Prog) (xs : List Place) (r : List Stt × Option Stt) : Prop where
  nd : r.1.Nodup
  ok : ∀ s ∈ r.1, StateOk p s
  st : ∀ s, r.2 = some s → StateOk p s
  at_ : ∀ s, r.2 = some s → (fidx r.1 s).isSome = true ∨ (rulesAt xs s.1).isSome = true
theorem stop_some {p : Prog} (hp : p.Ok) (xs : List Place) : ∀ (f : Nat) (cs : List Stt) (o : Option Stt), cs.Nodup → (∀ s ∈ cs, StateOk p s) → (∀ s, o = some s → StateOk p s) → 2000 < cs.length + f →
    ∃ r, stopGo p xs f cs o = some r ∧ Stops p xs r
  | 0, cs, o, hn, h, _, hf => by have := states_le hp hn h; omega
  | f + 1, cs, none, hn, h, ho, hf => ⟨_, rfl, hn, h, fun s e => by simp at e, fun s e => by simp at e⟩
  | f + 1, cs, some s, hn, h, ho, hf => by
    rw [stopGo]
    split
    · rename_i hc
      exact ⟨_, rfl, hn, h, fun t e => by simp at e; subst e; exact ho _ rfl, fun t e => by simp at e; subst e; exact hc⟩
    · rename_i hc
      have hnone : fidx cs s = none := by
        cases e : fidx cs s with
        | none => rfl
        | some k => exact absurd (.inl (by rw [e]; rfl)) hc
      have hs := ho s rfl
      refine stop_some hp xs f (cs ++ [s]) (stepV p s).1 (nodup_snoc hn (fidx_none hnone)) (fun t ht => ?_) (step_ok hp hs) (by rw [List.length_append, List.length_singleton]; omega)
      rcases List.mem_append.mp ht with ht | ht
      · exact h t ht
      · simp at ht; subst ht; exact hs
/-- what a change meets at a state -/
def metV (p : Prog) (xs : List Place) (s : Stt) : Str × List Nat := match stopGo p xs 2001 [] (some s) with
  | some r => metR p xs r
  | none => ("", [])
theorem metV_eq {p : Prog} (hp : p.Ok) (xs : List Place) {s : Stt} (hs : StateOk p s) : ∃ r, stopGo p xs 2001 [] (some s) = some r ∧ Stops p xs r ∧ metV p xs s = metR p xs r := by
  obtain ⟨r, h1, h2⟩ := stop_some hp xs 2001 [] (some s) List.nodup_nil (by simp) (fun t e => by cases e; exact hs) (by simp)
  exact ⟨r, h1, h2, by unfold metV; rw [h1]⟩
/-- more fuel, the same -/
theorem stop_more {p : Prog} {xs : List Place} : ∀ {f : Nat} (g : Nat) {cs : List Stt} {o : Option Stt} {r : List Stt × Option Stt}, stopGo p xs f cs o = some r → stopGo p xs (f + g) cs o = some r
  | 0, g, cs, o, r, h => by simp [stopGo] at h
  | f + 1, g, cs, none, r, h => by rw [show f + 1 + g = (f + g) + 1 by omega]; exact h
  | f + 1, g, cs, some s, r, h => by
    rw [show f + 1 + g = (f + g) + 1 by omega]
    rw [stopGo] at h ⊢
    split
    · rename_i hc; rw [if_pos hc] at h; exact h
    · rename_i hc; rw [if_neg hc] at h; exact stop_more g h
end Law
namespace Law
open PySem Dv
/-! ### the rules' dict -/
theorem rof_put_one {Φ : Str → List D → Option EO} {fu : Nat} {st : Ev} {i : Nat} {k e : E} {ke kk : Kd} {acc : List Place} {u : Place} (h1 : st[i]? = some (some (true, .dict (rofD acc)))) (h2 : evE Φ e st = some (.ok ke (rulesD u.rules))) (hk : ke ≠ .brw) (h3 : evE Φ k st = some (.ok kk (.int (u.row : Int)))) (hl : acc.length < 100000) (hne : ∀ x ∈ acc, x.row ≠ u.row) :
    evS Φ fu (.dput i k e) st = some (.nx (st.set i (some (true, .dict (rofD (acc ++ [u])))))) := by
  have hl' : (rofD acc).length < lim ∧ realD (rofD acc) = true := ⟨by unfold rofD; rw [List.length_map]; exact hl, rof_real acc⟩
  simp only [evS, guardD, h1, h2, onV_ok, if_neg hk, h3, if_pos hl', rof_put hne]
theorem apart_ne {acc us : List Place} {u : Place} (ha : RowsApart (acc ++ u :: us)) : ∀ x ∈ acc, x.row ≠ u.row := by
  unfold RowsApart at ha
  rw [List.map_append, List.map_cons, List.nodup_append] at ha
  intro x hx e
  exact ha.2.2 x.row (List.mem_map.mpr ⟨x, hx, rfl⟩) u.row (by simp) e
theorem rules_of_loop {fu n : Nat} {s0 : Option (Bool × D)} : ∀ (us acc : List Place) (k2 : Option (Bool × D)), RowsApart (acc ++ us) → acc.length + us.length ≤ 100 →
    ∃ k2', forGo (fun d st => evSs (run tab fu n) fu b_rules_of_0 (List.set st 2 (some (false, d)))) (us.map Place.d) [s0, some (true, .dict (rofD acc)), k2] = some (.nx [s0, some (true, .dict (rofD (acc ++ us))), k2'])
  | [], acc, k2, _, _ => ⟨k2, by rw [List.append_nil]; rfl⟩
  | u :: us, acc, k2, ha, hl => by
    rw [List.length_cons] at hl
    obtain ⟨k2', e⟩ := rules_of_loop (fu := fu) (n := n) (s0 := s0) us (acc ++ [u]) (some (false, u.d)) (by rw [List.append_assoc]; exact ha) (by rw [List.length_append, List.length_singleton]; omega)
    rw [List.append_assoc] at e
    refine ⟨k2', Eq.trans ?_ e⟩
    rw [List.map_cons, forGo]
    have et : evSs (run tab fu n) fu b_rules_of_0 (List.set [s0, some (true, .dict (rofD acc)), k2] 2 (some (false, u.d))) = some (.nx [s0, some (true, .dict (rofD (acc ++ [u]))), some (false, u.d)]) := by
      unfold b_rules_of_0
      refine (seq (rof_put_one (acc := acc) (u := u) (ke := .shr) (kk := .shr) rfl (by simp only [runD, Dv.start, evSs_nil, evSs_cons, evS, evE, evL, evB, evAnd, evOr, evO, onOwn, guardO, setAll, thenS_nx, thenS_rt, thenS_ex, onV_ok, onV_ex, onB_ok, onB_ex, bindV_ok, bindV_ex, boolV_ok, bindA_ok, consA_ok, optI_none, optI_some, outcome_nx, outcome_shr, outcome_frs, outcome_ex, setV_shr, setV_frs, binD_add, binD_addT, binD_addL, binD_sub, binD_mulr, binD_mull, binD_fdiv', binD_mod', cmpD_lt, cmpD_le, cmpD_gt, cmpD_ge, cmpD_eqi, cmpD_nei, cmpD_is, cmpD_isn, cmpD_memL, cmpD_nmemL, cmpD_memT, cmpD_nmemT, isN_none, isN_int, isN_tup, isN_lst, isN_bool, isN_str, flat_int, flat_str, flat_none, flat_bool, fnD_lenL, fnD_lenT, fnD_lenS, fnD_intB, fnD_str, fnD_tupL, fnD_tupT, fnD_lstL, fnD_lstT, fnD_all, idxD_L, idxD_T, idxD_S, slcD_L, slcD_T, itemsD_L, itemsD_T, asD_shr, asD_frs, asB_ok, okCall_t, noBrw_nil, noBrw_shr, noBrw_frs, tests_nil, tests_one, at0, at1, at2, lim_eq, List.set_cons_zero, List.set_cons_succ, List.getElem?_cons_zero, List.getElem?_cons_succ, List.length_cons, List.length_nil, List.map_cons, List.map_nil, Option.map_some, Option.map_none, if_true, if_false, ite_true, ite_false, reduceIte, reduceCtorEq, decide_true, decide_false, Nat.reduceAdd, Nat.reduceSub, Nat.reduceEqDiff, Int.reduceNeg, Int.reduceLT, Int.reduceLE, Bool.not_true, Bool.not_false, Nat.reduceLeDiff, and_self, true_and, and_true, Place.d]) (by decide) (by simp only [runD, Dv.start, evSs_nil, evSs_cons, evS, evE, evL, evB, evAnd, evOr, evO, onOwn, guardO, setAll, thenS_nx, thenS_rt, thenS_ex, onV_ok, onV_ex, onB_ok, onB_ex, bindV_ok, bindV_ex, boolV_ok, bindA_ok, consA_ok, optI_none, optI_some, outcome_nx, outcome_shr, outcome_frs, outcome_ex, setV_shr, setV_frs, binD_add, binD_addT, binD_addL, binD_sub, binD_mulr, binD_mull, binD_fdiv', binD_mod', cmpD_lt, cmpD_le, cmpD_gt, cmpD_ge, cmpD_eqi, cmpD_nei, cmpD_is, cmpD_isn, cmpD_memL, cmpD_nmemL, cmpD_memT, cmpD_nmemT, isN_none, isN_int, isN_tup, isN_lst, isN_bool, isN_str, flat_int, flat_str, flat_none, flat_bool, fnD_lenL, fnD_lenT, fnD_lenS, fnD_intB, fnD_str, fnD_tupL, fnD_tupT, fnD_lstL, fnD_lstT, fnD_all, idxD_L, idxD_T, idxD_S, slcD_L, slcD_T, itemsD_L, itemsD_T, asD_shr, asD_frs, asB_ok, okCall_t, noBrw_nil, noBrw_shr, noBrw_frs, tests_nil, tests_one, at0, at1, at2, lim_eq, List.set_cons_zero, List.set_cons_succ, List.getElem?_cons_zero, List.getElem?_cons_succ, List.length_cons, List.length_nil, List.map_cons, List.map_nil, Option.map_some, Option.map_none, if_true, if_false, ite_true, ite_false, reduceIte, reduceCtorEq, decide_true, decide_false, Nat.reduceAdd, Nat.reduceSub, Nat.reduceEqDiff, Int.reduceNeg, Int.reduceLT, Int.reduceLE, Bool.not_true, Bool.not_false, Nat.reduceLeDiff, and_self, true_and, and_true, Place.d]) (by omega) (apart_ne ha))).trans ?_
      exact evSs_nil
    rw [et, thenS_nx]
theorem rules_of_ok {fu n : Nat} {xs : List Place} (ha : RowsApart xs) (hl : xs.length ≤ 100) : run tab fu (n + 1) "rules_of" [placesD xs] = some (.ok .frs (.dict (rofD xs))) := by
  rw [run_rules_of]
  refine runD_frs rfl ?_
  unfold d_rules_of
  rw [show Dv.start _ _ = [some (false, placesD xs), none, none] from rfl]
  refine (seq (st' := [some (false, placesD xs), some (true, .dict (rofD [])), none]) (by simp only [runD, Dv.start, evSs_nil, evSs_cons, evS, evE, evL, evB, evAnd, evOr, evO, onOwn, guardO, setAll, thenS_nx, thenS_rt, thenS_ex, onV_ok, onV_ex, onB_ok, onB_ex, bindV_ok, bindV_ex, boolV_ok, bindA_ok, consA_ok, optI_none, optI_some, outcome_nx, outcome_shr, outcome_frs, outcome_ex, setV_shr, setV_frs, binD_add, binD_addT, binD_addL, binD_sub, binD_mulr, binD_mull, binD_fdiv', binD_mod', cmpD_lt, cmpD_le, cmpD_gt, cmpD_ge, cmpD_eqi, cmpD_nei, cmpD_is, cmpD_isn, cmpD_memL, cmpD_nmemL, cmpD_memT, cmpD_nmemT, isN_none, isN_int, isN_tup, isN_lst, isN_bool, isN_str, flat_int, flat_str, flat_none, flat_bool, fnD_lenL, fnD_lenT, fnD_lenS, fnD_intB, fnD_str, fnD_tupL, fnD_tupT, fnD_lstL, fnD_lstT, fnD_all, idxD_L, idxD_T, idxD_S, slcD_L, slcD_T, itemsD_L, itemsD_T, asD_shr, asD_frs, asB_ok, okCall_t, noBrw_nil, noBrw_shr, noBrw_frs, tests_nil, tests_one, at0, at1, at2, lim_eq, List.set_cons_zero, List.set_cons_succ, List.getElem?_cons_zero, List.getElem?_cons_succ, List.length_cons, List.length_nil, List.map_cons, List.map_nil, Option.map_some, Option.map_none, if_true, if_false, ite_true, ite_false, reduceIte, reduceCtorEq, decide_true, decide_false, Nat.reduceAdd, Nat.reduceSub, Nat.reduceEqDiff, Int.reduceNeg, Int.reduceLT, Int.reduceLE, Bool.not_true, Bool.not_false, Nat.reduceLeDiff, and_self, true_and, and_true]; rfl)).trans ?_
  obtain ⟨k2, e⟩ := rules_of_loop (fu := fu) (n := n) (s0 := some (false, placesD xs)) xs [] none (by simpa using ha) (by simpa using hl)
  rw [List.nil_append] at e
  refine (seq ((for_ofL (xs := xs.map Place.d) (by simp only [runD, Dv.start, evSs_nil, evSs_cons, evS, evE, evL, evB, evAnd, evOr, evO, onOwn, guardO, setAll, thenS_nx, thenS_rt, thenS_ex, onV_ok, onV_ex, onB_ok, onB_ex, bindV_ok, bindV_ex, boolV_ok, bindA_ok, consA_ok, optI_none, optI_some, outcome_nx, outcome_shr, outcome_frs, outcome_ex, setV_shr, setV_frs, binD_add, binD_addT, binD_addL, binD_sub, binD_mulr, binD_mull, binD_fdiv', binD_mod', cmpD_lt, cmpD_le, cmpD_gt, cmpD_ge, cmpD_eqi, cmpD_nei, cmpD_is, cmpD_isn, cmpD_memL, cmpD_nmemL, cmpD_memT, cmpD_nmemT, isN_none, isN_int, isN_tup, isN_lst, isN_bool, isN_str, flat_int, flat_str, flat_none, flat_bool, fnD_lenL, fnD_lenT, fnD_lenS, fnD_intB, fnD_str, fnD_tupL, fnD_tupT, fnD_lstL, fnD_lstT, fnD_all, idxD_L, idxD_T, idxD_S, slcD_L, slcD_T, itemsD_L, itemsD_T, asD_shr, asD_frs, asB_ok, okCall_t, noBrw_nil, noBrw_shr, noBrw_frs, tests_nil, tests_one, at0, at1, at2, lim_eq, List.set_cons_zero, List.set_cons_succ, List.getElem?_cons_zero, List.getElem?_cons_succ, List.length_cons, List.length_nil, List.map_cons, List.map_nil, Option.map_some, Option.map_none, if_true, if_false, ite_true, ite_false, reduceIte, reduceCtorEq, decide_true, decide_false, Nat.reduceAdd, Nat.reduceSub, Nat.reduceEqDiff, Int.reduceNeg, Int.reduceLT, Int.reduceLE, Bool.not_true, Bool.not_false, Nat.reduceLeDiff, and_self, true_and, and_true, placesD])).trans e)).trans ?_
  exact (seq_rt (by simp only [runD, Dv.start, evSs_nil, evSs_cons, evS, evE, evL, evB, evAnd, evOr, evO, onOwn, guardO, setAll, thenS_nx, thenS_rt, thenS_ex, onV_ok, onV_ex, onB_ok, onB_ex, bindV_ok, bindV_ex, boolV_ok, bindA_ok, consA_ok, optI_none, optI_some, outcome_nx, outcome_shr, outcome_frs, outcome_ex, setV_shr, setV_frs, binD_add, binD_addT, binD_addL, binD_sub, binD_mulr, binD_mull, binD_fdiv', binD_mod', cmpD_lt, cmpD_le, cmpD_gt, cmpD_ge, cmpD_eqi, cmpD_nei, cmpD_is, cmpD_isn, cmpD_memL, cmpD_nmemL, cmpD_memT, cmpD_nmemT, isN_none, isN_int, isN_tup, isN_lst, isN_bool, isN_str, flat_int, flat_str, flat_none, flat_bool, fnD_lenL, fnD_lenT, fnD_lenS, fnD_intB, fnD_str, fnD_tupL, fnD_tupT, fnD_lstL, fnD_lstT, fnD_all, idxD_L, idxD_T, idxD_S, slcD_L, slcD_T, itemsD_L, itemsD_T, asD_shr, asD_frs, asB_ok, okCall_t, noBrw_nil, noBrw_shr, noBrw_frs, tests_nil, tests_one, at0, at1, at2, lim_eq, List.set_cons_zero, List.set_cons_succ, List.getElem?_cons_zero, List.getElem?_cons_succ, List.length_cons, List.length_nil, List.map_cons, List.map_nil, Option.map_some, Option.map_none, if_true, if_false, ite_true, ite_false, reduceIte, reduceCtorEq, decide_true, decide_false, Nat.reduceAdd, Nat.reduceSub, Nat.reduceEqDiff, Int.reduceNeg, Int.reduceLT, Int.reduceLE, Bool.not_true, Bool.not_false, Nat.reduceLeDiff, and_self, true_and, and_true]; try rfl)).trans rfl
theorem law_rules_loop {fu n : Nat} {s0 : Option (Bool × D)} : ∀ (us acc : List Place) (k2 : Option (Bool × D)), RowsApart (acc ++ us) → acc.length + us.length ≤ 100 →
    ∃ k2', forGo (fun d st => evSs (run tab fu n) fu b_law_rules_0 (List.set st 2 (some (false, d)))) (us.map Place.d) [s0, some (true, .dict (rofD acc)), k2] = some (.nx [s0, some (true, .dict (rofD (acc ++ us))), k2'])
  | [], acc, k2, _, _ => ⟨k2, by rw [List.append_nil]; rfl⟩
  | u :: us, acc, k2, ha, hl => by
    rw [List.length_cons] at hl
    obtain ⟨k2', e⟩ := law_rules_loop (fu := fu) (n := n) (s0 := s0) us (acc ++ [u]) (some (false, u.d)) (by rw [List.append_assoc]; exact ha) (by rw [List.length_append, List.length_singleton]; omega)
    rw [List.append_assoc] at e
    refine ⟨k2', Eq.trans ?_ e⟩
    rw [List.map_cons, forGo]
    have et : evSs (run tab fu n) fu b_law_rules_0 (List.set [s0, some (true, .dict (rofD acc)), k2] 2 (some (false, u.d))) = some (.nx [s0, some (true, .dict (rofD (acc ++ [u]))), some (false, u.d)]) := by
      unfold b_law_rules_0
      refine (seq (rof_put_one (acc := acc) (u := u) (ke := .shr) (kk := .shr) rfl (by simp only [runD, Dv.start, evSs_nil, evSs_cons, evS, evE, evL, evB, evAnd, evOr, evO, onOwn, guardO, setAll, thenS_nx, thenS_rt, thenS_ex, onV_ok, onV_ex, onB_ok, onB_ex, bindV_ok, bindV_ex, boolV_ok, bindA_ok, consA_ok, optI_none, optI_some, outcome_nx, outcome_shr, outcome_frs, outcome_ex, setV_shr, setV_frs, binD_add, binD_addT, binD_addL, binD_sub, binD_mulr, binD_mull, binD_fdiv', binD_mod', cmpD_lt, cmpD_le, cmpD_gt, cmpD_ge, cmpD_eqi, cmpD_nei, cmpD_is, cmpD_isn, cmpD_memL, cmpD_nmemL, cmpD_memT, cmpD_nmemT, isN_none, isN_int, isN_tup, isN_lst, isN_bool, isN_str, flat_int, flat_str, flat_none, flat_bool, fnD_lenL, fnD_lenT, fnD_lenS, fnD_intB, fnD_str, fnD_tupL, fnD_tupT, fnD_lstL, fnD_lstT, fnD_all, idxD_L, idxD_T, idxD_S, slcD_L, slcD_T, itemsD_L, itemsD_T, asD_shr, asD_frs, asB_ok, okCall_t, noBrw_nil, noBrw_shr, noBrw_frs, tests_nil, tests_one, at0, at1, at2, lim_eq, List.set_cons_zero, List.set_cons_succ, List.getElem?_cons_zero, List.getElem?_cons_succ, List.length_cons, List.length_nil, List.map_cons, List.map_nil, Option.map_some, Option.map_none, if_true, if_false, ite_true, ite_false, reduceIte, reduceCtorEq, decide_true, decide_false, Nat.reduceAdd, Nat.reduceSub, Nat.reduceEqDiff, Int.reduceNeg, Int.reduceLT, Int.reduceLE, Bool.not_true, Bool.not_false, Nat.reduceLeDiff, and_self, true_and, and_true, Place.d]) (by decide) (by simp only [runD, Dv.start, evSs_nil, evSs_cons, evS, evE, evL, evB, evAnd, evOr, evO, onOwn, guardO, setAll, thenS_nx, thenS_rt, thenS_ex, onV_ok, onV_ex, onB_ok, onB_ex, bindV_ok, bindV_ex, boolV_ok, bindA_ok, consA_ok, optI_none, optI_some, outcome_nx, outcome_shr, outcome_frs, outcome_ex, setV_shr, setV_frs, binD_add, binD_addT, binD_addL, binD_sub, binD_mulr, binD_mull, binD_fdiv', binD_mod', cmpD_lt, cmpD_le, cmpD_gt, cmpD_ge, cmpD_eqi, cmpD_nei, cmpD_is, cmpD_isn, cmpD_memL, cmpD_nmemL, cmpD_memT, cmpD_nmemT, isN_none, isN_int, isN_tup, isN_lst, isN_bool, isN_str, flat_int, flat_str, flat_none, flat_bool, fnD_lenL, fnD_lenT, fnD_lenS, fnD_intB, fnD_str, fnD_tupL, fnD_tupT, fnD_lstL, fnD_lstT, fnD_all, idxD_L, idxD_T, idxD_S, slcD_L, slcD_T, itemsD_L, itemsD_T, asD_shr, asD_frs, asB_ok, okCall_t, noBrw_nil, noBrw_shr, noBrw_frs, tests_nil, tests_one, at0, at1, at2, lim_eq, List.set_cons_zero, List.set_cons_succ, List.getElem?_cons_zero, List.getElem?_cons_succ, List.length_cons, List.length_nil, List.map_cons, List.map_nil, Option.map_some, Option.map_none, if_true, if_false, ite_true, ite_false, reduceIte, reduceCtorEq, decide_true, decide_false, Nat.reduceAdd, Nat.reduceSub, Nat.reduceEqDiff, Int.reduceNeg, Int.reduceLT, Int.reduceLE, Bool.not_true, Bool.not_false, Nat.reduceLeDiff, and_self, true_and, and_true, Place.d]) (by omega) (apart_ne ha))).trans ?_
      exact evSs_nil
    rw [et, thenS_nx]
theorem law_rules_ok {fu n : Nat} {xs : List Place} (ha : RowsApart xs) (hl : xs.length ≤ 100) : run tab fu (n + 1) "_law_rules" [placesD xs] = some (.ok .frs (.dict (rofD xs))) := by
  rw [run_law_rules]
  refine runD_frs rfl ?_
  unfold d_law_rules
  rw [show Dv.start _ _ = [some (false, placesD xs), none, none] from rfl]
  refine (seq (st' := [some (false, placesD xs), some (true, .dict (rofD [])), none]) (by simp only [runD, Dv.start, evSs_nil, evSs_cons, evS, evE, evL, evB, evAnd, evOr, evO, onOwn, guardO, setAll, thenS_nx, thenS_rt, thenS_ex, onV_ok, onV_ex, onB_ok, onB_ex, bindV_ok, bindV_ex, boolV_ok, bindA_ok, consA_ok, optI_none, optI_some, outcome_nx, outcome_shr, outcome_frs, outcome_ex, setV_shr, setV_frs, binD_add, binD_addT, binD_addL, binD_sub, binD_mulr, binD_mull, binD_fdiv', binD_mod', cmpD_lt, cmpD_le, cmpD_gt, cmpD_ge, cmpD_eqi, cmpD_nei, cmpD_is, cmpD_isn, cmpD_memL, cmpD_nmemL, cmpD_memT, cmpD_nmemT, isN_none, isN_int, isN_tup, isN_lst, isN_bool, isN_str, flat_int, flat_str, flat_none, flat_bool, fnD_lenL, fnD_lenT, fnD_lenS, fnD_intB, fnD_str, fnD_tupL, fnD_tupT, fnD_lstL, fnD_lstT, fnD_all, idxD_L, idxD_T, idxD_S, slcD_L, slcD_T, itemsD_L, itemsD_T, asD_shr, asD_frs, asB_ok, okCall_t, noBrw_nil, noBrw_shr, noBrw_frs, tests_nil, tests_one, at0, at1, at2, lim_eq, List.set_cons_zero, List.set_cons_succ, List.getElem?_cons_zero, List.getElem?_cons_succ, List.length_cons, List.length_nil, List.map_cons, List.map_nil, Option.map_some, Option.map_none, if_true, if_false, ite_true, ite_false, reduceIte, reduceCtorEq, decide_true, decide_false, Nat.reduceAdd, Nat.reduceSub, Nat.reduceEqDiff, Int.reduceNeg, Int.reduceLT, Int.reduceLE, Bool.not_true, Bool.not_false, Nat.reduceLeDiff, and_self, true_and, and_true]; rfl)).trans ?_
  obtain ⟨k2, e⟩ := law_rules_loop (fu := fu) (n := n) (s0 := some (false, placesD xs)) xs [] none (by simpa using ha) (by simpa using hl)
  rw [List.nil_append] at e
  refine (seq ((for_ofL (xs := xs.map Place.d) (by simp only [runD, Dv.start, evSs_nil, evSs_cons, evS, evE, evL, evB, evAnd, evOr, evO, onOwn, guardO, setAll, thenS_nx, thenS_rt, thenS_ex, onV_ok, onV_ex, onB_ok, onB_ex, bindV_ok, bindV_ex, boolV_ok, bindA_ok, consA_ok, optI_none, optI_some, outcome_nx, outcome_shr, outcome_frs, outcome_ex, setV_shr, setV_frs, binD_add, binD_addT, binD_addL, binD_sub, binD_mulr, binD_mull, binD_fdiv', binD_mod', cmpD_lt, cmpD_le, cmpD_gt, cmpD_ge, cmpD_eqi, cmpD_nei, cmpD_is, cmpD_isn, cmpD_memL, cmpD_nmemL, cmpD_memT, cmpD_nmemT, isN_none, isN_int, isN_tup, isN_lst, isN_bool, isN_str, flat_int, flat_str, flat_none, flat_bool, fnD_lenL, fnD_lenT, fnD_lenS, fnD_intB, fnD_str, fnD_tupL, fnD_tupT, fnD_lstL, fnD_lstT, fnD_all, idxD_L, idxD_T, idxD_S, slcD_L, slcD_T, itemsD_L, itemsD_T, asD_shr, asD_frs, asB_ok, okCall_t, noBrw_nil, noBrw_shr, noBrw_frs, tests_nil, tests_one, at0, at1, at2, lim_eq, List.set_cons_zero, List.set_cons_succ, List.getElem?_cons_zero, List.getElem?_cons_succ, List.length_cons, List.length_nil, List.map_cons, List.map_nil, Option.map_some, Option.map_none, if_true, if_false, ite_true, ite_false, reduceIte, reduceCtorEq, decide_true, decide_false, Nat.reduceAdd, Nat.reduceSub, Nat.reduceEqDiff, Int.reduceNeg, Int.reduceLT, Int.reduceLE, Bool.not_true, Bool.not_false, Nat.reduceLeDiff, and_self, true_and, and_true, placesD])).trans e)).trans ?_
  exact (seq_rt (by simp only [runD, Dv.start, evSs_nil, evSs_cons, evS, evE, evL, evB, evAnd, evOr, evO, onOwn, guardO, setAll, thenS_nx, thenS_rt, thenS_ex, onV_ok, onV_ex, onB_ok, onB_ex, bindV_ok, bindV_ex, boolV_ok, bindA_ok, consA_ok, optI_none, optI_some, outcome_nx, outcome_shr, outcome_frs, outcome_ex, setV_shr, setV_frs, binD_add, binD_addT, binD_addL, binD_sub, binD_mulr, binD_mull, binD_fdiv', binD_mod', cmpD_lt, cmpD_le, cmpD_gt, cmpD_ge, cmpD_eqi, cmpD_nei, cmpD_is, cmpD_isn, cmpD_memL, cmpD_nmemL, cmpD_memT, cmpD_nmemT, isN_none, isN_int, isN_tup, isN_lst, isN_bool, isN_str, flat_int, flat_str, flat_none, flat_bool, fnD_lenL, fnD_lenT, fnD_lenS, fnD_intB, fnD_str, fnD_tupL, fnD_tupT, fnD_lstL, fnD_lstT, fnD_all, idxD_L, idxD_T, idxD_S, slcD_L, slcD_T, itemsD_L, itemsD_T, asD_shr, asD_frs, asB_ok, okCall_t, noBrw_nil, noBrw_shr, noBrw_frs, tests_nil, tests_one, at0, at1, at2, lim_eq, List.set_cons_zero, List.set_cons_succ, List.getElem?_cons_zero, List.getElem?_cons_succ, List.length_cons, List.length_nil, List.map_cons, List.map_nil, Option.map_some, Option.map_none, if_true, if_false, ite_true, ite_false, reduceIte, reduceCtorEq, decide_true, decide_false, Nat.reduceAdd, Nat.reduceSub, Nat.reduceEqDiff, Int.reduceNeg, Int.reduceLT, Int.reduceLE, Bool.not_true, Bool.not_false, Nat.reduceLeDiff, and_self, true_and, and_true]; try rfl)).trans rfl
/-! ### met -/
theorem isN_stD (s : Stt) : isNone (stD s) = false := rfl
theorem stD_eq (s : Stt) : stD s = .tuple [.int s.1, numsD s.2] := rfl
theorem st_at0 (s : Stt) : idxD (stD s) (.int 0) = some (.int s.1) := at0
theorem st_at1 (s : Stt) : idxD (stD s) (.int 1) = some (numsD s.2) := at1
theorem rof_nmem (xs : List Place) (i : Nat) : cmpD .nmem (.int (i : Int)) (.dict (rofD xs)) = some (!(rulesAt xs i).isSome) := by
  rw [cmpD_nmemK (rof_real xs), rof_get, Option.isSome_map]
theorem rof_mem (xs : List Place) (i : Nat) : cmpD .mem (.int (i : Int)) (.dict (rofD xs)) = some (rulesAt xs i).isSome := by
  rw [cmpD_memK (rof_real xs), rof_get, Option.isSome_map]
theorem rof_idx {xs : List Place} {i : Nat} {rs : List Rule} (h : rulesAt xs i = some rs) : idxD (.dict (rofD xs)) (.int (i : Int)) = some (rulesD rs) := by
  rw [idxD_K (rof_real xs), rof_get, h]; rfl
theorem cam_mem (cs : List Stt) (s : Stt) : cmpD .mem (stD s) (tkD (camD cs)) = some (fidx cs s).isSome := by rw [tk_mem, camD_get, Option.isSome_map]
theorem cam_nmem (cs : List Stt) (s : Stt) : cmpD .nmem (stD s) (tkD (camD cs)) = some (!(fidx cs s).isSome) := by rw [tk_nmem, camD_get, Option.isSome_map]
theorem cam_idx {cs : List Stt} {s : Stt} {k : Nat} (h : fidx cs s = some k) : idxD (tkD (camD cs)) (stD s) = some (.int (k : Int)) := by rw [tk_idx, camD_get, h]; rfl
theorem cam_len (cs : List Stt) : fnD .len (tkD (camD cs)) = some (.ok .shr (.int cs.length)) := by rw [tk_len, camD_len]
theorem optS_some (s : Stt) : optS (some s) = stD s := rfl
theorem whlGo_no {c : Ev → Option EO} {f : Ev → Option SO} {n : Nat} {st : Ev} (h : c st = some (.ok .shr (.bool false))) : whlGo c f (n + 1) st = some (.nx st) := by
  rw [whlGo, h]; rfl
theorem whlGo_yes {c : Ev → Option EO} {f : Ev → Option SO} {n : Nat} {st st' : Ev} (h : c st = some (.ok .shr (.bool true))) (h2 : f st = some (.nx st')) : whlGo c f (n + 1) st = whlGo c f n st' := by
  rw [whlGo, h, onB_ok, if_pos rfl, h2, thenS_nx]
theorem whlGo_rt {c : Ev → Option EO} {f : Ev → Option SO} {n : Nat} {st : Ev} {k : Kd} {d : D} (h : c st = some (.ok .shr (.bool true))) (h2 : f st = some (.rt k d)) : whlGo c f (n + 1) st = some (.rt k d) := by
  rw [whlGo, h, onB_ok, if_pos rfl, h2, thenS_rt]
theorem met_loop {fu n : Nat} {p : Prog} (hp : p.Ok) {xs : List Place} {s1 : Option (Bool × D)} : ∀ (f : Nat) (cs : List Stt) (o : Option Stt) (r : List Stt × Option Stt), (∀ s, o = some s → StateOk p s) → cs.length + f ≤ 50000 → stopGo p xs f cs o = some r →
    whlGo (evE (run tab fu (n + 2)) e_met_0) (evSs (run tab fu (n + 2)) fu b_met_1) f [some (false, p.d), s1, some (false, optS o), some (true, .dict (rofD xs)), some (true, tkD (camD cs))] =
      some (.nx [some (false, p.d), s1, some (false, optS r.2), some (true, .dict (rofD xs)), some (true, tkD (camD r.1))])
  | 0, cs, o, r, _, _, h => by simp [stopGo] at h
  | f + 1, cs, none, r, ho, hl, h => by
    have h : some (cs, none) = some r := h
    cases h
    refine whlGo_no ?_
    unfold e_met_0
    simp only [runD, Dv.start, evSs_nil, evSs_cons, evS, evE, evL, evB, evAnd, evOr, evO, onOwn, guardO, setAll, thenS_nx, thenS_rt, thenS_ex, onV_ok, onV_ex, onB_ok, onB_ex, bindV_ok, bindV_ex, boolV_ok, bindA_ok, consA_ok, optI_none, optI_some, outcome_nx, outcome_shr, outcome_frs, outcome_ex, setV_shr, setV_frs, binD_add, binD_addT, binD_addL, binD_sub, binD_mulr, binD_mull, binD_fdiv', binD_mod', cmpD_lt, cmpD_le, cmpD_gt, cmpD_ge, cmpD_eqi, cmpD_nei, cmpD_is, cmpD_isn, cmpD_memL, cmpD_nmemL, cmpD_memT, cmpD_nmemT, isN_none, isN_int, isN_tup, isN_lst, isN_bool, isN_str, flat_int, flat_str, flat_none, flat_bool, fnD_lenL, fnD_lenT, fnD_lenS, fnD_intB, fnD_str, fnD_tupL, fnD_tupT, fnD_lstL, fnD_lstT, fnD_all, idxD_L, idxD_T, idxD_S, slcD_L, slcD_T, itemsD_L, itemsD_T, asD_shr, asD_frs, asB_ok, okCall_t, noBrw_nil, noBrw_shr, noBrw_frs, tests_nil, tests_one, at0, at1, at2, lim_eq, List.set_cons_zero, List.set_cons_succ, List.getElem?_cons_zero, List.getElem?_cons_succ, List.length_cons, List.length_nil, List.map_cons, List.map_nil, Option.map_some, Option.map_none, if_true, if_false, ite_true, ite_false, reduceIte, reduceCtorEq, decide_true, decide_false, Nat.reduceAdd, Nat.reduceSub, Nat.reduceEqDiff, Int.reduceNeg, Int.reduceLT, Int.reduceLE, Bool.not_true, Bool.not_false, Nat.reduceLeDiff, and_self, true_and, and_true, optS, Bool.false_eq_true]
  | f + 1, cs, some s, r, ho, hl, h => by
    have hs := ho s rfl
    have h : (if (fidx cs s).isSome = true ∨ (rulesAt xs s.1).isSome = true then some (cs, some s) else stopGo p xs f (cs ++ [s]) (stepV p s).1) = some r := h
    by_cases hc : (fidx cs s).isSome = true ∨ (rulesAt xs s.1).isSome = true
    · rw [if_pos hc] at h
      cases h
      refine whlGo_no ?_
      unfold e_met_0
      cases hi : (fidx cs s).isSome with
      | true => simp only [runD, Dv.start, evSs_nil, evSs_cons, evS, evE, evL, evB, evAnd, evOr, evO, onOwn, guardO, setAll, thenS_nx, thenS_rt, thenS_ex, onV_ok, onV_ex, onB_ok, onB_ex, bindV_ok, bindV_ex, boolV_ok, bindA_ok, consA_ok, optI_none, optI_some, outcome_nx, outcome_shr, outcome_frs, outcome_ex, setV_shr, setV_frs, binD_add, binD_addT, binD_addL, binD_sub, binD_mulr, binD_mull, binD_fdiv', binD_mod', cmpD_lt, cmpD_le, cmpD_gt, cmpD_ge, cmpD_eqi, cmpD_nei, cmpD_is, cmpD_isn, cmpD_memL, cmpD_nmemL, cmpD_memT, cmpD_nmemT, isN_none, isN_int, isN_tup, isN_lst, isN_bool, isN_str, flat_int, flat_str, flat_none, flat_bool, fnD_lenL, fnD_lenT, fnD_lenS, fnD_intB, fnD_str, fnD_tupL, fnD_tupT, fnD_lstL, fnD_lstT, fnD_all, idxD_L, idxD_T, idxD_S, slcD_L, slcD_T, itemsD_L, itemsD_T, asD_shr, asD_frs, asB_ok, okCall_t, noBrw_nil, noBrw_shr, noBrw_frs, tests_nil, tests_one, at0, at1, at2, lim_eq, List.set_cons_zero, List.set_cons_succ, List.getElem?_cons_zero, List.getElem?_cons_succ, List.length_cons, List.length_nil, List.map_cons, List.map_nil, Option.map_some, Option.map_none, if_true, if_false, ite_true, ite_false, reduceIte, reduceCtorEq, decide_true, decide_false, Nat.reduceAdd, Nat.reduceSub, Nat.reduceEqDiff, Int.reduceNeg, Int.reduceLT, Int.reduceLE, Bool.not_true, Bool.not_false, Nat.reduceLeDiff, and_self, true_and, and_true, optS_some, isN_stD, cam_nmem, hi, Bool.false_eq_true]
      | false =>
        have hr : (rulesAt xs s.1).isSome = true := by
          rcases hc with hc | hc
          · rw [hi] at hc; cases hc
          · exact hc
        simp only [runD, Dv.start, evSs_nil, evSs_cons, evS, evE, evL, evB, evAnd, evOr, evO, onOwn, guardO, setAll, thenS_nx, thenS_rt, thenS_ex, onV_ok, onV_ex, onB_ok, onB_ex, bindV_ok, bindV_ex, boolV_ok, bindA_ok, consA_ok, optI_none, optI_some, outcome_nx, outcome_shr, outcome_frs, outcome_ex, setV_shr, setV_frs, binD_add, binD_addT, binD_addL, binD_sub, binD_mulr, binD_mull, binD_fdiv', binD_mod', cmpD_lt, cmpD_le, cmpD_gt, cmpD_ge, cmpD_eqi, cmpD_nei, cmpD_is, cmpD_isn, cmpD_memL, cmpD_nmemL, cmpD_memT, cmpD_nmemT, isN_none, isN_int, isN_tup, isN_lst, isN_bool, isN_str, flat_int, flat_str, flat_none, flat_bool, fnD_lenL, fnD_lenT, fnD_lenS, fnD_intB, fnD_str, fnD_tupL, fnD_tupT, fnD_lstL, fnD_lstT, fnD_all, idxD_L, idxD_T, idxD_S, slcD_L, slcD_T, itemsD_L, itemsD_T, asD_shr, asD_frs, asB_ok, okCall_t, noBrw_nil, noBrw_shr, noBrw_frs, tests_nil, tests_one, at0, at1, at2, lim_eq, List.set_cons_zero, List.set_cons_succ, List.getElem?_cons_zero, List.getElem?_cons_succ, List.length_cons, List.length_nil, List.map_cons, List.map_nil, Option.map_some, Option.map_none, if_true, if_false, ite_true, ite_false, reduceIte, reduceCtorEq, decide_true, decide_false, Nat.reduceAdd, Nat.reduceSub, Nat.reduceEqDiff, Int.reduceNeg, Int.reduceLT, Int.reduceLE, Bool.not_true, Bool.not_false, Nat.reduceLeDiff, and_self, true_and, and_true, optS_some, isN_stD, cam_nmem, hi, st_at0, rof_nmem, hr, Bool.false_eq_true]
    · rw [if_neg hc] at h
      have hi : (fidx cs s).isSome = false := by
        cases e : (fidx cs s).isSome with
        | false => rfl
        | true => exact absurd (.inl e) hc
      have hr : (rulesAt xs s.1).isSome = false := by
        cases e : (rulesAt xs s.1).isSome with
        | false => rfl
        | true => exact absurd (.inr e) hc
      have hin : fidx cs s = none := by
        cases e : fidx cs s with
        | none => rfl
        | some k => rw [e] at hi; cases hi
      have nx := next_is (fu := fu) (n := n) hp hs
      have ih := met_loop (fu := fu) (n := n) hp (s1 := s1) f (cs ++ [s]) (stepV p s).1 r (step_ok hp hs) (by rw [List.length_append, List.length_singleton]; omega) h
      refine (whlGo_yes ?_ ?_).trans ih
      · unfold e_met_0
        simp only [runD, Dv.start, evSs_nil, evSs_cons, evS, evE, evL, evB, evAnd, evOr, evO, onOwn, guardO, setAll, thenS_nx, thenS_rt, thenS_ex, onV_ok, onV_ex, onB_ok, onB_ex, bindV_ok, bindV_ex, boolV_ok, bindA_ok, consA_ok, optI_none, optI_some, outcome_nx, outcome_shr, outcome_frs, outcome_ex, setV_shr, setV_frs, binD_add, binD_addT, binD_addL, binD_sub, binD_mulr, binD_mull, binD_fdiv', binD_mod', cmpD_lt, cmpD_le, cmpD_gt, cmpD_ge, cmpD_eqi, cmpD_nei, cmpD_is, cmpD_isn, cmpD_memL, cmpD_nmemL, cmpD_memT, cmpD_nmemT, isN_none, isN_int, isN_tup, isN_lst, isN_bool, isN_str, flat_int, flat_str, flat_none, flat_bool, fnD_lenL, fnD_lenT, fnD_lenS, fnD_intB, fnD_str, fnD_tupL, fnD_tupT, fnD_lstL, fnD_lstT, fnD_all, idxD_L, idxD_T, idxD_S, slcD_L, slcD_T, itemsD_L, itemsD_T, asD_shr, asD_frs, asB_ok, okCall_t, noBrw_nil, noBrw_shr, noBrw_frs, tests_nil, tests_one, at0, at1, at2, lim_eq, List.set_cons_zero, List.set_cons_succ, List.getElem?_cons_zero, List.getElem?_cons_succ, List.length_cons, List.length_nil, List.map_cons, List.map_nil, Option.map_some, Option.map_none, if_true, if_false, ite_true, ite_false, reduceIte, reduceCtorEq, decide_true, decide_false, Nat.reduceAdd, Nat.reduceSub, Nat.reduceEqDiff, Int.reduceNeg, Int.reduceLT, Int.reduceLE, Bool.not_true, Bool.not_false, Nat.reduceLeDiff, and_self, true_and, and_true, optS_some, isN_stD, cam_nmem, hi, st_at0, rof_nmem, hr]
      · unfold b_met_1
        refine (seq (dput_tk (s := s) (r := camD cs) (ke := .shr) (kk := .shr) (d := .int (cs.length : Int)) rfl (by simp only [runD, Dv.start, evSs_nil, evSs_cons, evS, evE, evL, evB, evAnd, evOr, evO, onOwn, guardO, setAll, thenS_nx, thenS_rt, thenS_ex, onV_ok, onV_ex, onB_ok, onB_ex, bindV_ok, bindV_ex, boolV_ok, bindA_ok, consA_ok, optI_none, optI_some, outcome_nx, outcome_shr, outcome_frs, outcome_ex, setV_shr, setV_frs, binD_add, binD_addT, binD_addL, binD_sub, binD_mulr, binD_mull, binD_fdiv', binD_mod', cmpD_lt, cmpD_le, cmpD_gt, cmpD_ge, cmpD_eqi, cmpD_nei, cmpD_is, cmpD_isn, cmpD_memL, cmpD_nmemL, cmpD_memT, cmpD_nmemT, isN_none, isN_int, isN_tup, isN_lst, isN_bool, isN_str, flat_int, flat_str, flat_none, flat_bool, fnD_lenL, fnD_lenT, fnD_lenS, fnD_intB, fnD_str, fnD_tupL, fnD_tupT, fnD_lstL, fnD_lstT, fnD_all, idxD_L, idxD_T, idxD_S, slcD_L, slcD_T, itemsD_L, itemsD_T, asD_shr, asD_frs, asB_ok, okCall_t, noBrw_nil, noBrw_shr, noBrw_frs, tests_nil, tests_one, at0, at1, at2, lim_eq, List.set_cons_zero, List.set_cons_succ, List.getElem?_cons_zero, List.getElem?_cons_succ, List.length_cons, List.length_nil, List.map_cons, List.map_nil, Option.map_some, Option.map_none, if_true, if_false, ite_true, ite_false, reduceIte, reduceCtorEq, decide_true, decide_false, Nat.reduceAdd, Nat.reduceSub, Nat.reduceEqDiff, Int.reduceNeg, Int.reduceLT, Int.reduceLE, Bool.not_true, Bool.not_false, Nat.reduceLeDiff, and_self, true_and, and_true, cam_len]) (by decide) (by simp only [runD, Dv.start, evSs_nil, evSs_cons, evS, evE, evL, evB, evAnd, evOr, evO, onOwn, guardO, setAll, thenS_nx, thenS_rt, thenS_ex, onV_ok, onV_ex, onB_ok, onB_ex, bindV_ok, bindV_ex, boolV_ok, bindA_ok, consA_ok, optI_none, optI_some, outcome_nx, outcome_shr, outcome_frs, outcome_ex, setV_shr, setV_frs, binD_add, binD_addT, binD_addL, binD_sub, binD_mulr, binD_mull, binD_fdiv', binD_mod', cmpD_lt, cmpD_le, cmpD_gt, cmpD_ge, cmpD_eqi, cmpD_nei, cmpD_is, cmpD_isn, cmpD_memL, cmpD_nmemL, cmpD_memT, cmpD_nmemT, isN_none, isN_int, isN_tup, isN_lst, isN_bool, isN_str, flat_int, flat_str, flat_none, flat_bool, fnD_lenL, fnD_lenT, fnD_lenS, fnD_intB, fnD_str, fnD_tupL, fnD_tupT, fnD_lstL, fnD_lstT, fnD_all, idxD_L, idxD_T, idxD_S, slcD_L, slcD_T, itemsD_L, itemsD_T, asD_shr, asD_frs, asB_ok, okCall_t, noBrw_nil, noBrw_shr, noBrw_frs, tests_nil, tests_one, at0, at1, at2, lim_eq, List.set_cons_zero, List.set_cons_succ, List.getElem?_cons_zero, List.getElem?_cons_succ, List.length_cons, List.length_nil, List.map_cons, List.map_nil, Option.map_some, Option.map_none, if_true, if_false, ite_true, ite_false, reduceIte, reduceCtorEq, decide_true, decide_false, Nat.reduceAdd, Nat.reduceSub, Nat.reduceEqDiff, Int.reduceNeg, Int.reduceLT, Int.reduceLE, Bool.not_true, Bool.not_false, Nat.reduceLeDiff, and_self, true_and, and_true, optS_some]) (by rw [camD_len]; omega))).trans ?_
        rw [camD_put hin]
        refine (seq (st' := [some (false, p.d), s1, some (false, optS (stepV p s).1), some (true, .dict (rofD xs)), some (true, tkD (camD (cs ++ [s])))]) ?_).trans evSs_nil
        simp only [runD, Dv.start, evSs_nil, evSs_cons, evS, evE, evL, evB, evAnd, evOr, evO, onOwn, guardO, setAll, thenS_nx, thenS_rt, thenS_ex, onV_ok, onV_ex, onB_ok, onB_ex, bindV_ok, bindV_ex, boolV_ok, bindA_ok, consA_ok, optI_none, optI_some, outcome_nx, outcome_shr, outcome_frs, outcome_ex, setV_shr, setV_frs, binD_add, binD_addT, binD_addL, binD_sub, binD_mulr, binD_mull, binD_fdiv', binD_mod', cmpD_lt, cmpD_le, cmpD_gt, cmpD_ge, cmpD_eqi, cmpD_nei, cmpD_is, cmpD_isn, cmpD_memL, cmpD_nmemL, cmpD_memT, cmpD_nmemT, isN_none, isN_int, isN_tup, isN_lst, isN_bool, isN_str, flat_int, flat_str, flat_none, flat_bool, fnD_lenL, fnD_lenT, fnD_lenS, fnD_intB, fnD_str, fnD_tupL, fnD_tupT, fnD_lstL, fnD_lstT, fnD_all, idxD_L, idxD_T, idxD_S, slcD_L, slcD_T, itemsD_L, itemsD_T, asD_shr, asD_frs, asB_ok, okCall_t, noBrw_nil, noBrw_shr, noBrw_frs, tests_nil, tests_one, at0, at1, at2, lim_eq, List.set_cons_zero, List.set_cons_succ, List.getElem?_cons_zero, List.getElem?_cons_succ, List.length_cons, List.length_nil, List.map_cons, List.map_nil, Option.map_some, Option.map_none, if_true, if_false, ite_true, ite_false, reduceIte, reduceCtorEq, decide_true, decide_false, Nat.reduceAdd, Nat.reduceSub, Nat.reduceEqDiff, Int.reduceNeg, Int.reduceLT, Int.reduceLE, Bool.not_true, Bool.not_false, Nat.reduceLeDiff, and_self, true_and, and_true, optS_some, nx]
theorem met_ok {fu n : Nat} (hfu : 2001 ≤ fu) (hfu2 : fu ≤ 50000) {p q : Prog} (hp : p.Ok) (hq : q.Ok) {xs : List Place} (hx : ∀ x ∈ xs, x.Ok p q) (ha : RowsApart xs) (hl : xs.length ≤ 100) {s : Stt} (hs : StateOk p s) :
    run tab fu (n + 4) "met" [p.d, placesD xs, stD s] = some (.ok .shr (metD (metV p xs s))) := by
  obtain ⟨r, h1, h2, h3⟩ := metV_eq hp xs hs
  have h4 := stop_more (fu - 2001) h1
  rw [show 2001 + (fu - 2001) = fu by omega] at h4
  have hq3 := hq.boxes
  have ns := need_state_yes (fu := fu) (n := n) p (state_plain hp.boxes hs) (state_yes hs)
  have ro := rules_of_ok (fu := fu) (n := n + 2) ha hl
  have lp := met_loop (fu := fu) (n := n + 1) hp (s1 := some (false, placesD xs)) fu [] (some s) r (fun t e => by cases e; exact hs) (by simpa using hfu2) h4
  rw [h3, run_met]
  refine runD_rt rfl ?_
  unfold d_met
  rw [show Dv.start _ _ = [some (false, p.d), some (false, placesD xs), some (false, stD s), none, none] from rfl]
  refine (seq (st' := [some (false, p.d), some (false, placesD xs), some (false, stD s), none, none]) (by simp only [runD, Dv.start, evSs_nil, evSs_cons, evS, evE, evL, evB, evAnd, evOr, evO, onOwn, guardO, setAll, thenS_nx, thenS_rt, thenS_ex, onV_ok, onV_ex, onB_ok, onB_ex, bindV_ok, bindV_ex, boolV_ok, bindA_ok, consA_ok, optI_none, optI_some, outcome_nx, outcome_shr, outcome_frs, outcome_ex, setV_shr, setV_frs, binD_add, binD_addT, binD_addL, binD_sub, binD_mulr, binD_mull, binD_fdiv', binD_mod', cmpD_lt, cmpD_le, cmpD_gt, cmpD_ge, cmpD_eqi, cmpD_nei, cmpD_is, cmpD_isn, cmpD_memL, cmpD_nmemL, cmpD_memT, cmpD_nmemT, isN_none, isN_int, isN_tup, isN_lst, isN_bool, isN_str, flat_int, flat_str, flat_none, flat_bool, fnD_lenL, fnD_lenT, fnD_lenS, fnD_intB, fnD_str, fnD_tupL, fnD_tupT, fnD_lstL, fnD_lstT, fnD_all, idxD_L, idxD_T, idxD_S, slcD_L, slcD_T, itemsD_L, itemsD_T, asD_shr, asD_frs, asB_ok, okCall_t, noBrw_nil, noBrw_shr, noBrw_frs, tests_nil, tests_one, at0, at1, at2, lim_eq, List.set_cons_zero, List.set_cons_succ, List.getElem?_cons_zero, List.getElem?_cons_succ, List.length_cons, List.length_nil, List.map_cons, List.map_nil, Option.map_some, Option.map_none, if_true, if_false, ite_true, ite_false, reduceIte, reduceCtorEq, decide_true, decide_false, Nat.reduceAdd, Nat.reduceSub, Nat.reduceEqDiff, Int.reduceNeg, Int.reduceLT, Int.reduceLE, Bool.not_true, Bool.not_false, Nat.reduceLeDiff, and_self, true_and, and_true, ns])).trans ?_
  refine (seq (st' := [some (false, p.d), some (false, placesD xs), some (false, stD s), some (true, .dict (rofD xs)), none]) (by simp only [runD, Dv.start, evSs_nil, evSs_cons, evS, evE, evL, evB, evAnd, evOr, evO, onOwn, guardO, setAll, thenS_nx, thenS_rt, thenS_ex, onV_ok, onV_ex, onB_ok, onB_ex, bindV_ok, bindV_ex, boolV_ok, bindA_ok, consA_ok, optI_none, optI_some, outcome_nx, outcome_shr, outcome_frs, outcome_ex, setV_shr, setV_frs, binD_add, binD_addT, binD_addL, binD_sub, binD_mulr, binD_mull, binD_fdiv', binD_mod', cmpD_lt, cmpD_le, cmpD_gt, cmpD_ge, cmpD_eqi, cmpD_nei, cmpD_is, cmpD_isn, cmpD_memL, cmpD_nmemL, cmpD_memT, cmpD_nmemT, isN_none, isN_int, isN_tup, isN_lst, isN_bool, isN_str, flat_int, flat_str, flat_none, flat_bool, fnD_lenL, fnD_lenT, fnD_lenS, fnD_intB, fnD_str, fnD_tupL, fnD_tupT, fnD_lstL, fnD_lstT, fnD_all, idxD_L, idxD_T, idxD_S, slcD_L, slcD_T, itemsD_L, itemsD_T, asD_shr, asD_frs, asB_ok, okCall_t, noBrw_nil, noBrw_shr, noBrw_frs, tests_nil, tests_one, at0, at1, at2, lim_eq, List.set_cons_zero, List.set_cons_succ, List.getElem?_cons_zero, List.getElem?_cons_succ, List.length_cons, List.length_nil, List.map_cons, List.map_nil, Option.map_some, Option.map_none, if_true, if_false, ite_true, ite_false, reduceIte, reduceCtorEq, decide_true, decide_false, Nat.reduceAdd, Nat.reduceSub, Nat.reduceEqDiff, Int.reduceNeg, Int.reduceLT, Int.reduceLE, Bool.not_true, Bool.not_false, Nat.reduceLeDiff, and_self, true_and, and_true, ro])).trans ?_
  refine (seq (st' := [some (false, p.d), some (false, placesD xs), some (false, stD s), some (true, .dict (rofD xs)), some (true, tkD (camD []))]) (by simp only [runD, Dv.start, evSs_nil, evSs_cons, evS, evE, evL, evB, evAnd, evOr, evO, onOwn, guardO, setAll, thenS_nx, thenS_rt, thenS_ex, onV_ok, onV_ex, onB_ok, onB_ex, bindV_ok, bindV_ex, boolV_ok, bindA_ok, consA_ok, optI_none, optI_some, outcome_nx, outcome_shr, outcome_frs, outcome_ex, setV_shr, setV_frs, binD_add, binD_addT, binD_addL, binD_sub, binD_mulr, binD_mull, binD_fdiv', binD_mod', cmpD_lt, cmpD_le, cmpD_gt, cmpD_ge, cmpD_eqi, cmpD_nei, cmpD_is, cmpD_isn, cmpD_memL, cmpD_nmemL, cmpD_memT, cmpD_nmemT, isN_none, isN_int, isN_tup, isN_lst, isN_bool, isN_str, flat_int, flat_str, flat_none, flat_bool, fnD_lenL, fnD_lenT, fnD_lenS, fnD_intB, fnD_str, fnD_tupL, fnD_tupT, fnD_lstL, fnD_lstT, fnD_all, idxD_L, idxD_T, idxD_S, slcD_L, slcD_T, itemsD_L, itemsD_T, asD_shr, asD_frs, asB_ok, okCall_t, noBrw_nil, noBrw_shr, noBrw_frs, tests_nil, tests_one, at0, at1, at2, lim_eq, List.set_cons_zero, List.set_cons_succ, List.getElem?_cons_zero, List.getElem?_cons_succ, List.length_cons, List.length_nil, List.map_cons, List.map_nil, Option.map_some, Option.map_none, if_true, if_false, ite_true, ite_false, reduceIte, reduceCtorEq, decide_true, decide_false, Nat.reduceAdd, Nat.reduceSub, Nat.reduceEqDiff, Int.reduceNeg, Int.reduceLT, Int.reduceLE, Bool.not_true, Bool.not_false, Nat.reduceLeDiff, and_self, true_and, and_true]; rfl)).trans ?_
  refine (seq (by rw [evS]; exact lp)).trans ?_
  obtain ⟨cs, o⟩ := r
  cases o with
  | none =>
    refine (seq_rt ?_).trans rfl
    simp only [runD, Dv.start, evSs_nil, evSs_cons, evS, evE, evL, evB, evAnd, evOr, evO, onOwn, guardO, setAll, thenS_nx, thenS_rt, thenS_ex, onV_ok, onV_ex, onB_ok, onB_ex, bindV_ok, bindV_ex, boolV_ok, bindA_ok, consA_ok, optI_none, optI_some, outcome_nx, outcome_shr, outcome_frs, outcome_ex, setV_shr, setV_frs, binD_add, binD_addT, binD_addL, binD_sub, binD_mulr, binD_mull, binD_fdiv', binD_mod', cmpD_lt, cmpD_le, cmpD_gt, cmpD_ge, cmpD_eqi, cmpD_nei, cmpD_is, cmpD_isn, cmpD_memL, cmpD_nmemL, cmpD_memT, cmpD_nmemT, isN_none, isN_int, isN_tup, isN_lst, isN_bool, isN_str, flat_int, flat_str, flat_none, flat_bool, fnD_lenL, fnD_lenT, fnD_lenS, fnD_intB, fnD_str, fnD_tupL, fnD_tupT, fnD_lstL, fnD_lstT, fnD_all, idxD_L, idxD_T, idxD_S, slcD_L, slcD_T, itemsD_L, itemsD_T, asD_shr, asD_frs, asB_ok, okCall_t, noBrw_nil, noBrw_shr, noBrw_frs, tests_nil, tests_one, at0, at1, at2, lim_eq, List.set_cons_zero, List.set_cons_succ, List.getElem?_cons_zero, List.getElem?_cons_succ, List.length_cons, List.length_nil, List.map_cons, List.map_nil, Option.map_some, Option.map_none, if_true, if_false, ite_true, ite_false, reduceIte, reduceCtorEq, decide_true, decide_false, Nat.reduceAdd, Nat.reduceSub, Nat.reduceEqDiff, Int.reduceNeg, Int.reduceLT, Int.reduceLE, Bool.not_true, Bool.not_false, Nat.reduceLeDiff, and_self, true_and, and_true, optS, cam_len, Nat.reduceLeDiff]
    rfl
  | some t =>
    refine (seq (st' := [some (false, p.d), some (false, placesD xs), some (false, optS (some t)), some (true, .dict (rofD xs)), some (true, tkD (camD cs))]) (by simp only [runD, Dv.start, evSs_nil, evSs_cons, evS, evE, evL, evB, evAnd, evOr, evO, onOwn, guardO, setAll, thenS_nx, thenS_rt, thenS_ex, onV_ok, onV_ex, onB_ok, onB_ex, bindV_ok, bindV_ex, boolV_ok, bindA_ok, consA_ok, optI_none, optI_some, outcome_nx, outcome_shr, outcome_frs, outcome_ex, setV_shr, setV_frs, binD_add, binD_addT, binD_addL, binD_sub, binD_mulr, binD_mull, binD_fdiv', binD_mod', cmpD_lt, cmpD_le, cmpD_gt, cmpD_ge, cmpD_eqi, cmpD_nei, cmpD_is, cmpD_isn, cmpD_memL, cmpD_nmemL, cmpD_memT, cmpD_nmemT, isN_none, isN_int, isN_tup, isN_lst, isN_bool, isN_str, flat_int, flat_str, flat_none, flat_bool, fnD_lenL, fnD_lenT, fnD_lenS, fnD_intB, fnD_str, fnD_tupL, fnD_tupT, fnD_lstL, fnD_lstT, fnD_all, idxD_L, idxD_T, idxD_S, slcD_L, slcD_T, itemsD_L, itemsD_T, asD_shr, asD_frs, asB_ok, okCall_t, noBrw_nil, noBrw_shr, noBrw_frs, tests_nil, tests_one, at0, at1, at2, lim_eq, List.set_cons_zero, List.set_cons_succ, List.getElem?_cons_zero, List.getElem?_cons_succ, List.length_cons, List.length_nil, List.map_cons, List.map_nil, Option.map_some, Option.map_none, if_true, if_false, ite_true, ite_false, reduceIte, reduceCtorEq, decide_true, decide_false, Nat.reduceAdd, Nat.reduceSub, Nat.reduceEqDiff, Int.reduceNeg, Int.reduceLT, Int.reduceLE, Bool.not_true, Bool.not_false, Nat.reduceLeDiff, and_self, true_and, and_true, optS_some, isN_stD, Bool.false_eq_true])).trans ?_
    have hat := h2.at_ t rfl
    cases hi : fidx cs t with
    | some k =>
      have hk := fidx_lt hi
      have hm : metR p xs (cs, some t) = (("missed" : Str), [k, cs.length - k]) := by simp only [metR, hi]
      rw [hm]
      have hsub : (cs.length : Int) - (k : Int) = ((cs.length - k : Nat) : Int) := by omega
      refine (seq_rt ?_).trans rfl
      simp only [runD, Dv.start, evSs_nil, evSs_cons, evS, evE, evL, evB, evAnd, evOr, evO, onOwn, guardO, setAll, thenS_nx, thenS_rt, thenS_ex, onV_ok, onV_ex, onB_ok, onB_ex, bindV_ok, bindV_ex, boolV_ok, bindA_ok, consA_ok, optI_none, optI_some, outcome_nx, outcome_shr, outcome_frs, outcome_ex, setV_shr, setV_frs, binD_add, binD_addT, binD_addL, binD_sub, binD_mulr, binD_mull, binD_fdiv', binD_mod', cmpD_lt, cmpD_le, cmpD_gt, cmpD_ge, cmpD_eqi, cmpD_nei, cmpD_is, cmpD_isn, cmpD_memL, cmpD_nmemL, cmpD_memT, cmpD_nmemT, isN_none, isN_int, isN_tup, isN_lst, isN_bool, isN_str, flat_int, flat_str, flat_none, flat_bool, fnD_lenL, fnD_lenT, fnD_lenS, fnD_intB, fnD_str, fnD_tupL, fnD_tupT, fnD_lstL, fnD_lstT, fnD_all, idxD_L, idxD_T, idxD_S, slcD_L, slcD_T, itemsD_L, itemsD_T, asD_shr, asD_frs, asB_ok, okCall_t, noBrw_nil, noBrw_shr, noBrw_frs, tests_nil, tests_one, at0, at1, at2, lim_eq, List.set_cons_zero, List.set_cons_succ, List.getElem?_cons_zero, List.getElem?_cons_succ, List.length_cons, List.length_nil, List.map_cons, List.map_nil, Option.map_some, Option.map_none, if_true, if_false, ite_true, ite_false, reduceIte, reduceCtorEq, decide_true, decide_false, Nat.reduceAdd, Nat.reduceSub, Nat.reduceEqDiff, Int.reduceNeg, Int.reduceLT, Int.reduceLE, Bool.not_true, Bool.not_false, Nat.reduceLeDiff, and_self, true_and, and_true, optS_some, cam_mem, hi, Option.isSome_some, cam_idx hi, cam_len, hsub, Nat.reduceLeDiff]
      rfl
    | none =>
      refine (seq (st' := [some (false, p.d), some (false, placesD xs), some (false, optS (some t)), some (true, .dict (rofD xs)), some (true, tkD (camD cs))]) (by simp only [runD, Dv.start, evSs_nil, evSs_cons, evS, evE, evL, evB, evAnd, evOr, evO, onOwn, guardO, setAll, thenS_nx, thenS_rt, thenS_ex, onV_ok, onV_ex, onB_ok, onB_ex, bindV_ok, bindV_ex, boolV_ok, bindA_ok, consA_ok, optI_none, optI_some, outcome_nx, outcome_shr, outcome_frs, outcome_ex, setV_shr, setV_frs, binD_add, binD_addT, binD_addL, binD_sub, binD_mulr, binD_mull, binD_fdiv', binD_mod', cmpD_lt, cmpD_le, cmpD_gt, cmpD_ge, cmpD_eqi, cmpD_nei, cmpD_is, cmpD_isn, cmpD_memL, cmpD_nmemL, cmpD_memT, cmpD_nmemT, isN_none, isN_int, isN_tup, isN_lst, isN_bool, isN_str, flat_int, flat_str, flat_none, flat_bool, fnD_lenL, fnD_lenT, fnD_lenS, fnD_intB, fnD_str, fnD_tupL, fnD_tupT, fnD_lstL, fnD_lstT, fnD_all, idxD_L, idxD_T, idxD_S, slcD_L, slcD_T, itemsD_L, itemsD_T, asD_shr, asD_frs, asB_ok, okCall_t, noBrw_nil, noBrw_shr, noBrw_frs, tests_nil, tests_one, at0, at1, at2, lim_eq, List.set_cons_zero, List.set_cons_succ, List.getElem?_cons_zero, List.getElem?_cons_succ, List.length_cons, List.length_nil, List.map_cons, List.map_nil, Option.map_some, Option.map_none, if_true, if_false, ite_true, ite_false, reduceIte, reduceCtorEq, decide_true, decide_false, Nat.reduceAdd, Nat.reduceSub, Nat.reduceEqDiff, Int.reduceNeg, Int.reduceLT, Int.reduceLE, Bool.not_true, Bool.not_false, Nat.reduceLeDiff, and_self, true_and, and_true, optS_some, cam_mem, hi, Option.isSome_none, Bool.false_eq_true])).trans ?_
      cases hr : rulesAt xs t.1 with
      | none =>
        rcases hat with h | h
        · rw [show (cs, some t).1 = cs from rfl, hi] at h; cases h
        · rw [hr] at h; cases h
      | some rs =>
        obtain ⟨hro, hrl⟩ := rulesAt_ok hx hr
        have tu := turned_ok (fu := fu) (n := n + 2) hro (by omega) (h2.st t rfl).2
        have ei := rof_idx hr
        have hm : metR p xs (cs, some t) = if (turnedV rs t.2).isNone = true then (("stuck" : Str), [cs.length]) else (("comes" : Str), [cs.length]) := by simp only [metR, hi, hr]
        rw [hm]
        have isn : isNone (optD (turnedV rs t.2)) = (turnedV rs t.2).isNone := by cases turnedV rs t.2 <;> rfl
        cases hz : (turnedV rs t.2).isNone with
        | true =>
          rw [hz] at isn
          rw [if_pos rfl]
          refine (seq_rt ?_).trans rfl
          simp only [runD, Dv.start, evSs_nil, evSs_cons, evS, evE, evL, evB, evAnd, evOr, evO, onOwn, guardO, setAll, thenS_nx, thenS_rt, thenS_ex, onV_ok, onV_ex, onB_ok, onB_ex, bindV_ok, bindV_ex, boolV_ok, bindA_ok, consA_ok, optI_none, optI_some, outcome_nx, outcome_shr, outcome_frs, outcome_ex, setV_shr, setV_frs, binD_add, binD_addT, binD_addL, binD_sub, binD_mulr, binD_mull, binD_fdiv', binD_mod', cmpD_lt, cmpD_le, cmpD_gt, cmpD_ge, cmpD_eqi, cmpD_nei, cmpD_is, cmpD_isn, cmpD_memL, cmpD_nmemL, cmpD_memT, cmpD_nmemT, isN_none, isN_int, isN_tup, isN_lst, isN_bool, isN_str, flat_int, flat_str, flat_none, flat_bool, fnD_lenL, fnD_lenT, fnD_lenS, fnD_intB, fnD_str, fnD_tupL, fnD_tupT, fnD_lstL, fnD_lstT, fnD_all, idxD_L, idxD_T, idxD_S, slcD_L, slcD_T, itemsD_L, itemsD_T, asD_shr, asD_frs, asB_ok, okCall_t, noBrw_nil, noBrw_shr, noBrw_frs, tests_nil, tests_one, at0, at1, at2, lim_eq, List.set_cons_zero, List.set_cons_succ, List.getElem?_cons_zero, List.getElem?_cons_succ, List.length_cons, List.length_nil, List.map_cons, List.map_nil, Option.map_some, Option.map_none, if_true, if_false, ite_true, ite_false, reduceIte, reduceCtorEq, decide_true, decide_false, Nat.reduceAdd, Nat.reduceSub, Nat.reduceEqDiff, Int.reduceNeg, Int.reduceLT, Int.reduceLE, Bool.not_true, Bool.not_false, Nat.reduceLeDiff, and_self, true_and, and_true, optS_some, st_at0, st_at1, ei, tu, isn, cam_len, Nat.reduceLeDiff]
          rfl
        | false =>
          rw [hz] at isn
          rw [if_neg Bool.false_ne_true]
          refine (seq (st' := [some (false, p.d), some (false, placesD xs), some (false, optS (some t)), some (true, .dict (rofD xs)), some (true, tkD (camD cs))]) (by simp only [runD, Dv.start, evSs_nil, evSs_cons, evS, evE, evL, evB, evAnd, evOr, evO, onOwn, guardO, setAll, thenS_nx, thenS_rt, thenS_ex, onV_ok, onV_ex, onB_ok, onB_ex, bindV_ok, bindV_ex, boolV_ok, bindA_ok, consA_ok, optI_none, optI_some, outcome_nx, outcome_shr, outcome_frs, outcome_ex, setV_shr, setV_frs, binD_add, binD_addT, binD_addL, binD_sub, binD_mulr, binD_mull, binD_fdiv', binD_mod', cmpD_lt, cmpD_le, cmpD_gt, cmpD_ge, cmpD_eqi, cmpD_nei, cmpD_is, cmpD_isn, cmpD_memL, cmpD_nmemL, cmpD_memT, cmpD_nmemT, isN_none, isN_int, isN_tup, isN_lst, isN_bool, isN_str, flat_int, flat_str, flat_none, flat_bool, fnD_lenL, fnD_lenT, fnD_lenS, fnD_intB, fnD_str, fnD_tupL, fnD_tupT, fnD_lstL, fnD_lstT, fnD_all, idxD_L, idxD_T, idxD_S, slcD_L, slcD_T, itemsD_L, itemsD_T, asD_shr, asD_frs, asB_ok, okCall_t, noBrw_nil, noBrw_shr, noBrw_frs, tests_nil, tests_one, at0, at1, at2, lim_eq, List.set_cons_zero, List.set_cons_succ, List.getElem?_cons_zero, List.getElem?_cons_succ, List.length_cons, List.length_nil, List.map_cons, List.map_nil, Option.map_some, Option.map_none, if_true, if_false, ite_true, ite_false, reduceIte, reduceCtorEq, decide_true, decide_false, Nat.reduceAdd, Nat.reduceSub, Nat.reduceEqDiff, Int.reduceNeg, Int.reduceLT, Int.reduceLE, Bool.not_true, Bool.not_false, Nat.reduceLeDiff, and_self, true_and, and_true, optS_some, st_at0, st_at1, ei, tu, isn, Bool.false_eq_true])).trans ?_
          refine (seq_rt ?_).trans rfl
          simp only [runD, Dv.start, evSs_nil, evSs_cons, evS, evE, evL, evB, evAnd, evOr, evO, onOwn, guardO, setAll, thenS_nx, thenS_rt, thenS_ex, onV_ok, onV_ex, onB_ok, onB_ex, bindV_ok, bindV_ex, boolV_ok, bindA_ok, consA_ok, optI_none, optI_some, outcome_nx, outcome_shr, outcome_frs, outcome_ex, setV_shr, setV_frs, binD_add, binD_addT, binD_addL, binD_sub, binD_mulr, binD_mull, binD_fdiv', binD_mod', cmpD_lt, cmpD_le, cmpD_gt, cmpD_ge, cmpD_eqi, cmpD_nei, cmpD_is, cmpD_isn, cmpD_memL, cmpD_nmemL, cmpD_memT, cmpD_nmemT, isN_none, isN_int, isN_tup, isN_lst, isN_bool, isN_str, flat_int, flat_str, flat_none, flat_bool, fnD_lenL, fnD_lenT, fnD_lenS, fnD_intB, fnD_str, fnD_tupL, fnD_tupT, fnD_lstL, fnD_lstT, fnD_all, idxD_L, idxD_T, idxD_S, slcD_L, slcD_T, itemsD_L, itemsD_T, asD_shr, asD_frs, asB_ok, okCall_t, noBrw_nil, noBrw_shr, noBrw_frs, tests_nil, tests_one, at0, at1, at2, lim_eq, List.set_cons_zero, List.set_cons_succ, List.getElem?_cons_zero, List.getElem?_cons_succ, List.length_cons, List.length_nil, List.map_cons, List.map_nil, Option.map_some, Option.map_none, if_true, if_false, ite_true, ite_false, reduceIte, reduceCtorEq, decide_true, decide_false, Nat.reduceAdd, Nat.reduceSub, Nat.reduceEqDiff, Int.reduceNeg, Int.reduceLT, Int.reduceLE, Bool.not_true, Bool.not_false, Nat.reduceLeDiff, and_self, true_and, and_true, cam_len, Nat.reduceLeDiff]
          rfl
end Law
namespace Law
open PySem Dv
theorem pick_word (b : Bool) : L2.atI [PyData.str "comes", PyData.str "stuck"] (if b = true then 1 else 0) = some (.str (if b = true then "stuck" else "comes")) := by
  cases b <;> rfl
theorem law_met_loop {fu n : Nat} {p q : Prog} (hp : p.Ok) (hq : q.Ok) {xs : List Place} (hx : ∀ x ∈ xs, x.Ok p q) : ∀ (f : Nat) (cs : List Stt) (o : Option Stt) (r : List Stt × Option Stt), (∀ s, o = some s → StateOk p s) → cs.length + f ≤ 50000 → stopGo p xs f cs o = some r →
    whlGo (evE (run tab fu (n + 2)) e_law_met_0) (evSs (run tab fu (n + 2)) fu b_law_met_1) f [some (false, p.d), some (false, .dict (rofD xs)), some (false, optS o), some (true, tkD (camD cs))] =
      match r.2 with
      | none => some (.nx [some (false, p.d), some (false, .dict (rofD xs)), some (false, .none), some (true, tkD (camD r.1))])
      | some _ => some (.rt .shr (metD (metR p xs r)))
  | 0, cs, o, r, _, _, h => by simp [stopGo] at h
  | f + 1, cs, none, r, ho, hl, h => by
    have h : some (cs, none) = some r := h
    cases h
    refine (whlGo_no ?_).trans rfl
    unfold e_law_met_0
    simp only [runD, Dv.start, evSs_nil, evSs_cons, evS, evE, evL, evB, evAnd, evOr, evO, onOwn, guardO, setAll, thenS_nx, thenS_rt, thenS_ex, onV_ok, onV_ex, onB_ok, onB_ex, bindV_ok, bindV_ex, boolV_ok, bindA_ok, consA_ok, optI_none, optI_some, outcome_nx, outcome_shr, outcome_frs, outcome_ex, setV_shr, setV_frs, binD_add, binD_addT, binD_addL, binD_sub, binD_mulr, binD_mull, binD_fdiv', binD_mod', cmpD_lt, cmpD_le, cmpD_gt, cmpD_ge, cmpD_eqi, cmpD_nei, cmpD_is, cmpD_isn, cmpD_memL, cmpD_nmemL, cmpD_memT, cmpD_nmemT, isN_none, isN_int, isN_tup, isN_lst, isN_bool, isN_str, flat_int, flat_str, flat_none, flat_bool, fnD_lenL, fnD_lenT, fnD_lenS, fnD_intB, fnD_str, fnD_tupL, fnD_tupT, fnD_lstL, fnD_lstT, fnD_all, idxD_L, idxD_T, idxD_S, slcD_L, slcD_T, itemsD_L, itemsD_T, asD_shr, asD_frs, asB_ok, okCall_t, noBrw_nil, noBrw_shr, noBrw_frs, tests_nil, tests_one, at0, at1, at2, lim_eq, List.set_cons_zero, List.set_cons_succ, List.getElem?_cons_zero, List.getElem?_cons_succ, List.length_cons, List.length_nil, List.map_cons, List.map_nil, Option.map_some, Option.map_none, if_true, if_false, ite_true, ite_false, reduceIte, reduceCtorEq, decide_true, decide_false, Nat.reduceAdd, Nat.reduceSub, Nat.reduceEqDiff, Int.reduceNeg, Int.reduceLT, Int.reduceLE, Bool.not_true, Bool.not_false, Nat.reduceLeDiff, and_self, true_and, and_true, optS]
  | f + 1, cs, some s, r, ho, hl, h => by
    have hs := ho s rfl
    have hq3 := hq.boxes
    have h : (if (fidx cs s).isSome = true ∨ (rulesAt xs s.1).isSome = true then some (cs, some s) else stopGo p xs f (cs ++ [s]) (stepV p s).1) = some r := h
    have hcond : evE (run tab fu (n + 2)) e_law_met_0 [some (false, p.d), some (false, .dict (rofD xs)), some (false, optS (some s)), some (true, tkD (camD cs))] = some (.ok .shr (.bool true)) := by
      unfold e_law_met_0
      simp only [runD, Dv.start, evSs_nil, evSs_cons, evS, evE, evL, evB, evAnd, evOr, evO, onOwn, guardO, setAll, thenS_nx, thenS_rt, thenS_ex, onV_ok, onV_ex, onB_ok, onB_ex, bindV_ok, bindV_ex, boolV_ok, bindA_ok, consA_ok, optI_none, optI_some, outcome_nx, outcome_shr, outcome_frs, outcome_ex, setV_shr, setV_frs, binD_add, binD_addT, binD_addL, binD_sub, binD_mulr, binD_mull, binD_fdiv', binD_mod', cmpD_lt, cmpD_le, cmpD_gt, cmpD_ge, cmpD_eqi, cmpD_nei, cmpD_is, cmpD_isn, cmpD_memL, cmpD_nmemL, cmpD_memT, cmpD_nmemT, isN_none, isN_int, isN_tup, isN_lst, isN_bool, isN_str, flat_int, flat_str, flat_none, flat_bool, fnD_lenL, fnD_lenT, fnD_lenS, fnD_intB, fnD_str, fnD_tupL, fnD_tupT, fnD_lstL, fnD_lstT, fnD_all, idxD_L, idxD_T, idxD_S, slcD_L, slcD_T, itemsD_L, itemsD_T, asD_shr, asD_frs, asB_ok, okCall_t, noBrw_nil, noBrw_shr, noBrw_frs, tests_nil, tests_one, at0, at1, at2, lim_eq, List.set_cons_zero, List.set_cons_succ, List.getElem?_cons_zero, List.getElem?_cons_succ, List.length_cons, List.length_nil, List.map_cons, List.map_nil, Option.map_some, Option.map_none, if_true, if_false, ite_true, ite_false, reduceIte, reduceCtorEq, decide_true, decide_false, Nat.reduceAdd, Nat.reduceSub, Nat.reduceEqDiff, Int.reduceNeg, Int.reduceLT, Int.reduceLE, Bool.not_true, Bool.not_false, Nat.reduceLeDiff, and_self, true_and, and_true, optS_some, isN_stD]
    cases hi : fidx cs s with
    | some k =>
      rw [hi, if_pos (.inl rfl)] at h
      cases h
      have hk := fidx_lt hi
      have hm : metR p xs (cs, some s) = (("missed" : Str), [k, cs.length - k]) := by simp only [metR, hi]
      have hsub : (cs.length : Int) - (k : Int) = ((cs.length - k : Nat) : Int) := by omega
      rw [hm]
      refine (whlGo_rt hcond ?_).trans rfl
      unfold b_law_met_1
      refine (seq_rt ?_).trans rfl
      simp only [runD, Dv.start, evSs_nil, evSs_cons, evS, evE, evL, evB, evAnd, evOr, evO, onOwn, guardO, setAll, thenS_nx, thenS_rt, thenS_ex, onV_ok, onV_ex, onB_ok, onB_ex, bindV_ok, bindV_ex, boolV_ok, bindA_ok, consA_ok, optI_none, optI_some, outcome_nx, outcome_shr, outcome_frs, outcome_ex, setV_shr, setV_frs, binD_add, binD_addT, binD_addL, binD_sub, binD_mulr, binD_mull, binD_fdiv', binD_mod', cmpD_lt, cmpD_le, cmpD_gt, cmpD_ge, cmpD_eqi, cmpD_nei, cmpD_is, cmpD_isn, cmpD_memL, cmpD_nmemL, cmpD_memT, cmpD_nmemT, isN_none, isN_int, isN_tup, isN_lst, isN_bool, isN_str, flat_int, flat_str, flat_none, flat_bool, fnD_lenL, fnD_lenT, fnD_lenS, fnD_intB, fnD_str, fnD_tupL, fnD_tupT, fnD_lstL, fnD_lstT, fnD_all, idxD_L, idxD_T, idxD_S, slcD_L, slcD_T, itemsD_L, itemsD_T, asD_shr, asD_frs, asB_ok, okCall_t, noBrw_nil, noBrw_shr, noBrw_frs, tests_nil, tests_one, at0, at1, at2, lim_eq, List.set_cons_zero, List.set_cons_succ, List.getElem?_cons_zero, List.getElem?_cons_succ, List.length_cons, List.length_nil, List.map_cons, List.map_nil, Option.map_some, Option.map_none, if_true, if_false, ite_true, ite_false, reduceIte, reduceCtorEq, decide_true, decide_false, Nat.reduceAdd, Nat.reduceSub, Nat.reduceEqDiff, Int.reduceNeg, Int.reduceLT, Int.reduceLE, Bool.not_true, Bool.not_false, Nat.reduceLeDiff, and_self, true_and, and_true, optS_some, cam_mem, hi, Option.isSome_some, cam_idx hi, cam_len, hsub, Nat.reduceLeDiff]
      rfl
    | none =>
      have e1 : evS (run tab fu (n + 2)) fu (.ite (.cmp .mem (.var 2) (.var 3)) [
        .ret (.tup [.str "missed", .idx (.var 3) (.var 2), .bin .sub (.fn .len (.var 3)) (.idx (.var 3) (.var 2))])] []) [some (false, p.d), some (false, .dict (rofD xs)), some (false, optS (some s)), some (true, tkD (camD cs))] = some (.nx [some (false, p.d), some (false, .dict (rofD xs)), some (false, optS (some s)), some (true, tkD (camD cs))]) := by
        simp only [runD, Dv.start, evSs_nil, evSs_cons, evS, evE, evL, evB, evAnd, evOr, evO, onOwn, guardO, setAll, thenS_nx, thenS_rt, thenS_ex, onV_ok, onV_ex, onB_ok, onB_ex, bindV_ok, bindV_ex, boolV_ok, bindA_ok, consA_ok, optI_none, optI_some, outcome_nx, outcome_shr, outcome_frs, outcome_ex, setV_shr, setV_frs, binD_add, binD_addT, binD_addL, binD_sub, binD_mulr, binD_mull, binD_fdiv', binD_mod', cmpD_lt, cmpD_le, cmpD_gt, cmpD_ge, cmpD_eqi, cmpD_nei, cmpD_is, cmpD_isn, cmpD_memL, cmpD_nmemL, cmpD_memT, cmpD_nmemT, isN_none, isN_int, isN_tup, isN_lst, isN_bool, isN_str, flat_int, flat_str, flat_none, flat_bool, fnD_lenL, fnD_lenT, fnD_lenS, fnD_intB, fnD_str, fnD_tupL, fnD_tupT, fnD_lstL, fnD_lstT, fnD_all, idxD_L, idxD_T, idxD_S, slcD_L, slcD_T, itemsD_L, itemsD_T, asD_shr, asD_frs, asB_ok, okCall_t, noBrw_nil, noBrw_shr, noBrw_frs, tests_nil, tests_one, at0, at1, at2, lim_eq, List.set_cons_zero, List.set_cons_succ, List.getElem?_cons_zero, List.getElem?_cons_succ, List.length_cons, List.length_nil, List.map_cons, List.map_nil, Option.map_some, Option.map_none, if_true, if_false, ite_true, ite_false, reduceIte, reduceCtorEq, decide_true, decide_false, Nat.reduceAdd, Nat.reduceSub, Nat.reduceEqDiff, Int.reduceNeg, Int.reduceLT, Int.reduceLE, Bool.not_true, Bool.not_false, Nat.reduceLeDiff, and_self, true_and, and_true, optS_some, cam_mem, hi, Option.isSome_none, Bool.false_eq_true]
      cases hr : rulesAt xs s.1 with
      | some rs =>
        rw [hr, if_pos (.inr rfl)] at h
        cases h
        obtain ⟨hro, hrl⟩ := rulesAt_ok hx hr
        have tu := law_turned_ok (fu := fu) (n := n + 1) hro (by omega) hs.2
        have ei := rof_idx hr
        have isn : isNone (optD (turnedV rs s.2)) = (turnedV rs s.2).isNone := by cases turnedV rs s.2 <;> rfl
        have hm : metR p xs (cs, some s) = ((if (turnedV rs s.2).isNone = true then "stuck" else "comes" : Str), [cs.length]) := by
          simp only [metR, hi, hr]
          split <;> rfl
        rw [hm]
        refine (whlGo_rt hcond ?_).trans rfl
        unfold b_law_met_1
        refine (seq e1).trans ?_
        refine (seq_rt ?_).trans rfl
        simp only [runD, Dv.start, evSs_nil, evSs_cons, evS, evE, evL, evB, evAnd, evOr, evO, onOwn, guardO, setAll, thenS_nx, thenS_rt, thenS_ex, onV_ok, onV_ex, onB_ok, onB_ex, bindV_ok, bindV_ex, boolV_ok, bindA_ok, consA_ok, optI_none, optI_some, outcome_nx, outcome_shr, outcome_frs, outcome_ex, setV_shr, setV_frs, binD_add, binD_addT, binD_addL, binD_sub, binD_mulr, binD_mull, binD_fdiv', binD_mod', cmpD_lt, cmpD_le, cmpD_gt, cmpD_ge, cmpD_eqi, cmpD_nei, cmpD_is, cmpD_isn, cmpD_memL, cmpD_nmemL, cmpD_memT, cmpD_nmemT, isN_none, isN_int, isN_tup, isN_lst, isN_bool, isN_str, flat_int, flat_str, flat_none, flat_bool, fnD_lenL, fnD_lenT, fnD_lenS, fnD_intB, fnD_str, fnD_tupL, fnD_tupT, fnD_lstL, fnD_lstT, fnD_all, idxD_L, idxD_T, idxD_S, slcD_L, slcD_T, itemsD_L, itemsD_T, asD_shr, asD_frs, asB_ok, okCall_t, noBrw_nil, noBrw_shr, noBrw_frs, tests_nil, tests_one, at0, at1, at2, lim_eq, List.set_cons_zero, List.set_cons_succ, List.getElem?_cons_zero, List.getElem?_cons_succ, List.length_cons, List.length_nil, List.map_cons, List.map_nil, Option.map_some, Option.map_none, if_true, if_false, ite_true, ite_false, reduceIte, reduceCtorEq, decide_true, decide_false, Nat.reduceAdd, Nat.reduceSub, Nat.reduceEqDiff, Int.reduceNeg, Int.reduceLT, Int.reduceLE, Bool.not_true, Bool.not_false, Nat.reduceLeDiff, and_self, true_and, and_true, optS_some, st_at0, st_at1, rof_mem, hr, Option.isSome_some, ei, tu, isn, pick_word, cam_len, Nat.reduceLeDiff]
        rfl
      | none =>
        have hno : ¬ ((fidx cs s).isSome = true ∨ (rulesAt xs s.1).isSome = true) := by
          rw [hi, hr]; simp
        rw [if_neg hno] at h
        have ls := law_step_is (fu := fu) (n := n) hp hs
        have ih := law_met_loop (fu := fu) (n := n) hp hq hx f (cs ++ [s]) (stepV p s).1 r (step_ok hp hs) (by rw [List.length_append, List.length_singleton]; omega) h
        refine (whlGo_yes hcond ?_).trans ih
        unfold b_law_met_1
        refine (seq e1).trans ?_
        refine (seq (st' := [some (false, p.d), some (false, .dict (rofD xs)), some (false, optS (some s)), some (true, tkD (camD cs))]) (by simp only [runD, Dv.start, evSs_nil, evSs_cons, evS, evE, evL, evB, evAnd, evOr, evO, onOwn, guardO, setAll, thenS_nx, thenS_rt, thenS_ex, onV_ok, onV_ex, onB_ok, onB_ex, bindV_ok, bindV_ex, boolV_ok, bindA_ok, consA_ok, optI_none, optI_some, outcome_nx, outcome_shr, outcome_frs, outcome_ex, setV_shr, setV_frs, binD_add, binD_addT, binD_addL, binD_sub, binD_mulr, binD_mull, binD_fdiv', binD_mod', cmpD_lt, cmpD_le, cmpD_gt, cmpD_ge, cmpD_eqi, cmpD_nei, cmpD_is, cmpD_isn, cmpD_memL, cmpD_nmemL, cmpD_memT, cmpD_nmemT, isN_none, isN_int, isN_tup, isN_lst, isN_bool, isN_str, flat_int, flat_str, flat_none, flat_bool, fnD_lenL, fnD_lenT, fnD_lenS, fnD_intB, fnD_str, fnD_tupL, fnD_tupT, fnD_lstL, fnD_lstT, fnD_all, idxD_L, idxD_T, idxD_S, slcD_L, slcD_T, itemsD_L, itemsD_T, asD_shr, asD_frs, asB_ok, okCall_t, noBrw_nil, noBrw_shr, noBrw_frs, tests_nil, tests_one, at0, at1, at2, lim_eq, List.set_cons_zero, List.set_cons_succ, List.getElem?_cons_zero, List.getElem?_cons_succ, List.length_cons, List.length_nil, List.map_cons, List.map_nil, Option.map_some, Option.map_none, if_true, if_false, ite_true, ite_false, reduceIte, reduceCtorEq, decide_true, decide_false, Nat.reduceAdd, Nat.reduceSub, Nat.reduceEqDiff, Int.reduceNeg, Int.reduceLT, Int.reduceLE, Bool.not_true, Bool.not_false, Nat.reduceLeDiff, and_self, true_and, and_true, optS_some, st_at0, rof_mem, hr, Option.isSome_none, Bool.false_eq_true])).trans ?_
        refine (seq (dput_tk (s := s) (r := camD cs) (ke := .shr) (kk := .shr) (d := .int (cs.length : Int)) rfl (by simp only [runD, Dv.start, evSs_nil, evSs_cons, evS, evE, evL, evB, evAnd, evOr, evO, onOwn, guardO, setAll, thenS_nx, thenS_rt, thenS_ex, onV_ok, onV_ex, onB_ok, onB_ex, bindV_ok, bindV_ex, boolV_ok, bindA_ok, consA_ok, optI_none, optI_some, outcome_nx, outcome_shr, outcome_frs, outcome_ex, setV_shr, setV_frs, binD_add, binD_addT, binD_addL, binD_sub, binD_mulr, binD_mull, binD_fdiv', binD_mod', cmpD_lt, cmpD_le, cmpD_gt, cmpD_ge, cmpD_eqi, cmpD_nei, cmpD_is, cmpD_isn, cmpD_memL, cmpD_nmemL, cmpD_memT, cmpD_nmemT, isN_none, isN_int, isN_tup, isN_lst, isN_bool, isN_str, flat_int, flat_str, flat_none, flat_bool, fnD_lenL, fnD_lenT, fnD_lenS, fnD_intB, fnD_str, fnD_tupL, fnD_tupT, fnD_lstL, fnD_lstT, fnD_all, idxD_L, idxD_T, idxD_S, slcD_L, slcD_T, itemsD_L, itemsD_T, asD_shr, asD_frs, asB_ok, okCall_t, noBrw_nil, noBrw_shr, noBrw_frs, tests_nil, tests_one, at0, at1, at2, lim_eq, List.set_cons_zero, List.set_cons_succ, List.getElem?_cons_zero, List.getElem?_cons_succ, List.length_cons, List.length_nil, List.map_cons, List.map_nil, Option.map_some, Option.map_none, if_true, if_false, ite_true, ite_false, reduceIte, reduceCtorEq, decide_true, decide_false, Nat.reduceAdd, Nat.reduceSub, Nat.reduceEqDiff, Int.reduceNeg, Int.reduceLT, Int.reduceLE, Bool.not_true, Bool.not_false, Nat.reduceLeDiff, and_self, true_and, and_true, cam_len]) (by decide) (by simp only [runD, Dv.start, evSs_nil, evSs_cons, evS, evE, evL, evB, evAnd, evOr, evO, onOwn, guardO, setAll, thenS_nx, thenS_rt, thenS_ex, onV_ok, onV_ex, onB_ok, onB_ex, bindV_ok, bindV_ex, boolV_ok, bindA_ok, consA_ok, optI_none, optI_some, outcome_nx, outcome_shr, outcome_frs, outcome_ex, setV_shr, setV_frs, binD_add, binD_addT, binD_addL, binD_sub, binD_mulr, binD_mull, binD_fdiv', binD_mod', cmpD_lt, cmpD_le, cmpD_gt, cmpD_ge, cmpD_eqi, cmpD_nei, cmpD_is, cmpD_isn, cmpD_memL, cmpD_nmemL, cmpD_memT, cmpD_nmemT, isN_none, isN_int, isN_tup, isN_lst, isN_bool, isN_str, flat_int, flat_str, flat_none, flat_bool, fnD_lenL, fnD_lenT, fnD_lenS, fnD_intB, fnD_str, fnD_tupL, fnD_tupT, fnD_lstL, fnD_lstT, fnD_all, idxD_L, idxD_T, idxD_S, slcD_L, slcD_T, itemsD_L, itemsD_T, asD_shr, asD_frs, asB_ok, okCall_t, noBrw_nil, noBrw_shr, noBrw_frs, tests_nil, tests_one, at0, at1, at2, lim_eq, List.set_cons_zero, List.set_cons_succ, List.getElem?_cons_zero, List.getElem?_cons_succ, List.length_cons, List.length_nil, List.map_cons, List.map_nil, Option.map_some, Option.map_none, if_true, if_false, ite_true, ite_false, reduceIte, reduceCtorEq, decide_true, decide_false, Nat.reduceAdd, Nat.reduceSub, Nat.reduceEqDiff, Int.reduceNeg, Int.reduceLT, Int.reduceLE, Bool.not_true, Bool.not_false, Nat.reduceLeDiff, and_self, true_and, and_true, optS_some]) (by rw [camD_len]; omega))).trans ?_
        rw [camD_put hi]
        refine (seq (st' := [some (false, p.d), some (false, .dict (rofD xs)), some (false, optS (stepV p s).1), some (true, tkD (camD (cs ++ [s])))]) ?_).trans evSs_nil
        simp only [runD, Dv.start, evSs_nil, evSs_cons, evS, evE, evL, evB, evAnd, evOr, evO, onOwn, guardO, setAll, thenS_nx, thenS_rt, thenS_ex, onV_ok, onV_ex, onB_ok, onB_ex, bindV_ok, bindV_ex, boolV_ok, bindA_ok, consA_ok, optI_none, optI_some, outcome_nx, outcome_shr, outcome_frs, outcome_ex, setV_shr, setV_frs, binD_add, binD_addT, binD_addL, binD_sub, binD_mulr, binD_mull, binD_fdiv', binD_mod', cmpD_lt, cmpD_le, cmpD_gt, cmpD_ge, cmpD_eqi, cmpD_nei, cmpD_is, cmpD_isn, cmpD_memL, cmpD_nmemL, cmpD_memT, cmpD_nmemT, isN_none, isN_int, isN_tup, isN_lst, isN_bool, isN_str, flat_int, flat_str, flat_none, flat_bool, fnD_lenL, fnD_lenT, fnD_lenS, fnD_intB, fnD_str, fnD_tupL, fnD_tupT, fnD_lstL, fnD_lstT, fnD_all, idxD_L, idxD_T, idxD_S, slcD_L, slcD_T, itemsD_L, itemsD_T, asD_shr, asD_frs, asB_ok, okCall_t, noBrw_nil, noBrw_shr, noBrw_frs, tests_nil, tests_one, at0, at1, at2, lim_eq, List.set_cons_zero, List.set_cons_succ, List.getElem?_cons_zero, List.getElem?_cons_succ, List.length_cons, List.length_nil, List.map_cons, List.map_nil, Option.map_some, Option.map_none, if_true, if_false, ite_true, ite_false, reduceIte, reduceCtorEq, decide_true, decide_false, Nat.reduceAdd, Nat.reduceSub, Nat.reduceEqDiff, Int.reduceNeg, Int.reduceLT, Int.reduceLE, Bool.not_true, Bool.not_false, Nat.reduceLeDiff, and_self, true_and, and_true, optS_some, ls, pairD]
theorem law_met_ok {fu n : Nat} (hfu : 2001 ≤ fu) (hfu2 : fu ≤ 50000) {p q : Prog} (hp : p.Ok) (hq : q.Ok) {xs : List Place} (hx : ∀ x ∈ xs, x.Ok p q) {s : Stt} (hs : StateOk p s) :
    run tab fu (n + 3) "_law_met" [p.d, .dict (rofD xs), stD s] = some (.ok .shr (metD (metV p xs s))) := by
  obtain ⟨r, h1, h2, h3⟩ := metV_eq hp xs hs
  have h4 := stop_more (fu - 2001) h1
  rw [show 2001 + (fu - 2001) = fu by omega] at h4
  have lp := law_met_loop (fu := fu) (n := n) hp hq hx fu [] (some s) r (fun t e => by cases e; exact hs) (by simpa using hfu2) h4
  rw [h3, run_law_met]
  refine runD_rt rfl ?_
  unfold d_law_met
  rw [show Dv.start _ _ = [some (false, p.d), some (false, .dict (rofD xs)), some (false, stD s), none] from rfl]
  refine (seq (st' := [some (false, p.d), some (false, .dict (rofD xs)), some (false, stD s), some (true, tkD (camD []))]) (by simp only [runD, Dv.start, evSs_nil, evSs_cons, evS, evE, evL, evB, evAnd, evOr, evO, onOwn, guardO, setAll, thenS_nx, thenS_rt, thenS_ex, onV_ok, onV_ex, onB_ok, onB_ex, bindV_ok, bindV_ex, boolV_ok, bindA_ok, consA_ok, optI_none, optI_some, outcome_nx, outcome_shr, outcome_frs, outcome_ex, setV_shr, setV_frs, binD_add, binD_addT, binD_addL, binD_sub, binD_mulr, binD_mull, binD_fdiv', binD_mod', cmpD_lt, cmpD_le, cmpD_gt, cmpD_ge, cmpD_eqi, cmpD_nei, cmpD_is, cmpD_isn, cmpD_memL, cmpD_nmemL, cmpD_memT, cmpD_nmemT, isN_none, isN_int, isN_tup, isN_lst, isN_bool, isN_str, flat_int, flat_str, flat_none, flat_bool, fnD_lenL, fnD_lenT, fnD_lenS, fnD_intB, fnD_str, fnD_tupL, fnD_tupT, fnD_lstL, fnD_lstT, fnD_all, idxD_L, idxD_T, idxD_S, slcD_L, slcD_T, itemsD_L, itemsD_T, asD_shr, asD_frs, asB_ok, okCall_t, noBrw_nil, noBrw_shr, noBrw_frs, tests_nil, tests_one, at0, at1, at2, lim_eq, List.set_cons_zero, List.set_cons_succ, List.getElem?_cons_zero, List.getElem?_cons_succ, List.length_cons, List.length_nil, List.map_cons, List.map_nil, Option.map_some, Option.map_none, if_true, if_false, ite_true, ite_false, reduceIte, reduceCtorEq, decide_true, decide_false, Nat.reduceAdd, Nat.reduceSub, Nat.reduceEqDiff, Int.reduceNeg, Int.reduceLT, Int.reduceLE, Bool.not_true, Bool.not_false, Nat.reduceLeDiff, and_self, true_and, and_true]; rfl)).trans ?_
  obtain ⟨cs, o⟩ := r
  cases o with
  | some t => exact (seq_rt (by rw [evS]; exact lp)).trans rfl
  | none =>
    refine (seq (by rw [evS]; exact lp)).trans ?_
    refine (seq_rt ?_).trans rfl
    simp only [runD, Dv.start, evSs_nil, evSs_cons, evS, evE, evL, evB, evAnd, evOr, evO, onOwn, guardO, setAll, thenS_nx, thenS_rt, thenS_ex, onV_ok, onV_ex, onB_ok, onB_ex, bindV_ok, bindV_ex, boolV_ok, bindA_ok, consA_ok, optI_none, optI_some, outcome_nx, outcome_shr, outcome_frs, outcome_ex, setV_shr, setV_frs, binD_add, binD_addT, binD_addL, binD_sub, binD_mulr, binD_mull, binD_fdiv', binD_mod', cmpD_lt, cmpD_le, cmpD_gt, cmpD_ge, cmpD_eqi, cmpD_nei, cmpD_is, cmpD_isn, cmpD_memL, cmpD_nmemL, cmpD_memT, cmpD_nmemT, isN_none, isN_int, isN_tup, isN_lst, isN_bool, isN_str, flat_int, flat_str, flat_none, flat_bool, fnD_lenL, fnD_lenT, fnD_lenS, fnD_intB, fnD_str, fnD_tupL, fnD_tupT, fnD_lstL, fnD_lstT, fnD_all, idxD_L, idxD_T, idxD_S, slcD_L, slcD_T, itemsD_L, itemsD_T, asD_shr, asD_frs, asB_ok, okCall_t, noBrw_nil, noBrw_shr, noBrw_frs, tests_nil, tests_one, at0, at1, at2, lim_eq, List.set_cons_zero, List.set_cons_succ, List.getElem?_cons_zero, List.getElem?_cons_succ, List.length_cons, List.length_nil, List.map_cons, List.map_nil, Option.map_some, Option.map_none, if_true, if_false, ite_true, ite_false, reduceIte, reduceCtorEq, decide_true, decide_false, Nat.reduceAdd, Nat.reduceSub, Nat.reduceEqDiff, Int.reduceNeg, Int.reduceLT, Int.reduceLE, Bool.not_true, Bool.not_false, Nat.reduceLeDiff, and_self, true_and, and_true, cam_len, Nat.reduceLeDiff]
    rfl
theorem metR_word (p : Prog) (xs : List Place) (r : List Stt × Option Stt) : PyData.strOk (metR p xs r).1 = true := by
  obtain ⟨cs, o⟩ := r
  cases o with
  | none => exact (by decide +kernel : PyData.strOk "over" = true)
  | some s =>
    unfold metR
    split
    · exact (by decide +kernel : PyData.strOk "over" = true)
    · split
      · exact (by decide +kernel : PyData.strOk "missed" = true)
      · split
        · split
          · exact (by decide +kernel : PyData.strOk "stuck" = true)
          · exact (by decide +kernel : PyData.strOk "comes" = true)
        · exact (by decide +kernel : PyData.strOk "" = true)
theorem metR_len (p : Prog) (xs : List Place) (r : List Stt × Option Stt) : (metR p xs r).2.length ≤ 2 := by
  obtain ⟨cs, o⟩ := r
  cases o with
  | none => exact (by decide : 1 ≤ 2)
  | some s =>
    unfold metR
    split
    · exact (by simp)
    · split
      · simp
      · split
        · split <;> simp
        · simp
theorem metV_word (p : Prog) (xs : List Place) (s : Stt) : PyData.strOk (metV p xs s).1 = true := by
  unfold metV
  split
  · exact metR_word _ _ _
  · exact (by decide +kernel : PyData.strOk "" = true)
theorem metV_len (p : Prog) (xs : List Place) (s : Stt) : (metV p xs s).2.length ≤ 2 := by
  unfold metV
  split
  · exact metR_len _ _ _
  · exact (by simp)
theorem metD_fine (m : Str × List Nat) (h : PyData.strOk m.1 = true) : fine 1 (metD m) := fine_tup fun d hd => by
  rcases List.mem_cons.mp hd with rfl | hd
  · exact fine_str 0 _ h
  · obtain ⟨n, _, rfl⟩ := List.mem_map.mp hd
    exact fine_int 0 _
end Law
namespace Law
open PySem Dv
theorem is_met_ok {fu n : Nat} {m : Str × List Nat} (h : PyData.strOk m.1 = true) (hl : m.2.length ≤ 2) : run tab fu (n + 1) "_law_is" [metD m, metD m] = some (.ok .shr (.bool true)) := by
  rw [run_law_is]
  refine runD_rt rfl ?_
  unfold d_law_is
  rw [show Dv.start _ _ = [some (false, metD m), some (false, metD m), none] from rfl]
  have hne : cmpD .ne (metD m) (metD m) = some false := by
    rw [cmpD_nef (metD_fine m h) (metD_fine m h) (by decide) (by decide), (metD_fine m h).refl]; rfl
  have hty : okTy (metD m) = true := rfl
  have hin : isInst (metD m) .tuple = true := rfl
  refine (seq (st' := [some (false, metD m), some (false, metD m), none]) (by simp only [runD, Dv.start, evSs_nil, evSs_cons, evS, evE, evL, evB, evAnd, evOr, evO, onOwn, guardO, setAll, thenS_nx, thenS_rt, thenS_ex, onV_ok, onV_ex, onB_ok, onB_ex, bindV_ok, bindV_ex, boolV_ok, bindA_ok, consA_ok, optI_none, optI_some, outcome_nx, outcome_shr, outcome_frs, outcome_ex, setV_shr, setV_frs, binD_add, binD_addT, binD_addL, binD_sub, binD_mulr, binD_mull, binD_fdiv', binD_mod', cmpD_lt, cmpD_le, cmpD_gt, cmpD_ge, cmpD_eqi, cmpD_nei, cmpD_is, cmpD_isn, cmpD_memL, cmpD_nmemL, cmpD_memT, cmpD_nmemT, isN_none, isN_int, isN_tup, isN_lst, isN_bool, isN_str, flat_int, flat_str, flat_none, flat_bool, fnD_lenL, fnD_lenT, fnD_lenS, fnD_intB, fnD_str, fnD_tupL, fnD_tupT, fnD_lstL, fnD_lstT, fnD_all, idxD_L, idxD_T, idxD_S, slcD_L, slcD_T, itemsD_L, itemsD_T, asD_shr, asD_frs, asB_ok, okCall_t, noBrw_nil, noBrw_shr, noBrw_frs, tests_nil, tests_one, at0, at1, at2, lim_eq, List.set_cons_zero, List.set_cons_succ, List.getElem?_cons_zero, List.getElem?_cons_succ, List.length_cons, List.length_nil, List.map_cons, List.map_nil, Option.map_some, Option.map_none, if_true, if_false, ite_true, ite_false, reduceIte, reduceCtorEq, decide_true, decide_false, Nat.reduceAdd, Nat.reduceSub, Nat.reduceEqDiff, Int.reduceNeg, Int.reduceLT, Int.reduceLE, Bool.not_true, Bool.not_false, Nat.reduceLeDiff, and_self, true_and, and_true, hty, hin, hne, Bool.false_eq_true])).trans ?_
  have hsl : evE (run tab fu n) (.slc (.var 0) (some (.int 1)) none) [some (false, metD m), some (false, metD m), none] = some (.ok .shr (.tuple (m.2.map fun (n : Nat) => PyData.int (n : Int)))) := by
    have e : slcD (metD m) (some 1) none = some (.ok .shr (.tuple (m.2.map fun (n : Nat) => PyData.int (n : Int)))) := by
      show some (EO.ok .shr (.tuple (cutD (.str m.1 :: m.2.map fun (n : Nat) => PyData.int (n : Int)) (some ((1 : Nat) : Int)) none))) = _
      rw [cut_drop (by simp)]
      rfl
    simp only [runD, Dv.start, evSs_nil, evSs_cons, evS, evE, evL, evB, evAnd, evOr, evO, onOwn, guardO, setAll, thenS_nx, thenS_rt, thenS_ex, onV_ok, onV_ex, onB_ok, onB_ex, bindV_ok, bindV_ex, boolV_ok, bindA_ok, consA_ok, optI_none, optI_some, outcome_nx, outcome_shr, outcome_frs, outcome_ex, setV_shr, setV_frs, binD_add, binD_addT, binD_addL, binD_sub, binD_mulr, binD_mull, binD_fdiv', binD_mod', cmpD_lt, cmpD_le, cmpD_gt, cmpD_ge, cmpD_eqi, cmpD_nei, cmpD_is, cmpD_isn, cmpD_memL, cmpD_nmemL, cmpD_memT, cmpD_nmemT, isN_none, isN_int, isN_tup, isN_lst, isN_bool, isN_str, flat_int, flat_str, flat_none, flat_bool, fnD_lenL, fnD_lenT, fnD_lenS, fnD_intB, fnD_str, fnD_tupL, fnD_tupT, fnD_lstL, fnD_lstT, fnD_all, idxD_L, idxD_T, idxD_S, slcD_L, slcD_T, itemsD_L, itemsD_T, asD_shr, asD_frs, asB_ok, okCall_t, noBrw_nil, noBrw_shr, noBrw_frs, tests_nil, tests_one, at0, at1, at2, lim_eq, List.set_cons_zero, List.set_cons_succ, List.getElem?_cons_zero, List.getElem?_cons_succ, List.length_cons, List.length_nil, List.map_cons, List.map_nil, Option.map_some, Option.map_none, if_true, if_false, ite_true, ite_false, reduceIte, reduceCtorEq, decide_true, decide_false, Nat.reduceAdd, Nat.reduceSub, Nat.reduceEqDiff, Int.reduceNeg, Int.reduceLT, Int.reduceLE, Bool.not_true, Bool.not_false, Nat.reduceLeDiff, and_self, true_and, and_true, e]
  have hcg : evE (run tab fu n) (.cmpL e_law_is_1 2 (.slc (.var 0) (some (.int 1)) none) i_law_is_0) [some (false, metD m), some (false, metD m), none] = some (.ok .frs (.list ((m.2.map fun (n : Nat) => PyData.int (n : Int)).map fun _ => .bool true))) := by
    unfold i_law_is_0
    refine cmpL_map (k := .shr) (d := .tuple (m.2.map fun (n : Nat) => PyData.int (n : Int))) (fun _ => .bool true) hsl rfl (fun y hy => ?_) (by rw [List.length_map]; omega)
    obtain ⟨k, _, rfl⟩ := List.mem_map.mp hy
    unfold e_law_is_1
    simp only [runD, Dv.start, evSs_nil, evSs_cons, evS, evE, evL, evB, evAnd, evOr, evO, onOwn, guardO, setAll, thenS_nx, thenS_rt, thenS_ex, onV_ok, onV_ex, onB_ok, onB_ex, bindV_ok, bindV_ex, boolV_ok, bindA_ok, consA_ok, optI_none, optI_some, outcome_nx, outcome_shr, outcome_frs, outcome_ex, setV_shr, setV_frs, binD_add, binD_addT, binD_addL, binD_sub, binD_mulr, binD_mull, binD_fdiv', binD_mod', cmpD_lt, cmpD_le, cmpD_gt, cmpD_ge, cmpD_eqi, cmpD_nei, cmpD_is, cmpD_isn, cmpD_memL, cmpD_nmemL, cmpD_memT, cmpD_nmemT, isN_none, isN_int, isN_tup, isN_lst, isN_bool, isN_str, flat_int, flat_str, flat_none, flat_bool, fnD_lenL, fnD_lenT, fnD_lenS, fnD_intB, fnD_str, fnD_tupL, fnD_tupT, fnD_lstL, fnD_lstT, fnD_all, idxD_L, idxD_T, idxD_S, slcD_L, slcD_T, itemsD_L, itemsD_T, asD_shr, asD_frs, asB_ok, okCall_t, noBrw_nil, noBrw_shr, noBrw_frs, tests_nil, tests_one, at0, at1, at2, lim_eq, List.set_cons_zero, List.set_cons_succ, List.getElem?_cons_zero, List.getElem?_cons_succ, List.length_cons, List.length_nil, List.map_cons, List.map_nil, Option.map_some, Option.map_none, if_true, if_false, ite_true, ite_false, reduceIte, reduceCtorEq, decide_true, decide_false, Nat.reduceAdd, Nat.reduceSub, Nat.reduceEqDiff, Int.reduceNeg, Int.reduceLT, Int.reduceLE, Bool.not_true, Bool.not_false, Nat.reduceLeDiff, and_self, true_and, and_true, okTy, isInst]
  refine (seq_rt ?_).trans rfl
  have hb : bools ((m.2.map fun (n : Nat) => PyData.int (n : Int)).map fun _ => PyData.bool true) = some ((m.2.map fun (n : Nat) => PyData.int (n : Int)).map fun _ => true) := bools_map (fun _ => true) _
  rw [evS, evE, hcg, bindV_ok, fnD_all, hb]
  simp only [runD, Dv.start, evSs_nil, evSs_cons, evS, evE, evL, evB, evAnd, evOr, evO, onOwn, guardO, setAll, thenS_nx, thenS_rt, thenS_ex, onV_ok, onV_ex, onB_ok, onB_ex, bindV_ok, bindV_ex, boolV_ok, bindA_ok, consA_ok, optI_none, optI_some, outcome_nx, outcome_shr, outcome_frs, outcome_ex, setV_shr, setV_frs, binD_add, binD_addT, binD_addL, binD_sub, binD_mulr, binD_mull, binD_fdiv', binD_mod', cmpD_lt, cmpD_le, cmpD_gt, cmpD_ge, cmpD_eqi, cmpD_nei, cmpD_is, cmpD_isn, cmpD_memL, cmpD_nmemL, cmpD_memT, cmpD_nmemT, isN_none, isN_int, isN_tup, isN_lst, isN_bool, isN_str, flat_int, flat_str, flat_none, flat_bool, fnD_lenL, fnD_lenT, fnD_lenS, fnD_intB, fnD_str, fnD_tupL, fnD_tupT, fnD_lstL, fnD_lstT, fnD_all, idxD_L, idxD_T, idxD_S, slcD_L, slcD_T, itemsD_L, itemsD_T, asD_shr, asD_frs, asB_ok, okCall_t, noBrw_nil, noBrw_shr, noBrw_frs, tests_nil, tests_one, at0, at1, at2, lim_eq, List.set_cons_zero, List.set_cons_succ, List.getElem?_cons_zero, List.getElem?_cons_succ, List.length_cons, List.length_nil, List.map_cons, List.map_nil, Option.map_some, Option.map_none, if_true, if_false, ite_true, ite_false, reduceIte, reduceCtorEq, decide_true, decide_false, Nat.reduceAdd, Nat.reduceSub, Nat.reduceEqDiff, Int.reduceNeg, Int.reduceLT, Int.reduceLE, Bool.not_true, Bool.not_false, Nat.reduceLeDiff, and_self, true_and, and_true]
  simp
theorem suite_st : evHs "BadState" [] [(4, .isEs ["BadCount", "BadPlaces", "BadProgram", "Busy", "Over", "Unsafe"])] (.and3 (.isE "BadState") (.isV) (.not (.var 4))) = some (.b true) := by
  have e1 : (["BadCount", "BadPlaces", "BadProgram", "Busy", "Over", "Unsafe"] : List Str).any (isSub "BadState") = false := by decide +kernel
  have e2 : isSub "BadState" "BadState" = true := by decide +kernel
  simp [evHs, evH, e1, e2, List.lookup]
theorem refused_ok {fu n : Nat} {p : Prog} {x d : D} (h : plainState d = true) (hv : stateV p d = false) : run tab fu (n + 5) "_law_refused" [p.d, x, d] = some (.ok .shr (.bool true)) := by
  have e1 := need_state_no (fu := fu) (n := n) p h hv
  have e2 : run tab fu (n + 4) "met" [p.d, x, d] = some (.ex "BadState") := by
    rw [run_met]
    refine runD_ex rfl ?_
    unfold d_met
    rw [show Dv.start _ _ = [some (false, p.d), some (false, x), some (false, d), none, none] from rfl]
    exact seq_ex (by simp only [runD, Dv.start, evSs_nil, evSs_cons, evS, evE, evL, evB, evAnd, evOr, evO, onOwn, guardO, setAll, thenS_nx, thenS_rt, thenS_ex, onV_ok, onV_ex, onB_ok, onB_ex, bindV_ok, bindV_ex, boolV_ok, bindA_ok, consA_ok, optI_none, optI_some, outcome_nx, outcome_shr, outcome_frs, outcome_ex, setV_shr, setV_frs, binD_add, binD_addT, binD_addL, binD_sub, binD_mulr, binD_mull, binD_fdiv', binD_mod', cmpD_lt, cmpD_le, cmpD_gt, cmpD_ge, cmpD_eqi, cmpD_nei, cmpD_is, cmpD_isn, cmpD_memL, cmpD_nmemL, cmpD_memT, cmpD_nmemT, isN_none, isN_int, isN_tup, isN_lst, isN_bool, isN_str, flat_int, flat_str, flat_none, flat_bool, fnD_lenL, fnD_lenT, fnD_lenS, fnD_intB, fnD_str, fnD_tupL, fnD_tupT, fnD_lstL, fnD_lstT, fnD_all, idxD_L, idxD_T, idxD_S, slcD_L, slcD_T, itemsD_L, itemsD_T, asD_shr, asD_frs, asB_ok, okCall_t, noBrw_nil, noBrw_shr, noBrw_frs, tests_nil, tests_one, at0, at1, at2, lim_eq, List.set_cons_zero, List.set_cons_succ, List.getElem?_cons_zero, List.getElem?_cons_succ, List.length_cons, List.length_nil, List.map_cons, List.map_nil, Option.map_some, Option.map_none, if_true, if_false, ite_true, ite_false, reduceIte, reduceCtorEq, decide_true, decide_false, Nat.reduceAdd, Nat.reduceSub, Nat.reduceEqDiff, Int.reduceNeg, Int.reduceLT, Int.reduceLE, Bool.not_true, Bool.not_false, Nat.reduceLeDiff, and_self, true_and, and_true, e1])
  rw [run_law_refused]
  refine runD_rt rfl ?_
  unfold d_law_refused
  rw [show Dv.start _ _ = [some (false, p.d), some (false, x), some (false, d), none, none] from rfl]
  refine (seq_rt ?_).trans rfl
  have e : evE (run tab fu (n + 4)) (.call "met" [.var 0, .var 1, .var 2]) [some (false, p.d), some (false, x), some (false, d), none, none] = some (.ex "BadState") := by
    simp only [runD, Dv.start, evSs_nil, evSs_cons, evS, evE, evL, evB, evAnd, evOr, evO, onOwn, guardO, setAll, thenS_nx, thenS_rt, thenS_ex, onV_ok, onV_ex, onB_ok, onB_ex, bindV_ok, bindV_ex, boolV_ok, bindA_ok, consA_ok, optI_none, optI_some, outcome_nx, outcome_shr, outcome_frs, outcome_ex, setV_shr, setV_frs, binD_add, binD_addT, binD_addL, binD_sub, binD_mulr, binD_mull, binD_fdiv', binD_mod', cmpD_lt, cmpD_le, cmpD_gt, cmpD_ge, cmpD_eqi, cmpD_nei, cmpD_is, cmpD_isn, cmpD_memL, cmpD_nmemL, cmpD_memT, cmpD_nmemT, isN_none, isN_int, isN_tup, isN_lst, isN_bool, isN_str, flat_int, flat_str, flat_none, flat_bool, fnD_lenL, fnD_lenT, fnD_lenS, fnD_intB, fnD_str, fnD_tupL, fnD_tupT, fnD_lstL, fnD_lstT, fnD_all, idxD_L, idxD_T, idxD_S, slcD_L, slcD_T, itemsD_L, itemsD_T, asD_shr, asD_frs, asB_ok, okCall_t, noBrw_nil, noBrw_shr, noBrw_frs, tests_nil, tests_one, at0, at1, at2, lim_eq, List.set_cons_zero, List.set_cons_succ, List.getElem?_cons_zero, List.getElem?_cons_succ, List.length_cons, List.length_nil, List.map_cons, List.map_nil, Option.map_some, Option.map_none, if_true, if_false, ite_true, ite_false, reduceIte, reduceCtorEq, decide_true, decide_false, Nat.reduceAdd, Nat.reduceSub, Nat.reduceEqDiff, Int.reduceNeg, Int.reduceLT, Int.reduceLE, Bool.not_true, Bool.not_false, Nat.reduceLeDiff, and_self, true_and, and_true, e2]
  rw [evS, e]
  show (if ("BadState" : Str) ∈ hc then _ else none) = _
  rw [if_pos (by decide +kernel), suite_st]
  rfl
/-- some of the places: a run of them -/
theorem cut_sub {xs : List D} {a b : Nat} (ha : a ≤ xs.length) : cutD xs (some (a : Int)) (some ((a : Int) + (b : Int))) = (xs.drop a).take b := by
  unfold cutD
  rw [show (a : Int) + (b : Int) = ((a + b : Nat) : Int) by omega, HT.sIx_nat, HT.sIx_nat, Nat.min_eq_left ha]
  have h1 : (xs.drop a).length = xs.length - a := List.length_drop ..
  apply List.ext_getElem?
  intro i
  rw [List.getElem?_take, List.getElem?_take]
  by_cases hi : i < b
  · rw [if_pos hi]
    by_cases hj : i < xs.length - a
    · rw [if_pos (by omega)]
    · rw [if_neg (by omega), List.getElem?_eq_none (by omega)]
  · rw [if_neg hi, if_neg (by omega)]
theorem apart_cut {xs : List Place} (h : RowsApart xs) (a b : Nat) : RowsApart ((xs.drop a).take b) := by
  unfold RowsApart at h ⊢
  rw [List.map_take, List.map_drop]
  exact h.sublist ((List.take_sublist _ _).trans (List.drop_sublist _ _))
theorem place_fine (x : Place) : fine 4 x.d := by
  have hr : ∀ r : Rule, fine 2 r.d := fun r => by
    cases r with
    | is c =>
      refine fine_tup fun d hd => ?_
      simp only [List.mem_cons, List.not_mem_nil, or_false] at hd
      rcases hd with rfl | rfl
      · exact fine_str 1 _ (by decide +kernel)
      · exact cellD_fine c 1
    | «by» b cs =>
      refine fine_tup fun d hd => ?_
      simp only [List.mem_cons, List.not_mem_nil, or_false] at hd
      rcases hd with rfl | rfl | rfl
      · exact fine_str 1 _ (by decide +kernel)
      · exact fine_int 1 _
      · exact fine_tup fun d hd => by
          obtain ⟨c, _, rfl⟩ := List.mem_map.mp hd
          exact cellD_fine c 0
  refine fine_tup fun d hd => ?_
  simp only [List.mem_cons, List.not_mem_nil, or_false] at hd
  rcases hd with rfl | rfl | rfl
  · exact fine_int 3 _
  · exact fine_int 3 _
  · exact fine_tup fun d hd => by
      obtain ⟨r, _, rfl⟩ := List.mem_map.mp hd
      exact hr r
theorem kept_fine (p : Prog) (xs : List Place) : fine 6 (.list [.list (p.rows.map Row.d), placesD xs]) := fine_lst fun d hd => by
  simp only [List.mem_cons, List.not_mem_nil, or_false] at hd
  rcases hd with rfl | rfl
  · exact (fine_lst fun d hd => by
      obtain ⟨r, _, rfl⟩ := List.mem_map.mp hd
      exact (row_fine r).up (by decide) : fine 5 _)
  · exact fine_lst fun d hd => by
      obtain ⟨x, _, rfl⟩ := List.mem_map.mp hd
      exact place_fine x
theorem kept_eq (p : Prog) (xs : List Place) : cmpD .eq (.list [.list (p.rows.map Row.d), placesD xs]) (.list [.list (p.rows.map Row.d), placesD xs]) = some true := by
  rw [cmpD_eqf (kept_fine p xs) (kept_fine p xs) (by decide) (by decide), (kept_fine p xs).refl]
theorem mulL_of {d : D} {k : Nat} (h : k ≤ 1000) : binD .mul (.list [d]) (.int (k : Int)) = some (.ok .frs (.list (List.replicate k d))) := by
  show (if (k : Int) ≤ 1000 ∧ -1000 ≤ (k : Int) ∧ 1 * (k : Int).toNat ≤ 100000 then some (EO.ok .frs (.list (List.replicate (k : Int).toNat [d]).flatten)) else none) = _
  rw [if_pos ⟨by omega, by omega, by rw [Int.toNat_natCast]; omega⟩, Int.toNat_natCast, List.flatten_replicate_singleton]
theorem at_mod {α : Type} {ys : List α} (s : Int) {m : Int} (h : (ys.length : Int) = m) (hm : 0 < m) : ∃ y, y ∈ ys ∧ L2.atI ys (s % m) = some y := by
  have h1 : 0 ≤ s % m := Int.emod_nonneg _ (by omega)
  have h2 : s % m < m := Int.emod_lt_of_pos _ hm
  obtain ⟨i, hi⟩ : ∃ i : Nat, s % m = i := ⟨(s % m).toNat, by omega⟩
  rw [hi] at h2 ⊢
  have h3 : i < ys.length := by omega
  exact ⟨ys[i], List.getElem_mem h3, atNn h3⟩
/-- what is no state -/
theorem odd_state {p : Prog} (hp : p.Ok) {i : Nat} {ns : List Nat} (hs : StateOk p (i, ns)) : ∀ d ∈ [PyData.none, .tuple [.int p.rows.length, numsD ns], .tuple [.int i, .tuple (iD ns ++ [.int 0])], .tuple [.bool true, numsD ns], .list [.int i, numsD ns]], plainState d = true ∧ stateV p d = false := by
  have hb := hp.boxes
  have hl : ns.length = p.boxes := hs.2.1
  have hpn := nums_plain ns (by omega)
  intro d hd
  simp only [List.mem_cons, List.not_mem_nil, or_false] at hd
  rcases hd with rfl | rfl | rfl | rfl | rfl
  · exact ⟨rfl, rfl⟩
  · refine ⟨by show (true && plainBeg (numsD ns)) = true; rw [hpn]; rfl, ?_⟩
    show (amongV (.int (p.rows.length : Int)) 0 ((p.rows.length : Int) - 1) && _) = false
    rw [am_hi (by omega)]; rfl
  · refine ⟨?_, ?_⟩
    · show (true && ((iD ns ++ [PyData.int 0]).all plainD && decide ((iD ns ++ [PyData.int 0]).length ≤ 100000))) = true
      have h1 : (iD ns ++ [PyData.int 0]).all plainD = true := by
        rw [List.all_eq_true]
        intro x hx
        rcases List.mem_append.mp hx with hx | hx
        · obtain ⟨k, _, rfl⟩ := List.mem_map.mp hx; rfl
        · simp at hx; subst hx; rfl
      rw [h1, decide_eq_true (by rw [List.length_append, iD_len]; simp only [List.length_cons, List.length_nil]; omega)]; rfl
    · show (_ && ((((iD ns ++ [PyData.int 0]).length : Int) == (p.boxes : Int)) && _)) = false
      have : (((iD ns ++ [PyData.int 0]).length : Int) == (p.boxes : Int)) = false := by
        rw [beq_eq_false_iff_ne, List.length_append, iD_len]
        simp only [List.length_cons, List.length_nil]
        omega
      rw [this, Bool.false_and, Bool.and_false]
  · refine ⟨by show (true && plainBeg (numsD ns)) = true; rw [hpn]; rfl, rfl⟩
  · exact ⟨rfl, rfl⟩
end Law
namespace Law
open PySem Dv
theorem for_ofF {Φ : Str → List D → Option EO} {fu : Nat} {st : Ev} {xs : List D} {i : Nat} {n : E} {bd : List S} (h : evE Φ n st = some (.ok .frs (.list xs))) : evS Φ fu (.for i n bd) st = forGo (fun d st => evSs Φ fu bd (st.set i (some (false, d)))) xs st := by
  rw [evS, h, onV_ok]; rfl
theorem main_fu (fu : Nat) (hf1 : 2001 ≤ fu) (hf2 : fu ≤ 50000) (ns : List Int) : ∃ k, run tab fu (10 + 1) "law" [scrD ns] = some (.ok k (.bool true)) := by
  obtain ⟨p, hp, ep⟩ := program_ok (fu := fu) (n := 8) (ns.getD 0 0)
  obtain ⟨q, hq, eq⟩ := program_ok (fu := fu) (n := 8) (ns.getD 1 0)
  obtain ⟨xs, hx, hax, hxl, ex⟩ := law_places_ok (fu := fu) (n := 7) (ns.getD 2 0) hp hq
  obtain ⟨ms, hms, em⟩ := numbers_ok (fu := fu) (n := 8) (ns.getD 5 0) hp
  obtain ⟨i, ei, hi⟩ := mod_nat (ns.getD 4 0) hp.rows0
  have hs : StateOk p (i, ms) := ⟨hi, hms⟩
  have hpr : (0 : Int) < p.rows.length := by have := hp.rows0; omega
  have c0 := cell_ok (fu := fu) (n := 9) ns 0
  have c1 := cell_ok (fu := fu) (n := 9) ns 1
  have c2 := cell_ok (fu := fu) (n := 9) ns 2
  have c3 := cell_ok (fu := fu) (n := 9) ns 3
  have c4 := cell_ok (fu := fu) (n := 9) ns 4
  have c5 := cell_ok (fu := fu) (n := 9) ns 5
  have c6 := cell_ok (fu := fu) (n := 9) ns 6
  simp only [Int.cast_ofNat_Int] at c0 c1 c2 c3 c4 c5 c6
  rw [run_law]
  refine ⟨.shr, runD_rt rfl ?_⟩
  unfold d_law
  rw [show Dv.start _ _ = [some (false, scrD ns), none, none, none, none, none, none, none, none, none, none, none] from rfl]
  refine (seq (by simp only [runD, Dv.start, evSs_nil, evSs_cons, evS, evE, evL, evB, evAnd, evOr, evO, onOwn, guardO, setAll, thenS_nx, thenS_rt, thenS_ex, onV_ok, onV_ex, onB_ok, onB_ex, bindV_ok, bindV_ex, boolV_ok, bindA_ok, consA_ok, optI_none, optI_some, outcome_nx, outcome_shr, outcome_frs, outcome_ex, setV_shr, setV_frs, binD_add, binD_addT, binD_addL, binD_sub, binD_mulr, binD_mull, binD_fdiv', binD_mod', cmpD_lt, cmpD_le, cmpD_gt, cmpD_ge, cmpD_eqi, cmpD_nei, cmpD_is, cmpD_isn, cmpD_memL, cmpD_nmemL, cmpD_memT, cmpD_nmemT, isN_none, isN_int, isN_tup, isN_lst, isN_bool, isN_str, flat_int, flat_str, flat_none, flat_bool, fnD_lenL, fnD_lenT, fnD_lenS, fnD_intB, fnD_str, fnD_tupL, fnD_tupT, fnD_lstL, fnD_lstT, fnD_all, idxD_L, idxD_T, idxD_S, slcD_L, slcD_T, itemsD_L, itemsD_T, asD_shr, asD_frs, asB_ok, okCall_t, noBrw_nil, noBrw_shr, noBrw_frs, tests_nil, tests_one, at0, at1, at2, lim_eq, List.set_cons_zero, List.set_cons_succ, List.getElem?_cons_zero, List.getElem?_cons_succ, List.length_cons, List.length_nil, List.map_cons, List.map_nil, Option.map_some, Option.map_none, if_true, if_false, ite_true, ite_false, reduceIte, reduceCtorEq, decide_true, decide_false, Nat.reduceAdd, Nat.reduceSub, Nat.reduceEqDiff, Int.reduceNeg, Int.reduceLT, Int.reduceLE, Bool.not_true, Bool.not_false, Nat.reduceLeDiff, and_self, true_and, and_true, c0, ep]; rfl)).trans ?_
  refine (seq (by simp only [runD, Dv.start, evSs_nil, evSs_cons, evS, evE, evL, evB, evAnd, evOr, evO, onOwn, guardO, setAll, thenS_nx, thenS_rt, thenS_ex, onV_ok, onV_ex, onB_ok, onB_ex, bindV_ok, bindV_ex, boolV_ok, bindA_ok, consA_ok, optI_none, optI_some, outcome_nx, outcome_shr, outcome_frs, outcome_ex, setV_shr, setV_frs, binD_add, binD_addT, binD_addL, binD_sub, binD_mulr, binD_mull, binD_fdiv', binD_mod', cmpD_lt, cmpD_le, cmpD_gt, cmpD_ge, cmpD_eqi, cmpD_nei, cmpD_is, cmpD_isn, cmpD_memL, cmpD_nmemL, cmpD_memT, cmpD_nmemT, isN_none, isN_int, isN_tup, isN_lst, isN_bool, isN_str, flat_int, flat_str, flat_none, flat_bool, fnD_lenL, fnD_lenT, fnD_lenS, fnD_intB, fnD_str, fnD_tupL, fnD_tupT, fnD_lstL, fnD_lstT, fnD_all, idxD_L, idxD_T, idxD_S, slcD_L, slcD_T, itemsD_L, itemsD_T, asD_shr, asD_frs, asB_ok, okCall_t, noBrw_nil, noBrw_shr, noBrw_frs, tests_nil, tests_one, at0, at1, at2, lim_eq, List.set_cons_zero, List.set_cons_succ, List.getElem?_cons_zero, List.getElem?_cons_succ, List.length_cons, List.length_nil, List.map_cons, List.map_nil, Option.map_some, Option.map_none, if_true, if_false, ite_true, ite_false, reduceIte, reduceCtorEq, decide_true, decide_false, Nat.reduceAdd, Nat.reduceSub, Nat.reduceEqDiff, Int.reduceNeg, Int.reduceLT, Int.reduceLE, Bool.not_true, Bool.not_false, Nat.reduceLeDiff, and_self, true_and, and_true, c1, eq]; rfl)).trans ?_
  refine (seq (st' := [some (false, scrD ns), some (false, p.d), some (false, q.d), some (true, placesD xs), none, none, none, none, none, none, none, none]) (by simp only [runD, Dv.start, evSs_nil, evSs_cons, evS, evE, evL, evB, evAnd, evOr, evO, onOwn, guardO, setAll, thenS_nx, thenS_rt, thenS_ex, onV_ok, onV_ex, onB_ok, onB_ex, bindV_ok, bindV_ex, boolV_ok, bindA_ok, consA_ok, optI_none, optI_some, outcome_nx, outcome_shr, outcome_frs, outcome_ex, setV_shr, setV_frs, binD_add, binD_addT, binD_addL, binD_sub, binD_mulr, binD_mull, binD_fdiv', binD_mod', cmpD_lt, cmpD_le, cmpD_gt, cmpD_ge, cmpD_eqi, cmpD_nei, cmpD_is, cmpD_isn, cmpD_memL, cmpD_nmemL, cmpD_memT, cmpD_nmemT, isN_none, isN_int, isN_tup, isN_lst, isN_bool, isN_str, flat_int, flat_str, flat_none, flat_bool, fnD_lenL, fnD_lenT, fnD_lenS, fnD_intB, fnD_str, fnD_tupL, fnD_tupT, fnD_lstL, fnD_lstT, fnD_all, idxD_L, idxD_T, idxD_S, slcD_L, slcD_T, itemsD_L, itemsD_T, asD_shr, asD_frs, asB_ok, okCall_t, noBrw_nil, noBrw_shr, noBrw_frs, tests_nil, tests_one, at0, at1, at2, lim_eq, List.set_cons_zero, List.set_cons_succ, List.getElem?_cons_zero, List.getElem?_cons_succ, List.length_cons, List.length_nil, List.map_cons, List.map_nil, Option.map_some, Option.map_none, if_true, if_false, ite_true, ite_false, reduceIte, reduceCtorEq, decide_true, decide_false, Nat.reduceAdd, Nat.reduceSub, Nat.reduceEqDiff, Int.reduceNeg, Int.reduceLT, Int.reduceLE, Bool.not_true, Bool.not_false, Nat.reduceLeDiff, and_self, true_and, and_true, c2, ex])).trans ?_
  -- some of the places
  obtain ⟨ys, k4, hy, hay, hyl, ecut⟩ : ∃ (ys : List Place) (k4 : Option (Bool × D)), (∀ x ∈ ys, x.Ok p q) ∧ RowsApart ys ∧ ys.length ≤ 16 ∧
      evS (run tab fu 10) fu (.ite (.cmp .eq (.bin .mod (.call "_law_cell_at" [.var 0, .int 3]) (.int 2)) (.int 1)) [
      .set 4 (.bin .mod (.bin .fdiv (.call "_law_cell_at" [.var 0, .int 3]) (.int 4)) (.bin .add (.fn .len (.var 3)) (.int 1))),
      .set 3 (.slc (.var 3) (some (.var 4)) (some (.bin .add (.var 4) (.bin .mod (.bin .fdiv (.call "_law_cell_at" [.var 0, .int 3]) (.int 2)) (.int 2)))))] [])
      [some (false, scrD ns), some (false, p.d), some (false, q.d), some (true, placesD xs), none, none, none, none, none, none, none, none] = some (.nx [some (false, scrD ns), some (false, p.d), some (false, q.d), some (true, placesD ys), k4, none, none, none, none, none, none, none]) := by
    by_cases g : (ns.getD 3 0 % 2 == 1) = true
    · obtain ⟨a, ea, ha⟩ := mod_nat (ns.getD 3 0 / 4) (m := xs.length + 1) (by omega)
      have ea' : ns.getD 3 0 / 4 % ((xs.length : Int) + 1) = a := by simpa using ea
      obtain ⟨b, eb, hb⟩ := mod_nat (ns.getD 3 0 / 2) (m := 2) (by decide)
      have eb' : ns.getD 3 0 / 2 % 2 = b := eb
      have hkz : (0 : Int) < (xs.length : Int) + 1 := by omega
      have ecu : cutD (xs.map Place.d) (some (a : Int)) (some ((a : Int) + (b : Int))) = ((xs.drop a).take b).map Place.d := by
        rw [cut_sub (by rw [List.length_map]; omega), List.map_take, List.map_drop]
      refine ⟨(xs.drop a).take b, some (false, .int a), fun x h => hx x (List.mem_of_mem_drop (List.mem_of_mem_take h)), apart_cut hax a b, by rw [List.length_take, List.length_drop]; omega, ?_⟩
      have hcn : evE (run tab fu 10) (.cmp .eq (.bin .mod (.call "_law_cell_at" [.var 0, .int 3]) (.int 2)) (.int 1)) [some (false, scrD ns), some (false, p.d), some (false, q.d), some (true, placesD xs), none, none, none, none, none, none, none, none] = some (.ok .shr (.bool true)) := by
        simp only [runD, Dv.start, evSs_nil, evSs_cons, evS, evE, evL, evB, evAnd, evOr, evO, onOwn, guardO, setAll, thenS_nx, thenS_rt, thenS_ex, onV_ok, onV_ex, onB_ok, onB_ex, bindV_ok, bindV_ex, boolV_ok, bindA_ok, consA_ok, optI_none, optI_some, outcome_nx, outcome_shr, outcome_frs, outcome_ex, setV_shr, setV_frs, binD_add, binD_addT, binD_addL, binD_sub, binD_mulr, binD_mull, binD_fdiv', binD_mod', cmpD_lt, cmpD_le, cmpD_gt, cmpD_ge, cmpD_eqi, cmpD_nei, cmpD_is, cmpD_isn, cmpD_memL, cmpD_nmemL, cmpD_memT, cmpD_nmemT, isN_none, isN_int, isN_tup, isN_lst, isN_bool, isN_str, flat_int, flat_str, flat_none, flat_bool, fnD_lenL, fnD_lenT, fnD_lenS, fnD_intB, fnD_str, fnD_tupL, fnD_tupT, fnD_lstL, fnD_lstT, fnD_all, idxD_L, idxD_T, idxD_S, slcD_L, slcD_T, itemsD_L, itemsD_T, asD_shr, asD_frs, asB_ok, okCall_t, noBrw_nil, noBrw_shr, noBrw_frs, tests_nil, tests_one, at0, at1, at2, lim_eq, List.set_cons_zero, List.set_cons_succ, List.getElem?_cons_zero, List.getElem?_cons_succ, List.length_cons, List.length_nil, List.map_cons, List.map_nil, Option.map_some, Option.map_none, if_true, if_false, ite_true, ite_false, reduceIte, reduceCtorEq, decide_true, decide_false, Nat.reduceAdd, Nat.reduceSub, Nat.reduceEqDiff, Int.reduceNeg, Int.reduceLT, Int.reduceLE, Bool.not_true, Bool.not_false, Nat.reduceLeDiff, and_self, true_and, and_true, c3, g]
      rw [evS, hcn, onB_ok, if_pos rfl]
      refine (seq (st' := [some (false, scrD ns), some (false, p.d), some (false, q.d), some (true, placesD xs), some (false, .int a), none, none, none, none, none, none, none]) (by simp only [runD, Dv.start, evSs_nil, evSs_cons, evS, evE, evL, evB, evAnd, evOr, evO, onOwn, guardO, setAll, thenS_nx, thenS_rt, thenS_ex, onV_ok, onV_ex, onB_ok, onB_ex, bindV_ok, bindV_ex, boolV_ok, bindA_ok, consA_ok, optI_none, optI_some, outcome_nx, outcome_shr, outcome_frs, outcome_ex, setV_shr, setV_frs, binD_add, binD_addT, binD_addL, binD_sub, binD_mulr, binD_mull, binD_fdiv', binD_mod', cmpD_lt, cmpD_le, cmpD_gt, cmpD_ge, cmpD_eqi, cmpD_nei, cmpD_is, cmpD_isn, cmpD_memL, cmpD_nmemL, cmpD_memT, cmpD_nmemT, isN_none, isN_int, isN_tup, isN_lst, isN_bool, isN_str, flat_int, flat_str, flat_none, flat_bool, fnD_lenL, fnD_lenT, fnD_lenS, fnD_intB, fnD_str, fnD_tupL, fnD_tupT, fnD_lstL, fnD_lstT, fnD_all, idxD_L, idxD_T, idxD_S, slcD_L, slcD_T, itemsD_L, itemsD_T, asD_shr, asD_frs, asB_ok, okCall_t, noBrw_nil, noBrw_shr, noBrw_frs, tests_nil, tests_one, at0, at1, at2, lim_eq, List.set_cons_zero, List.set_cons_succ, List.getElem?_cons_zero, List.getElem?_cons_succ, List.length_cons, List.length_nil, List.map_cons, List.map_nil, Option.map_some, Option.map_none, if_true, if_false, ite_true, ite_false, reduceIte, reduceCtorEq, decide_true, decide_false, Nat.reduceAdd, Nat.reduceSub, Nat.reduceEqDiff, Int.reduceNeg, Int.reduceLT, Int.reduceLE, Bool.not_true, Bool.not_false, Nat.reduceLeDiff, and_self, true_and, and_true, c3, placesD, List.length_map, hkz, ea'])).trans ?_
      refine (seq (st' := [some (false, scrD ns), some (false, p.d), some (false, q.d), some (true, placesD ((xs.drop a).take b)), some (false, .int a), none, none, none, none, none, none, none]) ?_).trans evSs_nil
      simp only [runD, Dv.start, evSs_nil, evSs_cons, evS, evE, evL, evB, evAnd, evOr, evO, onOwn, guardO, setAll, thenS_nx, thenS_rt, thenS_ex, onV_ok, onV_ex, onB_ok, onB_ex, bindV_ok, bindV_ex, boolV_ok, bindA_ok, consA_ok, optI_none, optI_some, outcome_nx, outcome_shr, outcome_frs, outcome_ex, setV_shr, setV_frs, binD_add, binD_addT, binD_addL, binD_sub, binD_mulr, binD_mull, binD_fdiv', binD_mod', cmpD_lt, cmpD_le, cmpD_gt, cmpD_ge, cmpD_eqi, cmpD_nei, cmpD_is, cmpD_isn, cmpD_memL, cmpD_nmemL, cmpD_memT, cmpD_nmemT, isN_none, isN_int, isN_tup, isN_lst, isN_bool, isN_str, flat_int, flat_str, flat_none, flat_bool, fnD_lenL, fnD_lenT, fnD_lenS, fnD_intB, fnD_str, fnD_tupL, fnD_tupT, fnD_lstL, fnD_lstT, fnD_all, idxD_L, idxD_T, idxD_S, slcD_L, slcD_T, itemsD_L, itemsD_T, asD_shr, asD_frs, asB_ok, okCall_t, noBrw_nil, noBrw_shr, noBrw_frs, tests_nil, tests_one, at0, at1, at2, lim_eq, List.set_cons_zero, List.set_cons_succ, List.getElem?_cons_zero, List.getElem?_cons_succ, List.length_cons, List.length_nil, List.map_cons, List.map_nil, Option.map_some, Option.map_none, if_true, if_false, ite_true, ite_false, reduceIte, reduceCtorEq, decide_true, decide_false, Nat.reduceAdd, Nat.reduceSub, Nat.reduceEqDiff, Int.reduceNeg, Int.reduceLT, Int.reduceLE, Bool.not_true, Bool.not_false, Nat.reduceLeDiff, and_self, true_and, and_true, c3, placesD, eb', ecu]
    · rw [Bool.not_eq_true] at g
      exact ⟨xs, none, hx, hax, hxl, by simp only [runD, Dv.start, evSs_nil, evSs_cons, evS, evE, evL, evB, evAnd, evOr, evO, onOwn, guardO, setAll, thenS_nx, thenS_rt, thenS_ex, onV_ok, onV_ex, onB_ok, onB_ex, bindV_ok, bindV_ex, boolV_ok, bindA_ok, consA_ok, optI_none, optI_some, outcome_nx, outcome_shr, outcome_frs, outcome_ex, setV_shr, setV_frs, binD_add, binD_addT, binD_addL, binD_sub, binD_mulr, binD_mull, binD_fdiv', binD_mod', cmpD_lt, cmpD_le, cmpD_gt, cmpD_ge, cmpD_eqi, cmpD_nei, cmpD_is, cmpD_isn, cmpD_memL, cmpD_nmemL, cmpD_memT, cmpD_nmemT, isN_none, isN_int, isN_tup, isN_lst, isN_bool, isN_str, flat_int, flat_str, flat_none, flat_bool, fnD_lenL, fnD_lenT, fnD_lenS, fnD_intB, fnD_str, fnD_tupL, fnD_tupT, fnD_lstL, fnD_lstT, fnD_all, idxD_L, idxD_T, idxD_S, slcD_L, slcD_T, itemsD_L, itemsD_T, asD_shr, asD_frs, asB_ok, okCall_t, noBrw_nil, noBrw_shr, noBrw_frs, tests_nil, tests_one, at0, at1, at2, lim_eq, List.set_cons_zero, List.set_cons_succ, List.getElem?_cons_zero, List.getElem?_cons_succ, List.length_cons, List.length_nil, List.map_cons, List.map_nil, Option.map_some, Option.map_none, if_true, if_false, ite_true, ite_false, reduceIte, reduceCtorEq, decide_true, decide_false, Nat.reduceAdd, Nat.reduceSub, Nat.reduceEqDiff, Int.reduceNeg, Int.reduceLT, Int.reduceLE, Bool.not_true, Bool.not_false, Nat.reduceLeDiff, and_self, true_and, and_true, c3, g, Bool.false_eq_true]⟩
  refine (seq ecut).trans ?_
  refine (seq (st' := [some (false, scrD ns), some (false, p.d), some (false, q.d), some (true, placesD ys), k4, some (false, stD (i, ms)), none, none, none, none, none, none]) ?_).trans ?_
  · have e1 : evE (run tab fu 10) (.bin .mod (.call "_law_cell_at" [.var 0, .int 4]) (.fn .len (.idx (.var 1) (.int 2)))) [some (false, scrD ns), some (false, p.d), some (false, q.d), some (true, placesD ys), k4, none, none, none, none, none, none, none] = some (.ok .shr (.int i)) := by
      simp only [runD, Dv.start, evSs_nil, evSs_cons, evS, evE, evL, evB, evAnd, evOr, evO, onOwn, guardO, setAll, thenS_nx, thenS_rt, thenS_ex, onV_ok, onV_ex, onB_ok, onB_ex, bindV_ok, bindV_ex, boolV_ok, bindA_ok, consA_ok, optI_none, optI_some, outcome_nx, outcome_shr, outcome_frs, outcome_ex, setV_shr, setV_frs, binD_add, binD_addT, binD_addL, binD_sub, binD_mulr, binD_mull, binD_fdiv', binD_mod', cmpD_lt, cmpD_le, cmpD_gt, cmpD_ge, cmpD_eqi, cmpD_nei, cmpD_is, cmpD_isn, cmpD_memL, cmpD_nmemL, cmpD_memT, cmpD_nmemT, isN_none, isN_int, isN_tup, isN_lst, isN_bool, isN_str, flat_int, flat_str, flat_none, flat_bool, fnD_lenL, fnD_lenT, fnD_lenS, fnD_intB, fnD_str, fnD_tupL, fnD_tupT, fnD_lstL, fnD_lstT, fnD_all, idxD_L, idxD_T, idxD_S, slcD_L, slcD_T, itemsD_L, itemsD_T, asD_shr, asD_frs, asB_ok, okCall_t, noBrw_nil, noBrw_shr, noBrw_frs, tests_nil, tests_one, at0, at1, at2, lim_eq, List.set_cons_zero, List.set_cons_succ, List.getElem?_cons_zero, List.getElem?_cons_succ, List.length_cons, List.length_nil, List.map_cons, List.map_nil, Option.map_some, Option.map_none, if_true, if_false, ite_true, ite_false, reduceIte, reduceCtorEq, decide_true, decide_false, Nat.reduceAdd, Nat.reduceSub, Nat.reduceEqDiff, Int.reduceNeg, Int.reduceLT, Int.reduceLE, Bool.not_true, Bool.not_false, Nat.reduceLeDiff, and_self, true_and, and_true, c4, Prog.d, List.length_map, hpr, ei]
    have e2 : evE (run tab fu 10) (.call "_law_numbers" [.call "_law_cell_at" [.var 0, .int 5], .var 1]) [some (false, scrD ns), some (false, p.d), some (false, q.d), some (true, placesD ys), k4, none, none, none, none, none, none, none] = some (.ok .shr (numsD ms)) := by
      simp only [runD, Dv.start, evSs_nil, evSs_cons, evS, evE, evL, evB, evAnd, evOr, evO, onOwn, guardO, setAll, thenS_nx, thenS_rt, thenS_ex, onV_ok, onV_ex, onB_ok, onB_ex, bindV_ok, bindV_ex, boolV_ok, bindA_ok, consA_ok, optI_none, optI_some, outcome_nx, outcome_shr, outcome_frs, outcome_ex, setV_shr, setV_frs, binD_add, binD_addT, binD_addL, binD_sub, binD_mulr, binD_mull, binD_fdiv', binD_mod', cmpD_lt, cmpD_le, cmpD_gt, cmpD_ge, cmpD_eqi, cmpD_nei, cmpD_is, cmpD_isn, cmpD_memL, cmpD_nmemL, cmpD_memT, cmpD_nmemT, isN_none, isN_int, isN_tup, isN_lst, isN_bool, isN_str, flat_int, flat_str, flat_none, flat_bool, fnD_lenL, fnD_lenT, fnD_lenS, fnD_intB, fnD_str, fnD_tupL, fnD_tupT, fnD_lstL, fnD_lstT, fnD_all, idxD_L, idxD_T, idxD_S, slcD_L, slcD_T, itemsD_L, itemsD_T, asD_shr, asD_frs, asB_ok, okCall_t, noBrw_nil, noBrw_shr, noBrw_frs, tests_nil, tests_one, at0, at1, at2, lim_eq, List.set_cons_zero, List.set_cons_succ, List.getElem?_cons_zero, List.getElem?_cons_succ, List.length_cons, List.length_nil, List.map_cons, List.map_nil, Option.map_some, Option.map_none, if_true, if_false, ite_true, ite_false, reduceIte, reduceCtorEq, decide_true, decide_false, Nat.reduceAdd, Nat.reduceSub, Nat.reduceEqDiff, Int.reduceNeg, Int.reduceLT, Int.reduceLE, Bool.not_true, Bool.not_false, Nat.reduceLeDiff, and_self, true_and, and_true, c5, em]
    rw [evS, evE, evL, evL, evL, e1, e2]
    simp only [runD, Dv.start, evSs_nil, evSs_cons, evS, evE, evL, evB, evAnd, evOr, evO, onOwn, guardO, setAll, thenS_nx, thenS_rt, thenS_ex, onV_ok, onV_ex, onB_ok, onB_ex, bindV_ok, bindV_ex, boolV_ok, bindA_ok, consA_ok, optI_none, optI_some, outcome_nx, outcome_shr, outcome_frs, outcome_ex, setV_shr, setV_frs, binD_add, binD_addT, binD_addL, binD_sub, binD_mulr, binD_mull, binD_fdiv', binD_mod', cmpD_lt, cmpD_le, cmpD_gt, cmpD_ge, cmpD_eqi, cmpD_nei, cmpD_is, cmpD_isn, cmpD_memL, cmpD_nmemL, cmpD_memT, cmpD_nmemT, isN_none, isN_int, isN_tup, isN_lst, isN_bool, isN_str, flat_int, flat_str, flat_none, flat_bool, fnD_lenL, fnD_lenT, fnD_lenS, fnD_intB, fnD_str, fnD_tupL, fnD_tupT, fnD_lstL, fnD_lstT, fnD_all, idxD_L, idxD_T, idxD_S, slcD_L, slcD_T, itemsD_L, itemsD_T, asD_shr, asD_frs, asB_ok, okCall_t, noBrw_nil, noBrw_shr, noBrw_frs, tests_nil, tests_one, at0, at1, at2, lim_eq, List.set_cons_zero, List.set_cons_succ, List.getElem?_cons_zero, List.getElem?_cons_succ, List.length_cons, List.length_nil, List.map_cons, List.map_nil, Option.map_some, Option.map_none, if_true, if_false, ite_true, ite_false, reduceIte, reduceCtorEq, decide_true, decide_false, Nat.reduceAdd, Nat.reduceSub, Nat.reduceEqDiff, Int.reduceNeg, Int.reduceLT, Int.reduceLE, Bool.not_true, Bool.not_false, Nat.reduceLeDiff, and_self, true_and, and_true, Nat.reduceLeDiff]
    rfl
  have hml : ms.length = p.boxes := hms.1
  have hb3 := hp.boxes
  cases g6 : (ns.getD 6 0 % 5 == 1) with
  | true =>
    obtain ⟨d, hd, ed⟩ := at_mod (ys := [PyData.none, .tuple [.int p.rows.length, numsD ms], .tuple [.int i, .tuple (iD ms ++ [.int 0])], .tuple [.bool true, numsD ms], .list [.int i, numsD ms]]) (ns.getD 6 0 / 5) (m := 5) rfl (by decide)
    obtain ⟨h1, h2⟩ := odd_state hp hs d hd
    have rf := refused_ok (fu := fu) (n := 5) (x := placesD ys) h1 h2
    have hl1 : ms.length + 1 ≤ 100000 := by omega
    refine (seq_rt ?_).trans rfl
    have hcn : evE (run tab fu 10) (.cmp .eq (.bin .mod (.call "_law_cell_at" [.var 0, .int 6]) (.int 5)) (.int 1)) [some (false, scrD ns), some (false, p.d), some (false, q.d), some (true, placesD ys), k4, some (false, stD (i, ms)), none, none, none, none, none, none] = some (.ok .shr (.bool true)) := by
      simp only [runD, Dv.start, evSs_nil, evSs_cons, evS, evE, evL, evB, evAnd, evOr, evO, onOwn, guardO, setAll, thenS_nx, thenS_rt, thenS_ex, onV_ok, onV_ex, onB_ok, onB_ex, bindV_ok, bindV_ex, boolV_ok, bindA_ok, consA_ok, optI_none, optI_some, outcome_nx, outcome_shr, outcome_frs, outcome_ex, setV_shr, setV_frs, binD_add, binD_addT, binD_addL, binD_sub, binD_mulr, binD_mull, binD_fdiv', binD_mod', cmpD_lt, cmpD_le, cmpD_gt, cmpD_ge, cmpD_eqi, cmpD_nei, cmpD_is, cmpD_isn, cmpD_memL, cmpD_nmemL, cmpD_memT, cmpD_nmemT, isN_none, isN_int, isN_tup, isN_lst, isN_bool, isN_str, flat_int, flat_str, flat_none, flat_bool, fnD_lenL, fnD_lenT, fnD_lenS, fnD_intB, fnD_str, fnD_tupL, fnD_tupT, fnD_lstL, fnD_lstT, fnD_all, idxD_L, idxD_T, idxD_S, slcD_L, slcD_T, itemsD_L, itemsD_T, asD_shr, asD_frs, asB_ok, okCall_t, noBrw_nil, noBrw_shr, noBrw_frs, tests_nil, tests_one, at0, at1, at2, lim_eq, List.set_cons_zero, List.set_cons_succ, List.getElem?_cons_zero, List.getElem?_cons_succ, List.length_cons, List.length_nil, List.map_cons, List.map_nil, Option.map_some, Option.map_none, if_true, if_false, ite_true, ite_false, reduceIte, reduceCtorEq, decide_true, decide_false, Nat.reduceAdd, Nat.reduceSub, Nat.reduceEqDiff, Int.reduceNeg, Int.reduceLT, Int.reduceLE, Bool.not_true, Bool.not_false, Nat.reduceLeDiff, and_self, true_and, and_true, c6, g6]
    rw [evS, hcn, onB_ok, if_pos rfl]
    refine (seq (st' := [some (false, scrD ns), some (false, p.d), some (false, q.d), some (true, placesD ys), k4, some (false, stD (i, ms)), some (true, .list [PyData.none, .tuple [.int p.rows.length, numsD ms], .tuple [.int i, .tuple (iD ms ++ [.int 0])], .tuple [.bool true, numsD ms], .list [.int i, numsD ms]]), none, none, none, none, none]) (by simp only [runD, Dv.start, evSs_nil, evSs_cons, evS, evE, evL, evB, evAnd, evOr, evO, onOwn, guardO, setAll, thenS_nx, thenS_rt, thenS_ex, onV_ok, onV_ex, onB_ok, onB_ex, bindV_ok, bindV_ex, boolV_ok, bindA_ok, consA_ok, optI_none, optI_some, outcome_nx, outcome_shr, outcome_frs, outcome_ex, setV_shr, setV_frs, binD_add, binD_addT, binD_addL, binD_sub, binD_mulr, binD_mull, binD_fdiv', binD_mod', cmpD_lt, cmpD_le, cmpD_gt, cmpD_ge, cmpD_eqi, cmpD_nei, cmpD_is, cmpD_isn, cmpD_memL, cmpD_nmemL, cmpD_memT, cmpD_nmemT, isN_none, isN_int, isN_tup, isN_lst, isN_bool, isN_str, flat_int, flat_str, flat_none, flat_bool, fnD_lenL, fnD_lenT, fnD_lenS, fnD_intB, fnD_str, fnD_tupL, fnD_tupT, fnD_lstL, fnD_lstT, fnD_all, idxD_L, idxD_T, idxD_S, slcD_L, slcD_T, itemsD_L, itemsD_T, asD_shr, asD_frs, asB_ok, okCall_t, noBrw_nil, noBrw_shr, noBrw_frs, tests_nil, tests_one, at0, at1, at2, lim_eq, List.set_cons_zero, List.set_cons_succ, List.getElem?_cons_zero, List.getElem?_cons_succ, List.length_cons, List.length_nil, List.map_cons, List.map_nil, Option.map_some, Option.map_none, if_true, if_false, ite_true, ite_false, reduceIte, reduceCtorEq, decide_true, decide_false, Nat.reduceAdd, Nat.reduceSub, Nat.reduceEqDiff, Int.reduceNeg, Int.reduceLT, Int.reduceLE, Bool.not_true, Bool.not_false, Nat.reduceLeDiff, and_self, true_and, and_true, stD, Prog.d, List.length_map, numsD_i, iD_len, hl1, Nat.reduceLeDiff])).trans ?_
    refine (seq (st' := [some (false, scrD ns), some (false, p.d), some (false, q.d), some (false, placesD ys), k4, some (false, stD (i, ms)), some (true, .list [PyData.none, .tuple [.int p.rows.length, numsD ms], .tuple [.int i, .tuple (iD ms ++ [.int 0])], .tuple [.bool true, numsD ms], .list [.int i, numsD ms]]), none, none, none, none, none]) (by simp only [runD, Dv.start, evSs_nil, evSs_cons, evS, evE, evL, evB, evAnd, evOr, evO, onOwn, guardO, setAll, thenS_nx, thenS_rt, thenS_ex, onV_ok, onV_ex, onB_ok, onB_ex, bindV_ok, bindV_ex, boolV_ok, bindA_ok, consA_ok, optI_none, optI_some, outcome_nx, outcome_shr, outcome_frs, outcome_ex, setV_shr, setV_frs, binD_add, binD_addT, binD_addL, binD_sub, binD_mulr, binD_mull, binD_fdiv', binD_mod', cmpD_lt, cmpD_le, cmpD_gt, cmpD_ge, cmpD_eqi, cmpD_nei, cmpD_is, cmpD_isn, cmpD_memL, cmpD_nmemL, cmpD_memT, cmpD_nmemT, isN_none, isN_int, isN_tup, isN_lst, isN_bool, isN_str, flat_int, flat_str, flat_none, flat_bool, fnD_lenL, fnD_lenT, fnD_lenS, fnD_intB, fnD_str, fnD_tupL, fnD_tupT, fnD_lstL, fnD_lstT, fnD_all, idxD_L, idxD_T, idxD_S, slcD_L, slcD_T, itemsD_L, itemsD_T, asD_shr, asD_frs, asB_ok, okCall_t, noBrw_nil, noBrw_shr, noBrw_frs, tests_nil, tests_one, at0, at1, at2, lim_eq, List.set_cons_zero, List.set_cons_succ, List.getElem?_cons_zero, List.getElem?_cons_succ, List.length_cons, List.length_nil, List.map_cons, List.map_nil, Option.map_some, Option.map_none, if_true, if_false, ite_true, ite_false, reduceIte, reduceCtorEq, decide_true, decide_false, Nat.reduceAdd, Nat.reduceSub, Nat.reduceEqDiff, Int.reduceNeg, Int.reduceLT, Int.reduceLE, Bool.not_true, Bool.not_false, Nat.reduceLeDiff, and_self, true_and, and_true])).trans ?_
    exact (seq_rt (by simp only [runD, Dv.start, evSs_nil, evSs_cons, evS, evE, evL, evB, evAnd, evOr, evO, onOwn, guardO, setAll, thenS_nx, thenS_rt, thenS_ex, onV_ok, onV_ex, onB_ok, onB_ex, bindV_ok, bindV_ex, boolV_ok, bindA_ok, consA_ok, optI_none, optI_some, outcome_nx, outcome_shr, outcome_frs, outcome_ex, setV_shr, setV_frs, binD_add, binD_addT, binD_addL, binD_sub, binD_mulr, binD_mull, binD_fdiv', binD_mod', cmpD_lt, cmpD_le, cmpD_gt, cmpD_ge, cmpD_eqi, cmpD_nei, cmpD_is, cmpD_isn, cmpD_memL, cmpD_nmemL, cmpD_memT, cmpD_nmemT, isN_none, isN_int, isN_tup, isN_lst, isN_bool, isN_str, flat_int, flat_str, flat_none, flat_bool, fnD_lenL, fnD_lenT, fnD_lenS, fnD_intB, fnD_str, fnD_tupL, fnD_tupT, fnD_lstL, fnD_lstT, fnD_all, idxD_L, idxD_T, idxD_S, slcD_L, slcD_T, itemsD_L, itemsD_T, asD_shr, asD_frs, asB_ok, okCall_t, noBrw_nil, noBrw_shr, noBrw_frs, tests_nil, tests_one, at0, at1, at2, lim_eq, List.set_cons_zero, List.set_cons_succ, List.getElem?_cons_zero, List.getElem?_cons_succ, List.length_cons, List.length_nil, List.map_cons, List.map_nil, Option.map_some, Option.map_none, if_true, if_false, ite_true, ite_false, reduceIte, reduceCtorEq, decide_true, decide_false, Nat.reduceAdd, Nat.reduceSub, Nat.reduceEqDiff, Int.reduceNeg, Int.reduceLT, Int.reduceLE, Bool.not_true, Bool.not_false, Nat.reduceLeDiff, and_self, true_and, and_true, c6, ed, rf]; try rfl)).trans rfl
  | false =>
    refine (seq (st' := [some (false, scrD ns), some (false, p.d), some (false, q.d), some (true, placesD ys), k4, some (false, stD (i, ms)), none, none, none, none, none, none]) (by simp only [runD, Dv.start, evSs_nil, evSs_cons, evS, evE, evL, evB, evAnd, evOr, evO, onOwn, guardO, setAll, thenS_nx, thenS_rt, thenS_ex, onV_ok, onV_ex, onB_ok, onB_ex, bindV_ok, bindV_ex, boolV_ok, bindA_ok, consA_ok, optI_none, optI_some, outcome_nx, outcome_shr, outcome_frs, outcome_ex, setV_shr, setV_frs, binD_add, binD_addT, binD_addL, binD_sub, binD_mulr, binD_mull, binD_fdiv', binD_mod', cmpD_lt, cmpD_le, cmpD_gt, cmpD_ge, cmpD_eqi, cmpD_nei, cmpD_is, cmpD_isn, cmpD_memL, cmpD_nmemL, cmpD_memT, cmpD_nmemT, isN_none, isN_int, isN_tup, isN_lst, isN_bool, isN_str, flat_int, flat_str, flat_none, flat_bool, fnD_lenL, fnD_lenT, fnD_lenS, fnD_intB, fnD_str, fnD_tupL, fnD_tupT, fnD_lstL, fnD_lstT, fnD_all, idxD_L, idxD_T, idxD_S, slcD_L, slcD_T, itemsD_L, itemsD_T, asD_shr, asD_frs, asB_ok, okCall_t, noBrw_nil, noBrw_shr, noBrw_frs, tests_nil, tests_one, at0, at1, at2, lim_eq, List.set_cons_zero, List.set_cons_succ, List.getElem?_cons_zero, List.getElem?_cons_succ, List.length_cons, List.length_nil, List.map_cons, List.map_nil, Option.map_some, Option.map_none, if_true, if_false, ite_true, ite_false, reduceIte, reduceCtorEq, decide_true, decide_false, Nat.reduceAdd, Nat.reduceSub, Nat.reduceEqDiff, Int.reduceNeg, Int.reduceLT, Int.reduceLE, Bool.not_true, Bool.not_false, Nat.reduceLeDiff, and_self, true_and, and_true, c6, g6, Bool.false_eq_true])).trans ?_
    have hpl : fnD .lst (placesD ys) = some (.ok .frs (placesD ys)) := rfl
    refine (seq (st' := [some (false, scrD ns), some (false, p.d), some (false, q.d), some (true, placesD ys), k4, some (false, stD (i, ms)), none, some (true, .list [.list (p.rows.map Row.d), placesD ys]), none, none, none, none]) (by simp only [runD, Dv.start, evSs_nil, evSs_cons, evS, evE, evL, evB, evAnd, evOr, evO, onOwn, guardO, setAll, thenS_nx, thenS_rt, thenS_ex, onV_ok, onV_ex, onB_ok, onB_ex, bindV_ok, bindV_ex, boolV_ok, bindA_ok, consA_ok, optI_none, optI_some, outcome_nx, outcome_shr, outcome_frs, outcome_ex, setV_shr, setV_frs, binD_add, binD_addT, binD_addL, binD_sub, binD_mulr, binD_mull, binD_fdiv', binD_mod', cmpD_lt, cmpD_le, cmpD_gt, cmpD_ge, cmpD_eqi, cmpD_nei, cmpD_is, cmpD_isn, cmpD_memL, cmpD_nmemL, cmpD_memT, cmpD_nmemT, isN_none, isN_int, isN_tup, isN_lst, isN_bool, isN_str, flat_int, flat_str, flat_none, flat_bool, fnD_lenL, fnD_lenT, fnD_lenS, fnD_intB, fnD_str, fnD_tupL, fnD_tupT, fnD_lstL, fnD_lstT, fnD_all, idxD_L, idxD_T, idxD_S, slcD_L, slcD_T, itemsD_L, itemsD_T, asD_shr, asD_frs, asB_ok, okCall_t, noBrw_nil, noBrw_shr, noBrw_frs, tests_nil, tests_one, at0, at1, at2, lim_eq, List.set_cons_zero, List.set_cons_succ, List.getElem?_cons_zero, List.getElem?_cons_succ, List.length_cons, List.length_nil, List.map_cons, List.map_nil, Option.map_some, Option.map_none, if_true, if_false, ite_true, ite_false, reduceIte, reduceCtorEq, decide_true, decide_false, Nat.reduceAdd, Nat.reduceSub, Nat.reduceEqDiff, Int.reduceNeg, Int.reduceLT, Int.reduceLE, Bool.not_true, Bool.not_false, Nat.reduceLeDiff, and_self, true_and, and_true, Prog.d, hpl, Nat.reduceLeDiff])).trans ?_
    refine (seq (st' := [some (false, scrD ns), some (false, p.d), some (false, q.d), some (false, placesD ys), k4, some (false, stD (i, ms)), none, some (true, .list [.list (p.rows.map Row.d), placesD ys]), none, none, none, none]) (by simp only [runD, Dv.start, evSs_nil, evSs_cons, evS, evE, evL, evB, evAnd, evOr, evO, onOwn, guardO, setAll, thenS_nx, thenS_rt, thenS_ex, onV_ok, onV_ex, onB_ok, onB_ex, bindV_ok, bindV_ex, boolV_ok, bindA_ok, consA_ok, optI_none, optI_some, outcome_nx, outcome_shr, outcome_frs, outcome_ex, setV_shr, setV_frs, binD_add, binD_addT, binD_addL, binD_sub, binD_mulr, binD_mull, binD_fdiv', binD_mod', cmpD_lt, cmpD_le, cmpD_gt, cmpD_ge, cmpD_eqi, cmpD_nei, cmpD_is, cmpD_isn, cmpD_memL, cmpD_nmemL, cmpD_memT, cmpD_nmemT, isN_none, isN_int, isN_tup, isN_lst, isN_bool, isN_str, flat_int, flat_str, flat_none, flat_bool, fnD_lenL, fnD_lenT, fnD_lenS, fnD_intB, fnD_str, fnD_tupL, fnD_tupT, fnD_lstL, fnD_lstT, fnD_all, idxD_L, idxD_T, idxD_S, slcD_L, slcD_T, itemsD_L, itemsD_T, asD_shr, asD_frs, asB_ok, okCall_t, noBrw_nil, noBrw_shr, noBrw_frs, tests_nil, tests_one, at0, at1, at2, lim_eq, List.set_cons_zero, List.set_cons_succ, List.getElem?_cons_zero, List.getElem?_cons_succ, List.length_cons, List.length_nil, List.map_cons, List.map_nil, Option.map_some, Option.map_none, if_true, if_false, ite_true, ite_false, reduceIte, reduceCtorEq, decide_true, decide_false, Nat.reduceAdd, Nat.reduceSub, Nat.reduceEqDiff, Int.reduceNeg, Int.reduceLT, Int.reduceLE, Bool.not_true, Bool.not_false, Nat.reduceLeDiff, and_self, true_and, and_true])).trans ?_
    have lr := law_rules_ok (fu := fu) (n := 9) hay (by omega)
    refine (seq (st' := [some (false, scrD ns), some (false, p.d), some (false, q.d), some (false, placesD ys), k4, some (false, stD (i, ms)), none, some (true, .list [.list (p.rows.map Row.d), placesD ys]), some (true, .dict (rofD ys)), none, none, none]) (by simp only [runD, Dv.start, evSs_nil, evSs_cons, evS, evE, evL, evB, evAnd, evOr, evO, onOwn, guardO, setAll, thenS_nx, thenS_rt, thenS_ex, onV_ok, onV_ex, onB_ok, onB_ex, bindV_ok, bindV_ex, boolV_ok, bindA_ok, consA_ok, optI_none, optI_some, outcome_nx, outcome_shr, outcome_frs, outcome_ex, setV_shr, setV_frs, binD_add, binD_addT, binD_addL, binD_sub, binD_mulr, binD_mull, binD_fdiv', binD_mod', cmpD_lt, cmpD_le, cmpD_gt, cmpD_ge, cmpD_eqi, cmpD_nei, cmpD_is, cmpD_isn, cmpD_memL, cmpD_nmemL, cmpD_memT, cmpD_nmemT, isN_none, isN_int, isN_tup, isN_lst, isN_bool, isN_str, flat_int, flat_str, flat_none, flat_bool, fnD_lenL, fnD_lenT, fnD_lenS, fnD_intB, fnD_str, fnD_tupL, fnD_tupT, fnD_lstL, fnD_lstT, fnD_all, idxD_L, idxD_T, idxD_S, slcD_L, slcD_T, itemsD_L, itemsD_T, asD_shr, asD_frs, asB_ok, okCall_t, noBrw_nil, noBrw_shr, noBrw_frs, tests_nil, tests_one, at0, at1, at2, lim_eq, List.set_cons_zero, List.set_cons_succ, List.getElem?_cons_zero, List.getElem?_cons_succ, List.length_cons, List.length_nil, List.map_cons, List.map_nil, Option.map_some, Option.map_none, if_true, if_false, ite_true, ite_false, reduceIte, reduceCtorEq, decide_true, decide_false, Nat.reduceAdd, Nat.reduceSub, Nat.reduceEqDiff, Int.reduceNeg, Int.reduceLT, Int.reduceLE, Bool.not_true, Bool.not_false, Nat.reduceLeDiff, and_self, true_and, and_true, lr])).trans ?_
    have ls := law_step_is (fu := fu) (n := 8) hp hs
    refine (seq (st' := [some (false, scrD ns), some (false, p.d), some (false, q.d), some (false, placesD ys), k4, some (false, stD (i, ms)), none, some (true, .list [.list (p.rows.map Row.d), placesD ys]), some (true, .dict (rofD ys)), some (false, optS (stepV p (i, ms)).1), none, none]) (by simp only [runD, Dv.start, evSs_nil, evSs_cons, evS, evE, evL, evB, evAnd, evOr, evO, onOwn, guardO, setAll, thenS_nx, thenS_rt, thenS_ex, onV_ok, onV_ex, onB_ok, onB_ex, bindV_ok, bindV_ex, boolV_ok, bindA_ok, consA_ok, optI_none, optI_some, outcome_nx, outcome_shr, outcome_frs, outcome_ex, setV_shr, setV_frs, binD_add, binD_addT, binD_addL, binD_sub, binD_mulr, binD_mull, binD_fdiv', binD_mod', cmpD_lt, cmpD_le, cmpD_gt, cmpD_ge, cmpD_eqi, cmpD_nei, cmpD_is, cmpD_isn, cmpD_memL, cmpD_nmemL, cmpD_memT, cmpD_nmemT, isN_none, isN_int, isN_tup, isN_lst, isN_bool, isN_str, flat_int, flat_str, flat_none, flat_bool, fnD_lenL, fnD_lenT, fnD_lenS, fnD_intB, fnD_str, fnD_tupL, fnD_tupT, fnD_lstL, fnD_lstT, fnD_all, idxD_L, idxD_T, idxD_S, slcD_L, slcD_T, itemsD_L, itemsD_T, asD_shr, asD_frs, asB_ok, okCall_t, noBrw_nil, noBrw_shr, noBrw_frs, tests_nil, tests_one, at0, at1, at2, lim_eq, List.set_cons_zero, List.set_cons_succ, List.getElem?_cons_zero, List.getElem?_cons_succ, List.length_cons, List.length_nil, List.map_cons, List.map_nil, Option.map_some, Option.map_none, if_true, if_false, ite_true, ite_false, reduceIte, reduceCtorEq, decide_true, decide_false, Nat.reduceAdd, Nat.reduceSub, Nat.reduceEqDiff, Int.reduceNeg, Int.reduceLT, Int.reduceLE, Bool.not_true, Bool.not_false, Nat.reduceLeDiff, and_self, true_and, and_true, ls, pairD])).trans ?_
    refine (seq (st' := [some (false, scrD ns), some (false, p.d), some (false, q.d), some (false, placesD ys), k4, some (false, stD (i, ms)), none, some (true, .list [.list (p.rows.map Row.d), placesD ys]), some (false, .dict (rofD ys)), some (false, optS (stepV p (i, ms)).1), none, none]) (by simp only [runD, Dv.start, evSs_nil, evSs_cons, evS, evE, evL, evB, evAnd, evOr, evO, onOwn, guardO, setAll, thenS_nx, thenS_rt, thenS_ex, onV_ok, onV_ex, onB_ok, onB_ex, bindV_ok, bindV_ex, boolV_ok, bindA_ok, consA_ok, optI_none, optI_some, outcome_nx, outcome_shr, outcome_frs, outcome_ex, setV_shr, setV_frs, binD_add, binD_addT, binD_addL, binD_sub, binD_mulr, binD_mull, binD_fdiv', binD_mod', cmpD_lt, cmpD_le, cmpD_gt, cmpD_ge, cmpD_eqi, cmpD_nei, cmpD_is, cmpD_isn, cmpD_memL, cmpD_nmemL, cmpD_memT, cmpD_nmemT, isN_none, isN_int, isN_tup, isN_lst, isN_bool, isN_str, flat_int, flat_str, flat_none, flat_bool, fnD_lenL, fnD_lenT, fnD_lenS, fnD_intB, fnD_str, fnD_tupL, fnD_tupT, fnD_lstL, fnD_lstT, fnD_all, idxD_L, idxD_T, idxD_S, slcD_L, slcD_T, itemsD_L, itemsD_T, asD_shr, asD_frs, asB_ok, okCall_t, noBrw_nil, noBrw_shr, noBrw_frs, tests_nil, tests_one, at0, at1, at2, lim_eq, List.set_cons_zero, List.set_cons_succ, List.getElem?_cons_zero, List.getElem?_cons_succ, List.length_cons, List.length_nil, List.map_cons, List.map_nil, Option.map_some, Option.map_none, if_true, if_false, ite_true, ite_false, reduceIte, reduceCtorEq, decide_true, decide_false, Nat.reduceAdd, Nat.reduceSub, Nat.reduceEqDiff, Int.reduceNeg, Int.reduceLT, Int.reduceLE, Bool.not_true, Bool.not_false, Nat.reduceLeDiff, and_self, true_and, and_true])).trans ?_
    -- the states that are asked
    obtain ⟨L, hL, esrc⟩ : ∃ L : List Stt, (∀ t ∈ L, StateOk p t) ∧ evE (run tab fu 10) (.bin .add (.bin .add (.lst [.var 5]) (.bin .mul (.lst [.var 9]) (.fn .int (.cmp .isn (.var 9) .non)))) (.lst [.var 5])) [some (false, scrD ns), some (false, p.d), some (false, q.d), some (false, placesD ys), k4, some (false, stD (i, ms)), none, some (true, .list [.list (p.rows.map Row.d), placesD ys]), some (false, .dict (rofD ys)), some (false, optS (stepV p (i, ms)).1), none, none] = some (.ok .frs (.list (L.map stD))) := by
      have so := step_ok hp hs
      cases hst : (stepV p (i, ms)).1 with
      | none =>
        refine ⟨[(i, ms), (i, ms)], by simp [hs], ?_⟩
        have em0 : binD .mul (.list [PyData.none]) (.int 0) = some (.ok .frs (.list [])) := mulL_of (k := 0) (by decide)
        simp only [runD, Dv.start, evSs_nil, evSs_cons, evS, evE, evL, evB, evAnd, evOr, evO, onOwn, guardO, setAll, thenS_nx, thenS_rt, thenS_ex, onV_ok, onV_ex, onB_ok, onB_ex, bindV_ok, bindV_ex, boolV_ok, bindA_ok, consA_ok, optI_none, optI_some, outcome_nx, outcome_shr, outcome_frs, outcome_ex, setV_shr, setV_frs, binD_add, binD_addT, binD_addL, binD_sub, binD_mulr, binD_mull, binD_fdiv', binD_mod', cmpD_lt, cmpD_le, cmpD_gt, cmpD_ge, cmpD_eqi, cmpD_nei, cmpD_is, cmpD_isn, cmpD_memL, cmpD_nmemL, cmpD_memT, cmpD_nmemT, isN_none, isN_int, isN_tup, isN_lst, isN_bool, isN_str, flat_int, flat_str, flat_none, flat_bool, fnD_lenL, fnD_lenT, fnD_lenS, fnD_intB, fnD_str, fnD_tupL, fnD_tupT, fnD_lstL, fnD_lstT, fnD_all, idxD_L, idxD_T, idxD_S, slcD_L, slcD_T, itemsD_L, itemsD_T, asD_shr, asD_frs, asB_ok, okCall_t, noBrw_nil, noBrw_shr, noBrw_frs, tests_nil, tests_one, at0, at1, at2, lim_eq, List.set_cons_zero, List.set_cons_succ, List.getElem?_cons_zero, List.getElem?_cons_succ, List.length_cons, List.length_nil, List.map_cons, List.map_nil, Option.map_some, Option.map_none, if_true, if_false, ite_true, ite_false, reduceIte, reduceCtorEq, decide_true, decide_false, Nat.reduceAdd, Nat.reduceSub, Nat.reduceEqDiff, Int.reduceNeg, Int.reduceLT, Int.reduceLE, Bool.not_true, Bool.not_false, Nat.reduceLeDiff, and_self, true_and, and_true, optS, em0, Bool.false_eq_true, List.append_nil, List.cons_append, List.nil_append, Nat.reduceLeDiff]
      | some t =>
        refine ⟨[(i, ms), t, (i, ms)], by simp [hs, so t hst], ?_⟩
        have em1 : binD .mul (.list [stD t]) (.int 1) = some (.ok .frs (.list [stD t])) := mulL_of (k := 1) (by decide)
        simp only [runD, Dv.start, evSs_nil, evSs_cons, evS, evE, evL, evB, evAnd, evOr, evO, onOwn, guardO, setAll, thenS_nx, thenS_rt, thenS_ex, onV_ok, onV_ex, onB_ok, onB_ex, bindV_ok, bindV_ex, boolV_ok, bindA_ok, consA_ok, optI_none, optI_some, outcome_nx, outcome_shr, outcome_frs, outcome_ex, setV_shr, setV_frs, binD_add, binD_addT, binD_addL, binD_sub, binD_mulr, binD_mull, binD_fdiv', binD_mod', cmpD_lt, cmpD_le, cmpD_gt, cmpD_ge, cmpD_eqi, cmpD_nei, cmpD_is, cmpD_isn, cmpD_memL, cmpD_nmemL, cmpD_memT, cmpD_nmemT, isN_none, isN_int, isN_tup, isN_lst, isN_bool, isN_str, flat_int, flat_str, flat_none, flat_bool, fnD_lenL, fnD_lenT, fnD_lenS, fnD_intB, fnD_str, fnD_tupL, fnD_tupT, fnD_lstL, fnD_lstT, fnD_all, idxD_L, idxD_T, idxD_S, slcD_L, slcD_T, itemsD_L, itemsD_T, asD_shr, asD_frs, asB_ok, okCall_t, noBrw_nil, noBrw_shr, noBrw_frs, tests_nil, tests_one, at0, at1, at2, lim_eq, List.set_cons_zero, List.set_cons_succ, List.getElem?_cons_zero, List.getElem?_cons_succ, List.length_cons, List.length_nil, List.map_cons, List.map_nil, Option.map_some, Option.map_none, if_true, if_false, ite_true, ite_false, reduceIte, reduceCtorEq, decide_true, decide_false, Nat.reduceAdd, Nat.reduceSub, Nat.reduceEqDiff, Int.reduceNeg, Int.reduceLT, Int.reduceLE, Bool.not_true, Bool.not_false, Nat.reduceLeDiff, and_self, true_and, and_true, optS_some, isN_stD, em1, List.cons_append, List.nil_append, Nat.reduceLeDiff]
    obtain ⟨st', el, k10, k11, est⟩ := forGo_lst (f := fun d st => evSs (run tab fu 10) fu b_law_0 (List.set st 10 (some (false, d))))
      (fun _ st => ∃ (k10 k11 : Option (Bool × D)), st = [some (false, scrD ns), some (false, p.d), some (false, q.d), some (false, placesD ys), k4, some (false, stD (i, ms)), none, some (true, .list [.list (p.rows.map Row.d), placesD ys]), some (false, .dict (rofD ys)), some (false, optS (stepV p (i, ms)).1), k10, k11]) (L.map stD)
      [some (false, scrD ns), some (false, p.d), some (false, q.d), some (false, placesD ys), k4, some (false, stD (i, ms)), none, some (true, .list [.list (p.rows.map Row.d), placesD ys]), some (false, .dict (rofD ys)), some (false, optS (stepV p (i, ms)).1), none, none] (by
        rintro j x st hxj ⟨k10, k11, rfl⟩
        obtain ⟨t, ht, rfl⟩ := List.mem_map.mp (List.mem_of_getElem? hxj)
        have hto := hL t ht
        have lm := law_met_ok (fu := fu) (n := 7) hf1 hf2 hp hq hy hto
        have mo := met_ok (fu := fu) (n := 6) hf1 hf2 hp hq hy hay (by omega) hto
        have io := is_met_ok (fu := fu) (n := 9) (metV_word p ys t) (metV_len p ys t)
        refine ⟨_, ?_, some (false, stD t), some (false, metD (metV p ys t)), rfl⟩
        unfold b_law_0
        simp only [List.set_cons_zero, List.set_cons_succ]
        refine (seq (st' := [some (false, scrD ns), some (false, p.d), some (false, q.d), some (false, placesD ys), k4, some (false, stD (i, ms)), none, some (true, .list [.list (p.rows.map Row.d), placesD ys]), some (false, .dict (rofD ys)), some (false, optS (stepV p (i, ms)).1), some (false, stD t), some (false, metD (metV p ys t))]) (by simp only [runD, Dv.start, evSs_nil, evSs_cons, evS, evE, evL, evB, evAnd, evOr, evO, onOwn, guardO, setAll, thenS_nx, thenS_rt, thenS_ex, onV_ok, onV_ex, onB_ok, onB_ex, bindV_ok, bindV_ex, boolV_ok, bindA_ok, consA_ok, optI_none, optI_some, outcome_nx, outcome_shr, outcome_frs, outcome_ex, setV_shr, setV_frs, binD_add, binD_addT, binD_addL, binD_sub, binD_mulr, binD_mull, binD_fdiv', binD_mod', cmpD_lt, cmpD_le, cmpD_gt, cmpD_ge, cmpD_eqi, cmpD_nei, cmpD_is, cmpD_isn, cmpD_memL, cmpD_nmemL, cmpD_memT, cmpD_nmemT, isN_none, isN_int, isN_tup, isN_lst, isN_bool, isN_str, flat_int, flat_str, flat_none, flat_bool, fnD_lenL, fnD_lenT, fnD_lenS, fnD_intB, fnD_str, fnD_tupL, fnD_tupT, fnD_lstL, fnD_lstT, fnD_all, idxD_L, idxD_T, idxD_S, slcD_L, slcD_T, itemsD_L, itemsD_T, asD_shr, asD_frs, asB_ok, okCall_t, noBrw_nil, noBrw_shr, noBrw_frs, tests_nil, tests_one, at0, at1, at2, lim_eq, List.set_cons_zero, List.set_cons_succ, List.getElem?_cons_zero, List.getElem?_cons_succ, List.length_cons, List.length_nil, List.map_cons, List.map_nil, Option.map_some, Option.map_none, if_true, if_false, ite_true, ite_false, reduceIte, reduceCtorEq, decide_true, decide_false, Nat.reduceAdd, Nat.reduceSub, Nat.reduceEqDiff, Int.reduceNeg, Int.reduceLT, Int.reduceLE, Bool.not_true, Bool.not_false, Nat.reduceLeDiff, and_self, true_and, and_true, lm])).trans ?_
        refine (seq (st' := [some (false, scrD ns), some (false, p.d), some (false, q.d), some (false, placesD ys), k4, some (false, stD (i, ms)), none, some (true, .list [.list (p.rows.map Row.d), placesD ys]), some (false, .dict (rofD ys)), some (false, optS (stepV p (i, ms)).1), some (false, stD t), some (false, metD (metV p ys t))]) (by simp only [runD, Dv.start, evSs_nil, evSs_cons, evS, evE, evL, evB, evAnd, evOr, evO, onOwn, guardO, setAll, thenS_nx, thenS_rt, thenS_ex, onV_ok, onV_ex, onB_ok, onB_ex, bindV_ok, bindV_ex, boolV_ok, bindA_ok, consA_ok, optI_none, optI_some, outcome_nx, outcome_shr, outcome_frs, outcome_ex, setV_shr, setV_frs, binD_add, binD_addT, binD_addL, binD_sub, binD_mulr, binD_mull, binD_fdiv', binD_mod', cmpD_lt, cmpD_le, cmpD_gt, cmpD_ge, cmpD_eqi, cmpD_nei, cmpD_is, cmpD_isn, cmpD_memL, cmpD_nmemL, cmpD_memT, cmpD_nmemT, isN_none, isN_int, isN_tup, isN_lst, isN_bool, isN_str, flat_int, flat_str, flat_none, flat_bool, fnD_lenL, fnD_lenT, fnD_lenS, fnD_intB, fnD_str, fnD_tupL, fnD_tupT, fnD_lstL, fnD_lstT, fnD_all, idxD_L, idxD_T, idxD_S, slcD_L, slcD_T, itemsD_L, itemsD_T, asD_shr, asD_frs, asB_ok, okCall_t, noBrw_nil, noBrw_shr, noBrw_frs, tests_nil, tests_one, at0, at1, at2, lim_eq, List.set_cons_zero, List.set_cons_succ, List.getElem?_cons_zero, List.getElem?_cons_succ, List.length_cons, List.length_nil, List.map_cons, List.map_nil, Option.map_some, Option.map_none, if_true, if_false, ite_true, ite_false, reduceIte, reduceCtorEq, decide_true, decide_false, Nat.reduceAdd, Nat.reduceSub, Nat.reduceEqDiff, Int.reduceNeg, Int.reduceLT, Int.reduceLE, Bool.not_true, Bool.not_false, Nat.reduceLeDiff, and_self, true_and, and_true, mo, io, Bool.false_eq_true])).trans ?_
        exact evSs_nil) ⟨none, none, rfl⟩
    subst est
    refine (seq ((for_ofF esrc).trans el)).trans ?_
    have ke := kept_eq p ys
    refine (seq_rt ?_).trans rfl
    simp only [runD, Dv.start, evSs_nil, evSs_cons, evS, evE, evL, evB, evAnd, evOr, evO, onOwn, guardO, setAll, thenS_nx, thenS_rt, thenS_ex, onV_ok, onV_ex, onB_ok, onB_ex, bindV_ok, bindV_ex, boolV_ok, bindA_ok, consA_ok, optI_none, optI_some, outcome_nx, outcome_shr, outcome_frs, outcome_ex, setV_shr, setV_frs, binD_add, binD_addT, binD_addL, binD_sub, binD_mulr, binD_mull, binD_fdiv', binD_mod', cmpD_lt, cmpD_le, cmpD_gt, cmpD_ge, cmpD_eqi, cmpD_nei, cmpD_is, cmpD_isn, cmpD_memL, cmpD_nmemL, cmpD_memT, cmpD_nmemT, isN_none, isN_int, isN_tup, isN_lst, isN_bool, isN_str, flat_int, flat_str, flat_none, flat_bool, fnD_lenL, fnD_lenT, fnD_lenS, fnD_intB, fnD_str, fnD_tupL, fnD_tupT, fnD_lstL, fnD_lstT, fnD_all, idxD_L, idxD_T, idxD_S, slcD_L, slcD_T, itemsD_L, itemsD_T, asD_shr, asD_frs, asB_ok, okCall_t, noBrw_nil, noBrw_shr, noBrw_frs, tests_nil, tests_one, at0, at1, at2, lim_eq, List.set_cons_zero, List.set_cons_succ, List.getElem?_cons_zero, List.getElem?_cons_succ, List.length_cons, List.length_nil, List.map_cons, List.map_nil, Option.map_some, Option.map_none, if_true, if_false, ite_true, ite_false, reduceIte, reduceCtorEq, decide_true, decide_false, Nat.reduceAdd, Nat.reduceSub, Nat.reduceEqDiff, Int.reduceNeg, Int.reduceLT, Int.reduceLE, Bool.not_true, Bool.not_false, Nat.reduceLeDiff, and_self, true_and, and_true, Prog.d, ke, Nat.reduceLeDiff]
theorem main (ns : List Int) (hns : ns.length ≤ 63) : ∃ k, run tab 2100 (10 + 1) "law" [scrD ns] = some (.ok k (.bool true)) := main_fu 2100 (by decide) (by decide) ns
end Law

open PySem PySem.W PyProof.Rows in
set_option maxHeartbeats 0 in
theorem PySem.Challenge.cw_liveswap_k07_met_holds : PySem.Challenge.rw_liveswap_k07_met.Holds := by
  w_on; o_law; k_head; (case hw => w_witness2)
  k_fill
  refine Dv.law_walk (l := PySem.Challenge.rw_liveswap_k07_met) (n := 10) (tab := Law.tab) (fu := 2100) (cs := Law.cs) (hc := Law.hc) (ht := Law.ht) (es := Law.es) (d := Law.d_law) (st := Law.top 35) (x := "_law_script") rfl rfl ⟨rfl, by decide, by decide⟩ rfl rfl (fun w h Y => PySem.W.kIn_of Y) ?F Law.main
  case F =>
    intro w mg h KX G
    refine' Law.all_mk KX G ?a0 ?l0 ?c0 ?k0 ?a1 ?l1 ?c1 ?k1 ?a2 ?l2 ?c2 ?k2 ?a3 ?l3 ?c3 ?k3 ?a4 ?l4 ?c4 ?k4 ?a5 ?l5 ?c5 ?k5 ?a6 ?l6 ?c6 ?k6 ?a7 ?l7 ?c7 ?k7 ?a8 ?l8 ?c8 ?k8 ?a9 ?l9 ?c9 ?k9 ?a10 ?l10 ?c10 ?k10 ?a11 ?l11 ?c11 ?k11 ?a12 ?l12 ?c12 ?k12 ?a13 ?l13 ?c13 ?k13 ?a14 ?l14 ?c14 ?k14 ?a15 ?l15 ?c15 ?k15 ?a16 ?l16 ?c16 ?k16 ?a17 ?l17 ?c17 ?k17 ?a18 ?l18 ?c18 ?k18 ?a19 ?l19 ?c19 ?k19 ?a20 ?l20 ?c20 ?k20 ?a21 ?l21 ?c21 ?k21 ?a22 ?l22 ?c22 ?k22 ?z0 ?z1 ?z2 ?z3 ?z4 ?z5 ?z6 ?z7 ?z8 ?z9 ?z10 ?z11 ?z12 ?xg0 ?xq0 ?xk0 ?xb0 ?xt0 ?xg1 ?xg2 ?xg3 ?xg4 ?xg5 ?xg6 ?xg7 ?i1_ ?y1 ?s1_ ?yb ?i2_ ?y2 ?s2_ ?i3_ ?y3 ?s3_ ?i4_ ?y4 ?s4_ ?i0_ ?y0 ?s0_ ?i5_ ?y5 ?s5_ ?i6_ ?y6 ?s6_ ?i7_ ?y7 ?s7_ ?hg0 ?hk0 ?hs0 ?hd0 ?ha0 ?hn0 ?ht0 ?hm0 ?kv0 ?ko1_0 ?ko2_0 ?ko3_0 ?ko4_0 ?ko0_0 ?ko5_0 ?ko6_0 ?ko7_0
    (case a0 => k_is)
    (case l0 => k_is)
    (case c0 => k_is)
    (case k0 => k_is)
    (case a1 => k_is)
    (case l1 => k_is)
    (case c1 => k_is)
    (case k1 => k_is)
    (case a2 => k_is)
    (case l2 => k_is)
    (case c2 => k_is)
    (case k2 => k_is)
    (case a3 => k_is)
    (case l3 => k_is)
    (case c3 => k_is)
    (case k3 => k_is)
    (case a4 => k_is)
    (case l4 => k_is)
    (case c4 => k_is)
    (case k4 => k_is)
    (case a5 => k_is)
    (case l5 => k_is)
    (case c5 => k_is)
    (case k5 => k_is)
    (case a6 => k_is)
    (case l6 => k_is)
    (case c6 => k_is)
    (case k6 => k_is)
    (case a7 => k_is)
    (case l7 => k_is)
    (case c7 => k_is)
    (case k7 => k_is)
    (case a8 => k_is)
    (case l8 => k_is)
    (case c8 => k_is)
    (case k8 => k_is)
    (case a9 => k_is)
    (case l9 => k_is)
    (case c9 => k_is)
    (case k9 => k_is)
    (case a10 => k_is)
    (case l10 => k_is)
    (case c10 => k_is)
    (case k10 => k_is)
    (case a11 => k_is)
    (case l11 => k_is)
    (case c11 => k_is)
    (case k11 => k_is)
    (case a12 => k_is)
    (case l12 => k_is)
    (case c12 => k_is)
    (case k12 => k_is)
    (case a13 => k_is)
    (case l13 => k_is)
    (case c13 => k_is)
    (case k13 => k_is)
    (case a14 => k_is)
    (case l14 => k_is)
    (case c14 => k_is)
    (case k14 => k_is)
    (case a15 => k_is)
    (case l15 => k_is)
    (case c15 => k_is)
    (case k15 => k_is)
    (case a16 => k_is)
    (case l16 => k_is)
    (case c16 => k_is)
    (case k16 => k_is)
    (case a17 => k_is)
    (case l17 => k_is)
    (case c17 => k_is)
    (case k17 => k_is)
    (case a18 => k_is)
    (case l18 => k_is)
    (case c18 => k_is)
    (case k18 => k_is)
    (case a19 => k_is)
    (case l19 => k_is)
    (case c19 => k_is)
    (case k19 => k_is)
    (case a20 => k_is)
    (case l20 => k_is)
    (case c20 => k_is)
    (case k20 => k_is)
    (case a21 => k_is)
    (case l21 => k_is)
    (case c21 => k_is)
    (case k21 => k_is)
    (case a22 => k_is)
    (case l22 => k_is)
    (case c22 => k_is)
    (case k22 => k_is)
    (case z0 => k_is)
    (case z1 => k_is)
    (case z2 => k_is)
    (case z3 => k_is)
    (case z4 => k_is)
    (case z5 => k_is)
    (case z6 => k_is)
    (case z7 => k_is)
    (case z8 => k_is)
    (case z9 => k_is)
    (case z10 => k_is)
    (case z11 => k_is)
    (case z12 => k_is)
    (case xg0 => k_is)
    (case xq0 => k_exc)
    (case xk0 => k_is)
    (case xb0 => k_is)
    (case xt0 => k_is)
    (case xg1 => k_is)
    (case xg2 => k_is)
    (case xg3 => k_is)
    (case xg4 => k_is)
    (case xg5 => k_is)
    (case xg6 => k_is)
    (case xg7 => k_is)
    (case i1_ => k_is)
    (case y1 => k_is)
    (case s1_ => first | rfl | k_is)
    (case yb => k_is)
    (case i2_ => k_is)
    (case y2 => k_is)
    (case s2_ => first | rfl | k_is)
    (case i3_ => k_is)
    (case y3 => k_is)
    (case s3_ => first | rfl | k_is)
    (case i4_ => k_is)
    (case y4 => k_is)
    (case s4_ => first | rfl | k_is)
    (case i0_ => k_is)
    (case y0 => k_is)
    (case s0_ => first | rfl | k_is)
    (case i5_ => k_is)
    (case y5 => k_is)
    (case s5_ => first | rfl | k_is)
    (case i6_ => k_is)
    (case y6 => k_is)
    (case s6_ => first | rfl | k_is)
    (case i7_ => k_is)
    (case y7 => k_is)
    (case s7_ => first | rfl | k_is)
    (case hg0 => k_is)
    (case hk0 => k_is)
    (case hs0 => k_is)
    (case hd0 => k_is)
    (case ha0 => k_is)
    (case hn0 => k_is)
    (case ht0 => k_is)
    (case hm0 => k_is)
    (case kv0 => k_is)
    (case ko1_0 => first | rfl | k_is)
    (case ko2_0 => first | rfl | k_is)
    (case ko3_0 => first | rfl | k_is)
    (case ko4_0 => first | rfl | k_is)
    (case ko0_0 => first | rfl | k_is)
    (case ko5_0 => first | rfl | k_is)
    (case ko6_0 => first | rfl | k_is)
    (case ko7_0 => first | rfl | k_is)
