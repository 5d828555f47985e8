import PyProof.Rows.All
import Wide.All
import OpenK.AllK
import Wide.FinOn
import PyProof.EqAt
import PyProof.EqKinds
import PyProof.TupleCall
import HandS.ForMost
import HandS.ForExc
import HandS.ExcIs
import HandS.IsInst
import HandS.TupAny
import HandS.Conv
import HandS.CallSlots
import HandS.Deep
import HandS.More
import HandS.Rev
import HandS.Zip
import HandS.Iter
import KE.KDictKeyed
import HandS.TupLen
import Open.SpecLaws
import KE.OsGo
import HandS.ForSpec
import HandS.TryOnly
import PySem.Challenge.RW_liveswap_k02_ran
set_option Elab.async false
set_option linter.all false
set_option maxRecDepth 100000
set_option maxHeartbeats 4000000
/-! Dv, part A: a small language of data (values are trees), its evaluator, and a checker that holds a piece of the program's syntax against it. -/
namespace Dv
open PySem

abbrev D := PyData

inductive Kd | shr | brw | frs
  deriving DecidableEq
inductive EO | ok (k : Kd) (d : D) | ex (c : Str)
abbrev Ev := List (Option (Bool × D))
inductive SO | nx (st : Ev) | rt (k : Kd) (d : D) | ex (c : Str)

inductive BOp | add | sub | mul | fdiv | mod | pow
  deriving DecidableEq
inductive COp | eq | ne | lt | le | gt | ge | is | isn | mem | nmem
  deriving DecidableEq
inductive TyN | int | bool | str | list | tuple | dict
  deriving DecidableEq
inductive B1 | len | int | str | tup | lst | all
  deriving DecidableEq

/-- what is asked of cells within an expression: a field, a method, a list's copy -/
inductive Cop | fld (f : Str) | mth (c m : Str) | lstof
def opName : Cop → Str
  | .fld f => ⟨(35 :: 46 :: f.cps.toList).toArray⟩
  | .mth c m => ⟨(35 :: 58 :: c.cps.toList.length :: (c.cps.toList ++ m.cps.toList)).toArray⟩
  | .lstof => ⟨[35, 108].toArray⟩
def isOp (s : Str) : Bool := s.cps.toList.head? == some 35
theorem opName_is (o : Cop) : isOp (opName o) = true := by
  cases o <;> rfl
inductive E where
  | cop (o : Cop) (es : List E)
  | var (i : Nat)
  | non
  | bl (b : Bool)
  | int (i : Int)
  | str (s : Str)
  | glb (x : Str) (i : Int)
  | bin (op : BOp) (a b : E)
  | neg (a : E)
  | cmp (op : COp) (a b : E)
  | chn (o p : COp) (a b c : E)
  | and (es : List E)
  | or (es : List E)
  | not (a : E)
  | ife (c a b : E)
  | idx (a i : E)
  | slc (a : E) (lo hi : Option E)
  | tup (es : List E)
  | lst (es : List E)
  | dic
  | fn (f : B1) (a : E)
  | isi (a : E) (t : TyN)
  | isis (a : E) (ts : List TyN)
  | lrg (a : E)
  | lset (a : E)
  | dicT
  | call (f : Str) (es : List E)
  | callAt (fs : List Str) (i : E) (es : List E)
  | cmpL (x : E) (i : Nat) (src : E) (ifs : List E)
  | cmpR (x : E) (i : Nat) (n : E) (ifs : List E)

/-- what a suite may ask of its exception, and what it makes of that -/
inductive HX where
  | isE (c : Str)
  | isV
  | isEs (cs : List Str)
  | var (j : Nat)
  | not (a : HX)
  | and3 (a b c : HX)
  | rep (s : Str) (a : HX)
  | add (a b : HX)
inductive HV | b (x : Bool) | l (xs : List Str)
/-- own classes: each under SwapError -/
def isSub (c d : Str) : Bool := (c == d) || (d == ("SwapError" : Str))
def evH (c : Str) (env : List (Nat × HV)) : HX → Option HV
  | .isE d => some (.b (isSub c d))
  | .isV => some (.b true)
  | .isEs ds => some (.b (ds.any (isSub c)))
  | .var j => env.lookup j
  | .not a => match evH c env a with
    | some (.b x) => some (.b (!x))
    | _ => none
  | .and3 x y z => match evH c env x, evH c env y, evH c env z with
    | some (.b p), some (.b q), some (.b r) => some (.b (p && (q && r)))
    | _, _, _ => none
  | .rep s a => match evH c env a with
    | some (.b x) => some (.l (if x = true then [s] else []))
    | _ => none
  | .add a b => match evH c env a, evH c env b with
    | some (.l xs), some (.l ys) => if xs.length + ys.length ≤ 1000 then some (.l (xs ++ ys)) else none
    | _, _ => none
def evHs (c : Str) : List (Nat × HV) → List (Nat × HX) → HX → Option HV
  | env, [], r => evH c env r
  | env, (j, h) :: hs, r => match evH c env h with
    | some v => evHs c ((j, v) :: env) hs r
    | none => none
inductive S where
  | set (i : Nat) (e : E)
  | setT (is : List Nat) (e : E)
  | setI (i : Nat) (k e : E)
  | dput (i : Nat) (k e : E)
  | app (i : Nat) (e : E)
  | ins (i : Nat) (k e : E)
  | ext (i : Nat) (e : E)
  | clr (i : Nat)
  | frz (i : Nat)
  | ite (c : E) (a b : List S)
  | for (i : Nat) (src : E) (b : List S)
  | forR (i : Nat) (n : E) (b : List S)
  | forT (is : List Nat) (src : E) (b : List S)
  | whl (c : E) (b : List S)
  | ret (e : E)
  | retN
  | exp (e : E)
  | rai (c : Str)
  | tryC (i : Nat) (e : E) (cs : List Str) (hs : List (Nat × HX)) (r : HX)

/-! ### what the pieces are worth -/
def lim : Nat := 100000
def isNone : D → Bool
  | .none => true
  | _ => false
def flat : D → Bool
  | .none => true | .bool _ => true | .int _ => true | .str _ => true
  | _ => false
def scalar : D → Bool := flat
/-- dicts with whole numbers as keys -/
def keyIs (i : Int) : D → Bool
  | .int k => decide (k = i)
  | _ => false
def isIntD : D → Bool
  | .int _ => true
  | _ => false
def realD (kvs : List (D × D)) : Bool := kvs.all fun kv => isIntD kv.1
def dgetI (kvs : List (D × D)) (i : Int) : Option D := (kvs.find? fun kv => keyIs i kv.1).map (·.2)
def dputI (kvs : List (D × D)) (i : Int) (v : D) : List (D × D) := if (kvs.any fun kv => keyIs i kv.1) = true then kvs.map (fun kv => if keyIs i kv.1 = true then (kv.1, v) else kv) else kvs ++ [(.int i, v)]
/-- dicts whose keys are tuples: marked by a first entry -/
def tkD (kvs : List (D × D)) : D := .dict ((.bool true, .none) :: kvs)
def tkOf : List (D × D) → Option (List (D × D))
  | (.bool true, .none) :: r => some r
  | _ => none
mutual
def kOf : D → Option NestedKey
  | .int i => some (.num i)
  | .tuple xs => (kOfs xs).map .tup
  | .none => none | .bool _ => none | .str _ => none | .list _ => none | .dict _ => none
def kOfs : List D → Option (List NestedKey)
  | [] => some []
  | x :: xs => match kOf x, kOfs xs with
    | some k, some ks => some (k :: ks)
    | _, _ => none
end
/-- a tuple that may be a key -/
def tkey (xs : List D) : Option NestedKey := match kOfs xs with
  | some ks => if (NestedKey.tup ks).depth ≤ 8 then some (.tup ks) else none
  | none => none
def tget (kvs : List (D × D)) (k : NestedKey) : Option D := (kvs.find? fun kv => decide (kOf kv.1 = some k)).map (·.2)
def tput (kvs : List (D × D)) (kd : D) (k : NestedKey) (v : D) : List (D × D) :=
  if (tget kvs k).isSome = true then kvs.map (fun kv => if kOf kv.1 = some k then (kv.1, v) else kv) else kvs ++ [(kd, v)]
def intsOf : List D → Option (List Int)
  | [] => some []
  | .int i :: r => (intsOf r).map (i :: ·)
  | _ :: _ => none
/-- len(set(..)) of whole numbers -/
def lsetD : D → Option EO
  | .list xs => match intsOf xs with
    | some ns => if ns.length ≤ 4000 then some (.ok .shr (.int ((ns.foldl PyProof.Rows.step_dedup []).length : Nat))) else none
    | none => none
  | _ => none
/-- how two ints go -/
def binD : BOp → D → D → Option EO
  | .add, .int i, .int j => some (.ok .shr (.int (i + j)))
  | .add, .tuple xs, .tuple ys => if xs.length + ys.length ≤ lim then some (.ok .shr (.tuple (xs ++ ys))) else none
  | .add, .list xs, .list ys => if xs.length + ys.length ≤ lim then some (.ok .frs (.list (xs ++ ys))) else none
  | .sub, .int i, .int j => some (.ok .shr (.int (i - j)))
  | .mul, .int i, .int j => if (-(2 ^ 64) < i ∧ i < 2 ^ 64) ∨ (-(2 ^ 64) < j ∧ j < 2 ^ 64) then some (.ok .shr (.int (i * j))) else none
  | .mul, .list xs, .int k => if k ≤ 1000 ∧ -1000 ≤ k ∧ xs.length * k.toNat ≤ lim then some (.ok .frs (.list (List.replicate k.toNat xs).flatten)) else none
  | .fdiv, .int i, .int j => if 0 < j ∧ j < 1073741824 then some (.ok .shr (.int (i / j))) else none
  | .mod, .int i, .int j => if 0 < j then some (.ok .shr (.int (i % j))) else none
  | .pow, .int i, .int j => if 0 ≤ j ∧ j ≤ 1000000 ∧ i.natAbs < 2 ^ 64 then some (.ok .shr (.int (i ^ j.toNat))) else none
  | _, _, _ => none
def cmpD : COp → D → D → Option Bool
  | .lt, .int i, .int j => some (decide (i < j))
  | .le, .int i, .int j => some (decide (i ≤ j))
  | .gt, .int i, .int j => some (decide (j < i))
  | .ge, .int i, .int j => some (decide (j ≤ i))
  | .eq, x, y => if SeqAt.shaped x = true ∧ SeqAt.shaped y = true then some (PyData.eqv x y) else none
  | .ne, x, y => if SeqAt.shaped x = true ∧ SeqAt.shaped y = true then some (!PyData.eqv x y) else none
  | .is, x, .none => some (isNone x)
  | .isn, x, .none => some (!isNone x)
  | .mem, x, .list ys => if SeqAt.shaped x = true ∧ SeqAt.shaped (.list ys) = true then some (ys.any fun z => PyData.eqv z x) else none
  | .nmem, x, .list ys => if SeqAt.shaped x = true ∧ SeqAt.shaped (.list ys) = true then some (!ys.any fun z => PyData.eqv z x) else none
  | .mem, x, .tuple ys => if flat x = true ∧ ys.all flat = true then some (ys.any fun z => PyData.eqv z x) else none
  | .nmem, x, .tuple ys => if flat x = true ∧ ys.all flat = true then some (!ys.any fun z => PyData.eqv z x) else none
  | .mem, .int i, .dict kvs => if realD kvs = true then some (dgetI kvs i).isSome else none
  | .nmem, .int i, .dict kvs => if realD kvs = true then some (!(dgetI kvs i).isSome) else none
  | .mem, .tuple xs, .dict kvs => match tkOf kvs, tkey xs with
    | some r, some k => some (tget r k).isSome
    | _, _ => none
  | .nmem, .tuple xs, .dict kvs => match tkOf kvs, tkey xs with
    | some r, some k => some (!(tget r k).isSome)
    | _, _ => none
  | _, _, _ => none
def tyD : D → TyN
  | .bool _ => .bool | .int _ => .int | .str _ => .str | .list _ => .list | .tuple _ => .tuple | .dict _ => .dict | .none => .dict
/-- whose type is asked: anything but the law's own list -/
def okTy : D → Bool
  | .dict (_ :: _) => false
  | _ => true
/-- isinstance -/
def isInst (d : D) (t : TyN) : Bool :=
  match d, t with
  | .bool _, .bool => true | .bool _, .int => true | .int _, .int => true | .str _, .str => true
  | .list _, .list => true | .tuple _, .tuple => true | .dict _, .dict => true
  | _, _ => false
def bools : List D → Option (List Bool)
  | [] => some []
  | .bool b :: r => (bools r).map (b :: ·)
  | _ :: _ => none
/-- the law's own list -/
def scrOf : List (D × D) → Option (List D)
  | (.none, .list xs) :: r => if r.isEmpty = true then some xs else none
  | _ => none
def fnD : B1 → D → Option EO
  | .len, .list xs => some (.ok .shr (.int xs.length))
  | .len, .tuple xs => some (.ok .shr (.int xs.length))
  | .len, .dict kvs => match scrOf kvs with
    | some xs => some (.ok .shr (.int xs.length))
    | none => (tkOf kvs).map fun r => .ok .shr (.int r.length)
  | .int, .int i => some (.ok .shr (.int i))
  | .int, .bool b => some (.ok .shr (.int (if b = true then 1 else 0)))
  | .str, .int i => if i.natAbs < 2 ^ 64 then some (.ok .shr (.str (toString i))) else none
  | .tup, .list xs => some (.ok .shr (.tuple xs))
  | .tup, .tuple xs => some (.ok .shr (.tuple xs))
  | .lst, .list xs => some (.ok .frs (.list xs))
  | .lst, .tuple xs => some (.ok .frs (.list xs))
  | .all, .list xs => (bools xs).map fun bs => .ok .shr (.bool (bs.all id))
  | _, _ => none
def idxD : D → D → Option D
  | .list xs, .int i => L2.atI xs i
  | .tuple xs, .int i => L2.atI xs i
  | .dict kvs, .int i => match scrOf kvs with
    | some xs => L2.atI xs i
    | none => if realD kvs = true then dgetI kvs i else none
  | .dict kvs, .tuple xs => match tkOf kvs, tkey xs with
    | some r, some k => tget r k
    | _, _ => none
  | _, _ => none
def cutD (xs : List D) (lo hi : Option Int) : List D := (xs.drop (HT.sIx xs.length 0 lo)).take (HT.sIx xs.length xs.length hi - HT.sIx xs.length 0 lo)
def slcD : D → Option Int → Option Int → Option EO
  | .list xs, lo, hi => some (.ok .frs (.list (cutD xs lo hi)))
  | .tuple xs, lo, hi => some (.ok .shr (.tuple (cutD xs lo hi)))
  | .dict kvs, lo, hi => (scrOf kvs).map fun xs => .ok .frs (.list (cutD xs lo hi))
  | _, _, _ => none
def rngD (n : Nat) : List D := (List.range n).map fun (k : Nat) => .int (k : Int)
def itemsD : D → Option (List D)
  | .list xs => some xs
  | .tuple xs => some xs
  | _ => none

/-- what may be changed in place, whoever holds it: told by its number -/
inductive Cell where
  | lst (ds : List D)
  | dic (kvs : List (D × D))
  | obj (c : Str) (fs : List (Str × D))
  | dead
abbrev Mu := List Cell
def refD (n : Nat) : D := .dict [(.bool false, .int (n : Int))]

/-- what cells tell; fields: (class, field) -/
def opD (fl : List (Str × Str)) (μ : Mu) (o : Cop) (ds : List D) : Option EO :=
  match o, ds with
  | .fld f, [.dict [(.bool false, .int n)]] => match μ[n.toNat]? with
    | some (.obj c fs) => if (c, f) ∈ fl ∧ 0 ≤ n then (fs.lookup f).map fun d => .ok .shr d else none
    | _ => none
  | .lstof, [.dict [(.bool false, .int n)]] => match μ[n.toNat]? with
    | some (.lst xs) => if 0 ≤ n then some (.ok .frs (.list xs)) else none
    | _ => none
  | _, _ => none
/-- a receiver of a class -/
def rcvD (μ : Mu) (c m : Str) (ds : List D) : Bool :=
  match ds with
  | .dict [(.bool false, .int n)] :: _ => match μ[n.toNat]? with
    | some (.obj c' fs) => decide (c' = c) && (fs.lookup m).isNone && decide (0 ≤ n)
    | _ => false
  | _ => false

/-! ### the evaluator -/
def bindV (r : Option EO) (f : Kd → D → Option EO) : Option EO :=
  match r with
  | some (.ok k d) => f k d
  | some (.ex c) => some (.ex c)
  | none => none
inductive AO | ok (xs : List (Kd × D)) | ex (c : Str)
def bindA (r : Option AO) (f : List (Kd × D) → Option EO) : Option EO :=
  match r with
  | some (.ok xs) => f xs
  | some (.ex c) => some (.ex c)
  | none => none
/-- one more at the front -/
def consA (r : Option EO) (f : Option AO) : Option AO :=
  match r with
  | some (.ok k d) =>
    match f with
    | some (.ok xs) => some (.ok ((k, d) :: xs))
    | some (.ex c) => some (.ex c)
    | none => none
  | some (.ex c) => some (.ex c)
  | none => none
def noBrw (xs : List (Kd × D)) : Bool := xs.all fun x => decide (x.1 ≠ .brw)
def okCall (xs : List (Kd × D)) (r : Option EO) : Option EO :=
  if noBrw xs = true then r else
  match r with
  | some (.ok .shr d) => if scalar d = true then some (.ok .shr d) else none
  | some (.ex c) => some (.ex c)
  | _ => none
/-- a test's answer -/
def boolV (r : Option EO) (f : Bool → Option EO) : Option EO :=
  match r with
  | some (.ok .shr (.bool b)) => f b
  | some (.ex c) => some (.ex c)
  | _ => none
def optI (r : Option (Option EO)) (f : Option Int → Option EO) : Option EO :=
  match r with
  | none => f none
  | some (some (.ok .shr (.int i))) => f (some i)
  | some (some (.ex c)) => some (.ex c)
  | some _ => none
/-- a comprehension's turns -/
def compGo (tt : D → Option Bool) (te : D → Option D) : List D → Option (List D)
  | [] => some []
  | d :: ds =>
    match tt d with
    | some true =>
      match te d with
      | some y => (compGo tt te ds).map (y :: ·)
      | none => none
    | some false => compGo tt te ds
    | none => none
def asD (r : Option EO) : Option D :=
  match r with
  | some (.ok .shr d) => some d
  | some (.ok .frs d) => some d
  | _ => none
def asB (r : Option EO) : Option Bool :=
  match r with
  | some (.ok .shr (.bool b)) => some b
  | _ => none
def tests (rs : List (Option EO)) : Option Bool :=
  match rs with
  | [] => some true
  | [r] => asB r
  | _ => none
def sized (o : Option (List D)) : Option EO :=
  match o with
  | some ys => if ys.length ≤ lim then some (.ok .frs (.list ys)) else none
  | none => none

section
variable (Φ : Str → List D → Option EO)
mutual
def evE : E → Ev → Option EO
  | .var i, st => match st[i]? with
    | some (some (true, d)) => some (.ok .brw d)
    | some (some (false, d)) => some (.ok .shr d)
    | _ => none
  | .non, _ => some (.ok .shr .none)
  | .bl b, _ => some (.ok .shr (.bool b))
  | .int i, _ => some (.ok .shr (.int i))
  | .str s, _ => some (.ok .shr (.str s))
  | .glb _ i, _ => some (.ok .shr (.int i))
  | .bin op a b, st => bindV (evE a st) fun _ x => bindV (evE b st) fun _ y => binD op x y
  | .neg a, st => bindV (evE a st) fun _ x => match x with | .int i => some (.ok .shr (.int (-i))) | _ => none
  | .cmp op a b, st => bindV (evE a st) fun _ x => bindV (evE b st) fun _ y => (cmpD op x y).map fun b => .ok .shr (.bool b)
  | .chn o p a b c, st => bindV (evE a st) fun _ x => bindV (evE b st) fun _ y =>
      match cmpD o x y with
      | some true => bindV (evE c st) fun _ z => (cmpD p y z).map fun b => .ok .shr (.bool b)
      | some false => some (.ok .shr (.bool false))
      | none => none
  | .and es, st => evAnd es st
  | .or es, st => evOr es st
  | .not a, st => boolV (evE a st) fun b => some (.ok .shr (.bool (!b)))
  | .ife c a b, st => boolV (evE c st) fun t => if t = true then evE a st else evE b st
  | .idx a i, st => bindV (evE a st) fun _ x => bindV (evE i st) fun _ y => (idxD x y).map fun d => .ok .shr d
  | .slc a lo hi, st => bindV (evE a st) fun _ x => optI (evO lo st) fun l => optI (evO hi st) fun h => slcD x l h
  | .tup es, st => bindA (evL es st) fun xs => if noBrw xs = true ∧ xs.length ≤ lim then some (.ok .shr (.tuple (xs.map (·.2)))) else none
  | .lst es, st => bindA (evL es st) fun xs => if noBrw xs = true ∧ xs.length ≤ lim then some (.ok .frs (.list (xs.map (·.2)))) else none
  | .dic, _ => some (.ok .frs (.dict []))
  | .dicT, _ => some (.ok .frs (tkD []))
  | .lset a, st => bindV (evE a st) fun _ x => lsetD x
  | .fn f a, st => bindV (evE a st) fun _ x => fnD f x
  | .isi a t, st => bindV (evE a st) fun _ x => if okTy x = true then some (.ok .shr (.bool (isInst x t))) else none
  | .isis a ts, st => bindV (evE a st) fun _ x => if okTy x = true ∧ ts.length ≤ lim then some (.ok .shr (.bool (ts.any fun t => isInst x t))) else none
  | .lrg a, st => bindV (evE a st) fun _ x => match x with
    | .int n => if n ≤ 1000000 ∧ -1000000 ≤ n then some (.ok .frs (.list (rngD n.toNat))) else none
    | _ => none
  | .cop o es, st => match evL es st with
    | some (.ok xs) => if noBrw xs = true then Φ (opName o) (xs.map (·.2)) else none
    | _ => none
  | .call f es, st => match evL es st with
    | some (.ok xs) => okCall xs (Φ f (xs.map (·.2)))
    | _ => none
  | .callAt fs i es, st => match evE i st with
    | some (.ok _ (.int j)) => match L2.atI fs j with
      | some f => match evL es st with
        | some (.ok xs) => if noBrw xs = true ∧ fs.length ≤ lim ∧ (fs.all fun g => (Φ g (xs.map (·.2))).isSome) = true then Φ f (xs.map (·.2)) else none
        | _ => none
      | none => none
    | _ => none
  | .cmpL x i src ifs, st => bindV (evE src st) fun _ d => match itemsD d with
    | some ds => sized (compGo (fun d => tests (evB ifs (st.set i (some (false, d))))) (fun d => asD (evE x (st.set i (some (false, d))))) ds)
    | none => none
  | .cmpR x i n ifs, st => bindV (evE n st) fun _ d => match d with
    | .int n => if n ≤ 1000000 ∧ -1000000 ≤ n then sized (compGo (fun d => tests (evB ifs (st.set i (some (false, d))))) (fun d => asD (evE x (st.set i (some (false, d))))) (rngD n.toNat)) else none
    | _ => none
def evL : List E → Ev → Option AO
  | [], _ => some (.ok [])
  | e :: es, st => consA (evE e st) (evL es st)
def evB : List E → Ev → List (Option EO)
  | [], _ => []
  | e :: es, st => evE e st :: evB es st
def evAnd : List E → Ev → Option EO
  | [], _ => none
  | [e], st => evE e st
  | e :: e2 :: es, st => boolV (evE e st) fun b => if b = true then evAnd (e2 :: es) st else some (.ok .shr (.bool false))
def evOr : List E → Ev → Option EO
  | [], _ => none
  | [e], st => evE e st
  | e :: e2 :: es, st => boolV (evE e st) fun b => if b = true then some (.ok .shr (.bool true)) else evOr (e2 :: es) st
def evO : Option E → Ev → Option (Option EO)
  | none, _ => none
  | some e, st => some (evE e st)
end
end

/-! ### statements -/
def setV (st : Ev) (i : Nat) (k : Kd) (d : D) : Option SO :=
  match k with
  | .shr => some (.nx (st.set i (some (false, d))))
  | .frs => some (.nx (st.set i (some (true, d))))
  | .brw => none
def onV (r : Option EO) (f : Kd → D → Option SO) : Option SO :=
  match r with
  | some (.ok k d) => f k d
  | some (.ex c) => some (.ex c)
  | none => none
def onB (r : Option EO) (f : Bool → Option SO) : Option SO :=
  match r with
  | some (.ok .shr (.bool b)) => f b
  | some (.ex c) => some (.ex c)
  | _ => none
def setAll : List Nat → List D → Ev → Option Ev
  | [], [], st => some st
  | i :: is, d :: ds, st => setAll is ds (st.set i (some (false, d)))
  | _, _, _ => none
/-- what a slot's own list becomes -/
def onOwn (st : Ev) (i : Nat) (f : List D → Option (List D)) : Option SO :=
  match st[i]? with
  | some (some (true, .list ds)) => (f ds).map fun ys => .nx (st.set i (some (true, .list ys)))
  | _ => none
/-- the slot holds a list of its own -/
def guardO (st : Ev) (i : Nat) (r : Option SO) : Option SO :=
  match st[i]? with
  | some (some (true, .list _)) => r
  | _ => none
def guardD (st : Ev) (i : Nat) (r : Option SO) : Option SO :=
  match st[i]? with
  | some (some (true, .dict _)) => r
  | _ => none
def thenS (r : Option SO) (f : Ev → Option SO) : Option SO :=
  match r with
  | some (.nx st) => f st
  | o => o
def forGo (f : D → Ev → Option SO) : List D → Ev → Option SO
  | [], st => some (.nx st)
  | d :: ds, st => thenS (f d st) (forGo f ds)
def hvSO : HV → SO
  | .b x => .rt .shr (.bool x)
  | .l xs => .rt .frs (.list (xs.map PyData.str))
def whlGo (c : Ev → Option EO) (f : Ev → Option SO) : Nat → Ev → Option SO
  | 0, _ => none
  | n + 1, st => onB (c st) fun b => if b = true then thenS (f st) (whlGo c f n) else some (.nx st)

section
variable (Φ : Str → List D → Option EO) (fu : Nat)
mutual
def evS : S → Ev → Option SO
  | .set i e, st => onV (evE Φ e st) fun k d => setV st i k d
  | .setT is e, st => onV (evE Φ e st) fun k d => match k, d with
    | .shr, .tuple ds => (setAll is ds st).map .nx
    | _, _ => none
  | .setI i k e, st => guardO st i (onV (evE Φ e st) fun ke d => if ke = .brw then none else onV (evE Φ k st) fun _ j => match j with
    | .int j => onOwn st i fun ds => (L2.ixN ds.length j).map fun m => ds.set m d
    | _ => none)
  | .dput i k e, st => guardD st i (onV (evE Φ e st) fun ke d => if ke = .brw then none else onV (evE Φ k st) fun _ j => match j, st[i]? with
    | .int j, some (some (true, .dict kvs)) => if kvs.length < lim ∧ realD kvs = true then some (.nx (st.set i (some (true, .dict (dputI kvs j d))))) else none
    | .tuple xs, some (some (true, .dict kvs)) => match tkOf kvs, tkey xs with
      | some r, some k => if r.length < lim then some (.nx (st.set i (some (true, tkD (tput r (.tuple xs) k d))))) else none
      | _, _ => none
    | _, _ => none)
  | .app i e, st => guardO st i (onV (evE Φ e st) fun k d => if k = .brw then none else onOwn st i fun ds => if ds.length < lim then some (ds ++ [d]) else none)
  | .ins i k e, st => guardO st i (onV (evE Φ k st) fun _ j => onV (evE Φ e st) fun ke d => if ke = .brw then none else match j with
    | .int j => if 0 ≤ j ∧ j < 2 ^ 62 then onOwn st i fun ds => if ds.length < lim then some (ds.take j.toNat ++ [d] ++ ds.drop j.toNat) else none else none
    | _ => none)
  | .ext i e, st => guardO st i (onV (evE Φ e st) fun k d => if k = .brw then none else match d with
    | .list ys => onOwn st i fun ds => if ds.length + ys.length ≤ lim then some (ds ++ ys) else none
    | _ => none)
  | .clr i, st => onOwn st i fun _ => some []
  | .frz i, st => match st[i]? with
    | some (some (_, d)) => some (.nx (st.set i (some (false, d))))
    | _ => none
  | .ite c a b, st => onB (evE Φ c st) fun t => if t = true then evSs a st else evSs b st
  | .for i src b, st => onV (evE Φ src st) fun k d => if k = .brw then none else match itemsD d with
    | some ds => forGo (fun d st => evSs b (st.set i (some (false, d)))) ds st
    | none => none
  | .forR i n b, st => onV (evE Φ n st) fun _ d => match d with
    | .int n => if n ≤ 1000000 ∧ -1000000 ≤ n then forGo (fun d st => evSs b (st.set i (some (false, d)))) (rngD n.toNat) st else none
    | _ => none
  | .forT is src b, st => onV (evE Φ src st) fun k d => if k = .brw then none else match itemsD d with
    | some ds => forGo (fun d st => match d with
      | .tuple xs => match setAll is xs st with
        | some st => evSs b st
        | none => none
      | _ => none) ds st
    | none => none
  | .whl c b, st => whlGo (evE Φ c) (evSs b) fu st
  | .ret e, st => onV (evE Φ e st) fun k d => if k = .brw then (match e with | .var _ => some (.rt .frs d) | _ => none) else some (.rt k d)
  | .retN, _ => some (.rt .shr .none)
  | .exp e, st => onV (evE Φ e st) fun _ _ => some (.nx st)
  | .rai c, _ => some (.ex c)
  | .tryC _ e cs hs r, st => match evE Φ e st with
    | some (.ok _ _) => some (.nx st)
    | some (.ex c) => if c ∈ cs then (evHs c [] hs r).map hvSO else none
    | none => none
def evSs : List S → Ev → Option SO
  | [], st => some (.nx st)
  | s :: ss, st => thenS (evS s st) (evSs ss)
end
end

/-! ### defs -/
structure DefI where
  np : Nat
  nm : List Str
  body : List S
def start (d : DefI) (ds : List D) : Ev := ds.map (fun x => some (false, x)) ++ List.replicate (d.nm.length - ds.length) none
def outcome (r : Option SO) : Option EO :=
  match r with
  | some (.nx _) => some (.ok .shr .none)
  | some (.rt .brw _) => none
  | some (.rt k d) => some (.ok k d)
  | some (.ex c) => some (.ex c)
  | none => none
def runD (Φ : Str → List D → Option EO) (fu : Nat) (d : DefI) (ds : List D) : Option EO :=
  if ds.length = d.np then outcome (evSs Φ fu d.body (start d ds)) else none
/-- a table of defs, called n deep -/
def run (tab : List (Str × DefI)) (fu : Nat) : Nat → Str → List D → Option EO
  | 0, _, _ => none
  | n + 1, f, ds => match tab.lookup f with
    | some d => runD (run tab fu n) fu d ds
    | none => none

/-! ### the checker -/
def visB (sc : Scope) (x : Str) : Bool := match sc.names.lookup x with
  | some .local => true | some .cell => true | some .free => true
  | _ => false
def locB (sc : Scope) (x : Str) : Bool := match sc.names.lookup x with
  | some .local => true | some .cell => true
  | _ => false
def glB (sc : Scope) (x : Str) : Bool := decide (sc.names.lookup x = some .globalImplicit)
def plainName (x : Str) : Bool := !(x == ("__debug__" : Str)) && !(x == ("__classdict__" : Str)) && !(x == ("__name__" : Str))
def rdB (N : List Str) (sc : Scope) (x : Str) (i : Nat) : Bool := decide (N[i]? = some x) && visB sc x && plainName x
def wrB (N : List Str) (sc : Scope) (x : Str) (i : Nat) : Bool := decide (N[i]? = some x) && locB sc x
def bopB : Operator → BOp → Bool
  | .Add, .add => true | .Sub, .sub => true | .Mult, .mul => true | .FloorDiv, .fdiv => true | .Mod, .mod => true | .Pow, .pow => true
  | _, _ => false
def copB : CmpOp → COp → Bool
  | .Eq, .eq => true | .NotEq, .ne => true | .Lt, .lt => true | .LtE, .le => true | .Gt, .gt => true | .GtE, .ge => true | .Is, .is => true | .IsNot, .isn => true
  | .In, .mem => true | .NotIn, .nmem => true
  | _, _ => false
def tyName : TyN → String
  | .int => "int" | .bool => "bool" | .str => "str" | .list => "list" | .tuple => "tuple" | .dict => "dict"
def b1Name : B1 → String
  | .len => "len" | .int => "int" | .str => "str" | .tup => "tuple" | .lst => "list" | .all => "all"
def isC : Expr → Const → Bool
  | .Constant c _ _, k => decide (c = k)
  | _, _ => false
/-- a name of the top: a built-in or a def -/
def isG (sc : Scope) (e : Expr) (x : Str) : Bool := match e with
  | .Name y _ => decide (y = x) && glB sc y && plainName y
  | _ => false
def isTys (sc : Scope) : List Expr → List TyN → Bool
  | [], [] => true
  | e :: es, t :: ts => isG sc e (Str.ofString (tyName t)) && isTys sc es ts
  | _, _ => false
/-- not a literal set: so `in` and a loop's iterable are plain -/
def notSet : Expr → Bool
  | .Set _ _ _ => false
  | _ => true

/-- the names' places, the top's constants -/
structure Cc where
  N : List Str
  cs : List (Str × Int)
  hc : List Str
  ht : List Str
/-- names of defs -/
def isFs (sc : Scope) : List Str → List Expr → Bool
  | [], [] => true
  | f :: fs, e :: es => isG sc e f && isFs sc fs es
  | _, _ => false
/-- not a call: an attribute of it is plain -/
def okBase : Expr → Bool
  | .Call _ _ _ _ => false
  | _ => true
def okRecv : Expr → Bool
  | .Name _ _ => true
  | .Subscript _ _ _ => true
  | _ => false
mutual
def mE (c : Cc) (sc : Scope) : E → Expr → Bool
  | .var i, .Name x _ => rdB c.N sc x i
  | .non, .Constant .none _ _ => true
  | .bl b, .Constant (.bool b') _ _ => b == b'
  | .int i, .Constant (.int j) _ _ => decide (i = j)
  | .str s, .Constant (.str t) _ _ => decide (s = t)
  | .glb x i, .Name y _ => decide (x = y) && glB sc y && plainName y && decide ((x, i) ∈ c.cs)
  | .bin op a b, .BinOp e o f _ => bopB o op && mE c sc a e && mE c sc b f
  | .neg a, .UnaryOp .USub e _ => mE c sc a e
  | .cmp op a b, .Compare e [o] [f] _ => copB o op && mE c sc a e && mE c sc b f
  | .chn o p a b d, .Compare e [o', p'] [f, g] _ => copB o' o && copB p' p && mE c sc a e && mE c sc b f && mE c sc d g
  | .and es, .BoolOp .And vs _ => mL c sc es vs
  | .or es, .BoolOp .Or vs _ => mL c sc es vs
  | .not a, .UnaryOp .Not e _ => mE c sc a e
  | .ife d a b, .IfExp ce ae be _ => mE c sc d ce && mE c sc a ae && mE c sc b be
  | .slc a lo hi, .Subscript e (.Slice l h none _) _ => mE c sc a e && mO c sc lo l && mO c sc hi h
  | .idx a i, .Subscript e j _ => mE c sc a e && mE c sc i j
  | .tup es, .Tuple vs _ _ => mL c sc es vs
  | .lst es, .List vs _ => mL c sc es vs
  | .dic, .Dict [] [] _ => true
  | .fn f a, .Call g [e] [] _ => isG sc g (Str.ofString (b1Name f)) && mE c sc a e
  | .isi a t, .Call g [e, f] [] _ => isG sc g "isinstance" && mE c sc a e && isG sc f (Str.ofString (tyName t))
  | .isis a ts, .Call g [e, .Tuple fs _ _] [] _ => isG sc g "isinstance" && mE c sc a e && isTys sc fs ts
  | .dicT, .Dict [] [] _ => true
  | .lset a, .Call g [.Call h [e] [] _] [] _ => isG sc g "len" && isG sc h "set" && mE c sc a e
  | .lrg a, .Call g [.Call h [e] [] _] [] _ => isG sc g "list" && isG sc h "range" && mE c sc a e
  | .cop (.fld f) [a], .Attribute e n _ => decide (n = f) && okBase e && mE c sc a e
  | .cop (.mth _ m) (a :: es), .Call (.Attribute o n ap) vs [] p => decide (n = m) && okRecv o && (ap.endLine == p.line) && decide (vs.length < 20) && mE c sc a o && mL c sc es vs
  | .cop .lstof [a], .Call g [e] [] _ => isG sc g "list" && mE c sc a e
  | .call f es, .Call g (v :: vs) [] _ => isG sc g f && mL c sc es (v :: vs) && !isOp f
  | .callAt fs i es, .Call (.Subscript (.List ns _) j _) (v :: vs) [] _ => isFs sc fs ns && mE c sc i j && mL c sc es (v :: vs) && fs.all (fun f => !isOp f)
  | .cmpR x i n ifs, .ListComp elt [⟨.Name y _, .Call g [it] [] _, cs, 0⟩] scope _ => isG sc g "range" && mE c sc n it && L2.blkC c.N sc scope [(y, i)] && locB scope y && mE c (L2.relS scope sc) x elt && mL c (L2.relS scope sc) ifs cs && decide (ifs.length ≤ 1)
  | .cmpL x i src ifs, .ListComp elt [⟨.Name y _, it, cs, 0⟩] scope _ => mE c sc src it && L2.blkC c.N sc scope [(y, i)] && locB scope y && mE c (L2.relS scope sc) x elt && mL c (L2.relS scope sc) ifs cs && decide (ifs.length ≤ 1)
  | _, _ => false
def mL (c : Cc) (sc : Scope) : List E → List Expr → Bool
  | [], [] => true
  | e :: es, v :: vs => mE c sc e v && mL c sc es vs
  | _, _ => false
def mO (c : Cc) (sc : Scope) : Option E → Option Expr → Bool
  | none, none => true
  | some e, some v => mE c sc e v
  | _, _ => false
end
/-- no comprehension (its value may be swapped into its target), no tuple -/
def noComp : Expr → Bool
  | .ListComp _ _ _ _ => false
  | .SetComp _ _ _ _ => false
  | .DictComp _ _ _ _ _ => false
  | _ => true
def noTup : Expr → Bool
  | .Tuple _ _ _ => false
  | e => noComp e
def namesB (N : List Str) (sc : Scope) : List Nat → List Expr → Bool
  | [], [] => true
  | i :: is, .Name x _ :: es => wrB N sc x i && namesB N sc is es
  | _, _ => false
/-- the name's own list, and a method of it -/
def recv (c : Cc) (sc : Scope) (i : Nat) (m : Str) : Expr → Pos → Bool
  | .Attribute (.Name x _) n apos, pos => rdB c.N sc x i && decide (n = m) && (apos.endLine == pos.line)
  | _, _ => false
/-- a class of its own that a suite may name -/
def isN (c : Cc) (sc : Scope) (d : Str) : Expr → Bool
  | .Name y _ => decide (y = d) && glB sc y && plainName y && decide (d ∈ c.ht)
  | _ => false
def isNs (c : Cc) (sc : Scope) : List Str → List Expr → Bool
  | [], [] => true
  | d :: ds, e :: es => isN c sc d e && isNs c sc ds es
  | _, _ => false
def mH (c : Cc) (sc : Scope) (i : Nat) : HX → Expr → Bool
  | .isE d, .Call g [.Name x _, k] [] _ => isG sc g "isinstance" && rdB c.N sc x i && isN c sc d k
  | .isV, .Call g [.Name x _, k] [] _ => isG sc g "isinstance" && rdB c.N sc x i && isG sc k "ValueError"
  | .isEs ds, .Call g [.Name x _, .Tuple ks _ _] [] _ => isG sc g "isinstance" && rdB c.N sc x i && isNs c sc ds ks && decide (ds.length ≤ 1000)
  | .var j, .Name x _ => rdB c.N sc x j
  | .not a, .UnaryOp .Not e _ => mH c sc i a e
  | .and3 x y z, .BoolOp .And [a, b, d] _ => mH c sc i x a && mH c sc i y b && mH c sc i z d
  | .rep s a, .BinOp (.List [.Constant (.str t) _ _] _) .Mult (.Call g [e] [] _) _ => decide (s = t) && isG sc g "int" && mH c sc i a e
  | .add a b, .BinOp e .Add f _ => mH c sc i a e && mH c sc i b f
  | _, _ => false
def mHs (c : Cc) (sc : Scope) (i : Nat) : List (Nat × HX) → HX → List Stmt → Bool
  | [], r, [.Return (some e) _] => mH c sc i r e
  | (j, h) :: hs, r, .Assign [.Name x _] v _ :: ss => wrB c.N sc x j && decide (j ≠ i) && noComp v && mH c sc i h v && mHs c sc i hs r ss
  | _, _, _ => false
mutual
def mS (c : Cc) (sc : Scope) : S → Stmt → Bool
  | .set i e, .Assign [.Name x px] v _ => wrB c.N sc x i && mE c sc e v && (noComp v ||
      (match v with
      | .ListComp _ _ scope vp => decide (sc.names.lookup x = some .local) && (px.line == vp.line) && !(scope.names.any fun (n, k) => n == x && (k == .local || k == .cell))
      | _ => false))
  | .setT is e, .Assign [.Tuple ts _ _] v _ => namesB c.N sc is ts && mE c sc e v && noTup v
  | .setI i k e, .Assign [.Subscript (.Name x _) j _] v _ => rdB c.N sc x i && mE c sc k j && mE c sc e v && noComp v
  | .dput i k e, .Assign [.Subscript (.Name x _) j _] v _ => rdB c.N sc x i && mE c sc k j && mE c sc e v && noComp v
  | .app i e, .Expr (.Call f [a] [] p) _ => recv c sc i "append" f p && mE c sc e a
  | .ins i k e, .Expr (.Call f [b, a] [] p) _ => recv c sc i "insert" f p && mE c sc k b && mE c sc e a
  | .ext i e, .Expr (.Call f [a] [] p) _ => recv c sc i "extend" f p && mE c sc e a
  | .clr i, .Expr (.Call f [] [] p) _ => recv c sc i "clear" f p
  | .ite d a b, .If t x y _ => mE c sc d t && mSs c sc a x && mSs c sc b y
  | .for i src b, .For (.Name x _) it body [] _ => wrB c.N sc x i && mE c sc src it && mSs c sc b body
  | .forR i n b, .For (.Name x _) (.Call g [it] [] _) body [] _ => wrB c.N sc x i && isG sc g "range" && mE c sc n it && mSs c sc b body
  | .forT is src b, .For (.Tuple ts _ _) it body [] _ => namesB c.N sc is ts && mE c sc src it && mSs c sc b body
  | .whl d b, .While t body [] _ => mE c sc d t && mSs c sc b body
  | .ret e, .Return (some v) _ => mE c sc e v
  | .retN, .Return none _ => true
  | .exp e, .Expr v _ => mE c sc e v && noComp v
  | .rai x, .Raise (some (.Call f [.Constant (.str _) _ _] [] _)) none _ => isG sc f x
  | .tryC i e cs hs r, .Try [.Expr v _] [.ExceptHandler (some (.Name y _)) (some n) suite _] [] [] _ =>
    mE c sc e v && noComp v && decide (y = ("SwapError" : Str)) && glB sc y && decide (("SwapError" : Str) ∈ c.ht) && decide (c.N[i]? = some n) && decide (sc.names.lookup n = some .local) && cs.all (fun d => decide (d ∈ c.hc)) && mHs c sc i hs r suite
  | _, _ => false
def mSs (c : Cc) (sc : Scope) : List S → List Stmt → Bool
  | [], [] => true
  | .frz _ :: ss, sts => mSs c sc ss sts
  | s :: ss, st :: sts => mS c sc s st && mSs c sc ss sts
  | _, _ => false
end
end Dv

/-! Dv, part B0: dicts whose keys are tuples, as things of the heap. -/
namespace Dv
open PySem PySem.Spec PyProof.Rows L2

mutual
def h0 : NestedKey → Int
  | .none => 0
  | .num i => hashInt i
  | .text _ => 0
  | .tup ks => reduceHash (Builtin.Tuple.tupleHashOf (h0s ks))
def h0s : List NestedKey → List Int
  | [] => []
  | k :: ks => h0 k :: h0s ks
end
mutual
def noText : NestedKey → Bool
  | .none => false
  | .num _ => true
  | .text _ => false
  | .tup ks => noTexts ks
def noTexts : List NestedKey → Bool
  | [] => true
  | k :: ks => noText k && noTexts ks
end
mutual
theorem h0_eq (w : World) : ∀ k : NestedKey, noText k = true → k.hash w = h0 k
  | .none, h => by simp [noText] at h
  | .num i, _ => rfl
  | .text _, h => by simp [noText] at h
  | .tup ks, h => by
    rw [noText] at h
    rw [NestedKey.hash, h0, h0s_eq w ks h]
theorem h0s_eq (w : World) : ∀ ks : List NestedKey, noTexts ks = true → NestedKey.hashes w ks = h0s ks
  | [], _ => rfl
  | k :: ks, h => by
    rw [noTexts, Bool.and_eq_true] at h
    rw [NestedKey.hashes, h0s, h0_eq w k h.1, h0s_eq w ks h.2]
end
mutual
theorem kOf_text : ∀ (d : D) (k : NestedKey), kOf d = some k → noText k = true
  | .int i, k, h => by simp only [kOf, Option.some.injEq] at h; subst h; rfl
  | .tuple xs, k, h => by
    simp only [kOf, Option.map_eq_some_iff] at h
    obtain ⟨ks, h1, rfl⟩ := h
    exact kOfs_text xs ks h1
  | .none, k, h => by simp [kOf] at h
  | .bool _, k, h => by simp [kOf] at h
  | .str _, k, h => by simp [kOf] at h
  | .list _, k, h => by simp [kOf] at h
  | .dict _, k, h => by simp [kOf] at h
theorem kOfs_text : ∀ (ds : List D) (ks : List NestedKey), kOfs ds = some ks → noTexts ks = true
  | [], ks, h => by simp only [kOfs, Option.some.injEq] at h; subst h; rfl
  | d :: ds, ks, h => by
    rw [kOfs] at h
    split at h
    · rename_i k ks' h1 h2
      cases h
      rw [noTexts, kOf_text d k h1, kOfs_text ds ks' h2]
      rfl
    · cases h
end
theorem tkey_all {xs : List D} {k : NestedKey} (h : tkey xs = some k) : kOf (.tuple xs) = some k ∧ k.depth ≤ 8 := by
  unfold tkey at h
  split at h
  · rename_i ks e
    split at h
    · rename_i hd
      cases h
      exact ⟨by rw [kOf, e]; rfl, hd⟩
    · cases h
  · cases h
abbrev Kx := NestedKey × Addr × Value
/-- at a stands a dict with these entries -/
def kxP (a : Addr) (xs : List Kx) (h : Heap) : Prop :=
  ∃ o es ep, h.get? a = some o ∧ o.ExactDict ∧ o.data = .dict es ep ∧ es.toList = xs.map (fun x => (⟨h0 x.1, .ref x.2.1, x.2.2⟩ : DictEntry)) ∧ (xs.map (·.1)).Nodup ∧
    (a == sysModules) = false ∧ xs.length ≤ sizeLine ∧ ∀ x ∈ xs, noText x.1 = true ∧ x.1.depth ≤ 8
def kxO (a : Addr) (xs : List Kx) : HO := .ext (kxP a xs)
section
variable {P : Program} {w : World} {H : Hp} {h : Heap} {a : Addr} {xs : List Kx}
theorem kxO_ok (k : kxP a xs h) : ObjOk P w H h a (kxO a xs) := by
  refine ⟨k, ?_, fun h1 h2 p q => ?_⟩
  · obtain ⟨o, _, _, e, _⟩ := k
    exact ⟨o, e⟩
  · obtain ⟨o, es, ep, e, r⟩ := p
    exact ⟨o, es, ep, q o e, r⟩
theorem kxO_of (k : ObjOk P w H h a (kxO a xs)) : kxP a xs h := k.1
theorem kx_entries : ∀ {xs : List Kx}, (∀ x ∈ xs, noText x.1 = true ∧ x.1.depth ≤ 8) → xs.map (fun x => (⟨h0 x.1, .ref x.2.1, x.2.2⟩ : DictEntry)) = xs.map (entryOfKey (nestedKind P w))
  | [], _ => rfl
  | x :: xs, h => by
    rw [List.map_cons, List.map_cons, kx_entries fun y hy => h y (List.mem_cons_of_mem _ hy)]
    congr 1
    have := h0_eq w x.1 (h x (List.mem_cons_self ..)).1
    show (⟨h0 x.1, .ref x.2.1, x.2.2⟩ : DictEntry) = ⟨x.1.hash w, .ref x.2.1, x.2.2⟩
    rw [this]
theorem kx_dict (k : kxP a xs h) (hk : ∀ x ∈ xs, NestedIs h x.1 (.ref x.2.1)) : h.DictOfH (nestedKind P w) a xs := by
  obtain ⟨o, es, ep, h1, h2, h3, h4, h5, _, _, h6⟩ := k
  exact ⟨o, es, ep, h1, h2, h3, h4.trans (kx_entries h6), fun x hx => ⟨hk x hx, (h6 x hx).2⟩, h5⟩
theorem kx_back (k : h.DictOfH (nestedKind P w) a xs) (hs : (a == sysModules) = false) (hl : xs.length ≤ sizeLine) (h6 : ∀ x ∈ xs, noText x.1 = true ∧ x.1.depth ≤ 8) : kxP a xs h := by
  obtain ⟨o, es, ep, h1, h2, h3, h4, _, h5⟩ := k
  exact ⟨o, es, ep, h1, h2, h3, h4.trans (kx_entries h6).symm, h5, hs, hl, h6⟩
end
end Dv

/-! Dv, part B: how data lies in the heap; the state's relation; readings as wishes. -/
namespace Dv
open PySem PySem.Spec PyProof.Rows L2

/-! ### data in a heap -/
/-- the law's own list of numbers, told apart from all others: it is read alone -/
def scrD (ns : List Int) : D := .dict [(.none, .list (ns.map PyData.int))]
/-- the table of what was written, where the cells stand, what they hold -/
structure KM where
  K : PySem.W.Frag
  io : Nat → Option Addr
  mu : Mu
  ca : Str → Addr
instance : Coe KM PySem.W.Frag := ⟨KM.K⟩
def KM.at (κ : KM) (io : Nat → Option Addr) : KM := ⟨κ.K, io, κ.mu, κ.ca⟩
mutual
inductive Rp (κ : KM) (F : Hp) : V → D → Prop
  | non : Rp κ F .non .none
  | bl (b : Bool) : Rp κ F (.bl b) (.bool b)
  | int (i : Int) : Rp κ F (.int i) (.int i)
  | str (x : Str) : Rp κ F (.str x) (.str x)
  | lst {a : Addr} {xs : List V} {ds : List D} : F a = some (.lst xs) → Rps κ F xs ds → Rp κ F (.ref a) (.list ds)
  | tup {a : Addr} {xs : List V} {ds : List D} : F a = some (.tup xs) → Rps κ F xs ds → Rp κ F (.ref a) (.tuple ds)
  | dic {a : Addr} {ks : List (Key × V)} {kvs : List (D × D)} : F a = some (.dK ks) → Rpk κ F ks kvs → Rp κ F (.ref a) (.dict kvs)
  | scr {a : Addr} {ns : List Int} : SqL κ F a (ns.map V.int) → Rp κ F (.ref a) (scrD ns)
  | ref {a : Addr} {n : Nat} : κ.io n = some a → Rp κ F (.ref a) (refD n)
  | tk {a : Addr} {xs : List Kx} {kvs : List (D × D)} : F a = some (kxO a xs) → Rpx κ F xs kvs → Rp κ F (.ref a) (tkD kvs)
inductive Rpx (κ : KM) (F : Hp) : List Kx → List (D × D) → Prop
  | nil : Rpx κ F [] []
  | cons {nk : NestedKey} {ka : Addr} {val : Value} {v : V} {kd d : D} {xs : List Kx} {kvs : List (D × D)} : kOf kd = some nk → nk.depth ≤ 8 → Rp κ F (.ref ka) kd → RelV v val → Rp κ F v d → Rpx κ F xs kvs → Rpx κ F ((nk, ka, val) :: xs) ((kd, d) :: kvs)
inductive Rps (κ : KM) (F : Hp) : List V → List D → Prop
  | nil : Rps κ F [] []
  | cons {v : V} {vs : List V} {d : D} {ds : List D} : Rp κ F v d → Rps κ F vs ds → Rps κ F (v :: vs) (d :: ds)
inductive Rpk (κ : KM) (F : Hp) : List (Key × V) → List (D × D) → Prop
  | nil : Rpk κ F [] []
  | cons {k : Int} {v : V} {ks : List (Key × V)} {d : D} {kvs : List (D × D)} : Rp κ F v d → Rpk κ F ks kvs → Rpk κ F ((.inl k, v) :: ks) ((.int k, d) :: kvs)
end
def Sub (F H : Hp) : Prop := ∀ a o, F a = some o → H a = some o
theorem Sub.refl (F : Hp) : Sub F F := fun _ _ h => h
theorem Sub.trans {F G H : Hp} (a : Sub F G) (b : Sub G H) : Sub F H := fun x o h => b x o (a x o h)
theorem Sub.rd {F H : Hp} (h : Sub F H) {a : Addr} {u : HO} (r : Rd F a u) : Rd H a u := by
  rcases r with r | ⟨o, r⟩
  · exact .inl (h _ _ r)
  · exact .inr ⟨o, h _ _ r⟩
theorem Sub.sq {κ : PySem.W.Frag} {F H : Hp} (h : Sub F H) {a : Addr} {xs : List V} (r : SqL κ F a xs) : SqL κ H a xs := by
  rcases r with r | r
  · exact .inl (h.rd r)
  · exact .inr r
theorem Sub.none {F H : Hp} (h : Sub F H) {a : Addr} (n : H a = Option.none) : F a = Option.none := by
  cases q : F a with
  | none => rfl
  | some o => rw [h a o q] at n; cases n
mutual
theorem Rp.mono' {κ : KM} {F H : Hp} (s : Sub F H) : ∀ {v : V} {d : D}, Rp κ F v d → Rp κ H v d
  | _, _, .non => .non
  | _, _, .bl b => .bl b
  | _, _, .int i => .int i
  | _, _, .str x => .str x
  | _, _, .lst e r => .lst (s _ _ e) (Rps.mono' s r)
  | _, _, .tup e r => .tup (s _ _ e) (Rps.mono' s r)
  | _, _, .dic e r => .dic (s _ _ e) (Rpk.mono' s r)
  | _, _, .scr e => .scr (s.sq e)
  | _, _, .tk e r => .tk (s _ _ e) (Rpx.mono' s r)
  | _, _, .ref e => .ref e
theorem Rpx.mono' {κ : KM} {F H : Hp} (s : Sub F H) : ∀ {xs : List Kx} {kvs : List (D × D)}, Rpx κ F xs kvs → Rpx κ H xs kvs
  | _, _, .nil => .nil
  | _, _, .cons a b c d e f => .cons a b (Rp.mono' s c) d (Rp.mono' s e) (Rpx.mono' s f)
theorem Rps.mono' {κ : KM} {F H : Hp} (s : Sub F H) : ∀ {vs : List V} {ds : List D}, Rps κ F vs ds → Rps κ H vs ds
  | _, _, .nil => .nil
  | _, _, .cons a b => .cons (Rp.mono' s a) (Rps.mono' s b)
theorem Rpk.mono' {κ : KM} {F H : Hp} (s : Sub F H) : ∀ {ks : List (Key × V)} {kvs : List (D × D)}, Rpk κ F ks kvs → Rpk κ H ks kvs
  | _, _, .nil => .nil
  | _, _, .cons a b => .cons (Rp.mono' s a) (Rpk.mono' s b)
end
theorem Rpk.keys {κ : KM} {F : Hp} : ∀ {ks : List (Key × V)} {kvs : List (D × D)}, Rpk κ F ks kvs → realD kvs = true
  | _, _, .nil => rfl
  | _, _, .cons _ b => by
    have := b.keys
    unfold realD at this ⊢
    rw [List.all_cons, this]
    rfl
theorem Rpk.val {κ : KM} {F : Hp} (i : Int) : ∀ {ks : List (Key × V)} {kvs : List (D × D)}, Rpk κ F ks kvs → (∃ v d, valV ks (Sum.inl i : Key) = some v ∧ dgetI kvs i = some d ∧ Rp κ F v d) ∨ (valV ks (Sum.inl i : Key) = none ∧ dgetI kvs i = none)
  | _, _, .nil => .inr ⟨rfl, rfl⟩
  | _, _, @Rpk.cons _ _ k v ks d kvs a b => by
    by_cases h : k = i
    · subst h
      exact .inl ⟨v, d, valV_pos rfl, by simp [dgetI, keyIs], a⟩
    · have e1 : valV ((Sum.inl k, v) :: ks) (Sum.inl i : Key) = valV ks (Sum.inl i : Key) := valV_neg (by simpa using h)
      have e2 : dgetI ((.int k, d) :: kvs) i = dgetI kvs i := by simp [dgetI, keyIs, h]
      rw [e1, e2]
      exact b.val i
theorem Rpk.anyK {κ : KM} {F : Hp} (i : Int) : ∀ {ks : List (Key × V)} {kvs : List (D × D)}, Rpk κ F ks kvs → (ks.any fun kv => decide (kv.1 = (Sum.inl i : Key))) = kvs.any fun kv => keyIs i kv.1
  | _, _, .nil => rfl
  | _, _, .cons a b => by
    rw [List.any_cons, List.any_cons, b.anyK i]
    congr 1
    simp [keyIs]
theorem Rpk.mapK {κ : KM} {F : Hp} (i : Int) {w : V} {e : D} (r : Rp κ F w e) : ∀ {ks : List (Key × V)} {kvs : List (D × D)}, Rpk κ F ks kvs → Rpk κ F (ks.map fun kv => if kv.1 = (Sum.inl i : Key) then (kv.1, w) else kv) (kvs.map fun kv => if keyIs i kv.1 = true then (kv.1, e) else kv)
  | _, _, .nil => .nil
  | _, _, @Rpk.cons _ _ k v ks d kvs a b => by
    rw [List.map_cons, List.map_cons]
    by_cases h : k = i
    · subst h
      simp only [keyIs, decide_true, if_true]
      exact .cons r (b.mapK k r)
    · have h2 : ¬ (Sum.inl k : Key) = Sum.inl i := by simpa using h
      simp only [keyIs, h, decide_false, Bool.false_eq_true, if_false, h2]
      exact .cons a (b.mapK i r)
theorem Rpk.snoc {κ : KM} {F : Hp} {i : Int} {w : V} {e : D} (r : Rp κ F w e) : ∀ {ks : List (Key × V)} {kvs : List (D × D)}, Rpk κ F ks kvs → Rpk κ F (ks ++ [(Sum.inl i, w)]) (kvs ++ [(.int i, e)])
  | _, _, .nil => .cons r .nil
  | _, _, .cons a b => .cons a (b.snoc r)
theorem Rpk.put {κ : KM} {F : Hp} {i : Int} {w : V} {e : D} (r : Rp κ F w e) {ks : List (Key × V)} {kvs : List (D × D)} (q : Rpk κ F ks kvs) : Rpk κ F (putK ks (Sum.inl i : Key) w) (dputI kvs i e) := by
  unfold putK dputI
  rw [q.anyK i]
  split
  · exact q.mapK i r
  · exact q.snoc r
theorem Rpx.length {κ : KM} {F : Hp} : ∀ {xs : List Kx} {kvs : List (D × D)}, Rpx κ F xs kvs → xs.length = kvs.length
  | _, _, .nil => rfl
  | _, _, .cons _ _ _ _ _ b => by rw [List.length_cons, List.length_cons, b.length]
theorem Rpx.keys {κ : KM} {F : Hp} : ∀ {xs : List Kx} {kvs : List (D × D)}, Rpx κ F xs kvs → ∀ x ∈ xs, noText x.1 = true ∧ x.1.depth ≤ 8
  | _, _, .nil, _, h => by simp at h
  | _, _, .cons a b _ _ _ r, x, h => by
    rcases List.mem_cons.mp h with rfl | h
    · exact ⟨kOf_text _ _ a, b⟩
    · exact r.keys x h
theorem Rpx.get {κ : KM} {F : Hp} (k : NestedKey) : ∀ {xs : List Kx} {kvs : List (D × D)}, Rpx κ F xs kvs → (∃ p v d, atKey xs k = some p ∧ tget kvs k = some d ∧ RelV v p.2 ∧ Rp κ F v d) ∨ (atKey xs k = none ∧ tget kvs k = none)
  | _, _, .nil => .inr ⟨rfl, rfl⟩
  | _, _, @Rpx.cons _ _ nk ka val v kd d xs kvs a b c rv e r => by
    by_cases h : nk = k
    · subst h
      exact .inl ⟨(ka, val), v, d, by simp [atKey], by simp [tget, a], rv, e⟩
    · have e1 : atKey ((nk, ka, val) :: xs) k = atKey xs k := by simp [atKey, h]
      have e2 : tget ((kd, d) :: kvs) k = tget kvs k := by simp [tget, a, h]
      rw [e1, e2]
      exact r.get k
theorem Rpx.repl {κ : KM} {F : Hp} (k : NestedKey) {w : V} {val : Value} {e : D} (rw_ : RelV w val) (r : Rp κ F w e) : ∀ {xs : List Kx} {kvs : List (D × D)}, Rpx κ F xs kvs → Rpx κ F (xs.map (putAt k val)) (kvs.map fun kv => if kOf kv.1 = some k then (kv.1, e) else kv)
  | _, _, .nil => .nil
  | _, _, @Rpx.cons _ _ nk ka val' v kd d xs kvs a b c rv e' q => by
    rw [List.map_cons, List.map_cons]
    by_cases h : nk = k
    · subst h
      simp only [putAt, a, if_true]
      exact .cons a b c rw_ r (q.repl nk rw_ r)
    · have h2 : ¬ (some nk : Option NestedKey) = some k := by simpa using h
      simp only [putAt, a, h, if_false, h2]
      exact .cons a b c rv e' (q.repl k rw_ r)
theorem Rpx.snoc {κ : KM} {F : Hp} {nk : NestedKey} {ka : Addr} {val : Value} {v : V} {kd d : D} (h1 : kOf kd = some nk) (h2 : nk.depth ≤ 8) (h3 : Rp κ F (.ref ka) kd) (h4 : RelV v val) (h5 : Rp κ F v d) : ∀ {xs : List Kx} {kvs : List (D × D)}, Rpx κ F xs kvs → Rpx κ F (xs ++ [(nk, ka, val)]) (kvs ++ [(kd, d)])
  | _, _, .nil => .cons h1 h2 h3 h4 h5 .nil
  | _, _, .cons a b c e f g => .cons a b c e f (g.snoc h1 h2 h3 h4 h5)
theorem Rpx.put {κ : KM} {F : Hp} {nk : NestedKey} {ka : Addr} {val : Value} {v : V} {kd d : D} (h1 : kOf kd = some nk) (h2 : nk.depth ≤ 8) (h3 : Rp κ F (.ref ka) kd) (h4 : RelV v val) (h5 : Rp κ F v d) {xs : List Kx} {kvs : List (D × D)} (q : Rpx κ F xs kvs) : Rpx κ F (storedH xs nk ka val) (tput kvs kd nk d) := by
  unfold storedH tput
  rcases q.get nk with ⟨p, v', d', e1, e2, _, _⟩ | ⟨e1, e2⟩
  · rw [e1, e2, Option.isSome_some, Option.isSome_some, if_pos rfl, if_pos rfl]
    exact q.repl nk h4 h5
  · rw [e1, e2, Option.isSome_none, Option.isSome_none, if_neg Bool.false_ne_true, if_neg Bool.false_ne_true]
    exact q.snoc h1 h2 h3 h4 h5
theorem Rpk.length {κ : KM} {F : Hp} : ∀ {ks : List (Key × V)} {kvs : List (D × D)}, Rpk κ F ks kvs → ks.length = kvs.length
  | _, _, .nil => rfl
  | _, _, .cons _ b => by rw [List.length_cons, List.length_cons, b.length]
theorem Rp.mono {κ : KM} {F H : Hp} (s : Sub F H) (d : D) (v : V) (h : Rp κ F v d) : Rp κ H v d := h.mono' s
theorem Rps.mono {κ : KM} {F H : Hp} (s : Sub F H) (ds : List D) (vs : List V) (h : Rps κ F vs ds) : Rps κ H vs ds := h.mono' s
theorem Rpk.mono {κ : KM} {F H : Hp} (s : Sub F H) (kvs : List (D × D)) (ks : List (Key × V)) (h : Rpk κ F ks kvs) : Rpk κ H ks kvs := h.mono' s
theorem Rp.to {κ : KM} {F H : Hp} {v : V} {d : D} (h : Rp κ F v d) (s : Sub F H) : Rp κ H v d := Rp.mono s d v h
theorem Rps.to {κ : KM} {F H : Hp} {vs : List V} {ds : List D} (h : Rps κ F vs ds) (s : Sub F H) : Rps κ H vs ds := Rps.mono s ds vs h
theorem Rps.length {κ : KM} {F : Hp} : ∀ {vs : List V} {ds : List D}, Rps κ F vs ds → vs.length = ds.length
  | _, _, .nil => rfl
  | _, _, .cons _ r => by rw [List.length_cons, List.length_cons, Rps.length r]
theorem Rps.append {κ : KM} {F : Hp} : ∀ {vs ws : List V} {ds es : List D}, Rps κ F vs ds → Rps κ F ws es → Rps κ F (vs ++ ws) (ds ++ es)
  | _, _, _, _, .nil, s => s
  | _, _, _, _, .cons a r, s => .cons a (Rps.append r s)
theorem Rps.get {κ : KM} {F : Hp} : ∀ {vs : List V} {ds : List D} {i : Nat} {d : D}, Rps κ F vs ds → ds[i]? = some d → ∃ v, vs[i]? = some v ∧ Rp κ F v d
  | _, _, _, _, .nil, e => by simp at e
  | _, _, 0, _, .cons a _, e => by simp at e; subst e; exact ⟨_, rfl, a⟩
  | _, _, i + 1, d, .cons _ r, e => by
    obtain ⟨v, h1, h2⟩ := Rps.get (i := i) (d := d) r (by simpa using e)
    exact ⟨v, by simpa using h1, h2⟩
theorem Rps.getV {κ : KM} {F : Hp} : ∀ {vs : List V} {ds : List D} {i : Nat} {v : V}, Rps κ F vs ds → vs[i]? = some v → ∃ d, ds[i]? = some d ∧ Rp κ F v d
  | _, _, _, _, .nil, e => by simp at e
  | _, _, 0, _, .cons a _, e => by simp at e; subst e; exact ⟨_, rfl, a⟩
  | _, _, i + 1, v, .cons _ r, e => by
    obtain ⟨d, h1, h2⟩ := Rps.getV (i := i) (v := v) r (by simpa using e)
    exact ⟨d, by simpa using h1, h2⟩
theorem Rps.take {κ : KM} {F : Hp} : ∀ {vs : List V} {ds : List D} (n : Nat), Rps κ F vs ds → Rps κ F (vs.take n) (ds.take n)
  | _, _, 0, _ => .nil
  | _, _, _ + 1, .nil => .nil
  | _, _, n + 1, .cons a r => .cons a (Rps.take n r)
theorem Rps.drop {κ : KM} {F : Hp} : ∀ {vs : List V} {ds : List D} (n : Nat), Rps κ F vs ds → Rps κ F (vs.drop n) (ds.drop n)
  | _, _, 0, r => r
  | _, _, _ + 1, .nil => .nil
  | _, _, n + 1, .cons _ r => Rps.drop n r
theorem Rps.set {κ : KM} {F : Hp} {v : V} {d : D} (a : Rp κ F v d) : ∀ {vs : List V} {ds : List D} (i : Nat), Rps κ F vs ds → Rps κ F (vs.set i v) (ds.set i d)
  | _, _, _, .nil => .nil
  | _, _, 0, .cons _ r => .cons a r
  | _, _, i + 1, .cons b r => .cons b (Rps.set a i r)
theorem Rps.insertIdx {κ : KM} {F : Hp} {v : V} {d : D} (a : Rp κ F v d) : ∀ {vs : List V} {ds : List D} (i : Nat), Rps κ F vs ds → Rps κ F (vs.insertIdx i v) (ds.insertIdx i d)
  | _, _, 0, r => by simpa using .cons a r
  | _, _, _ + 1, .nil => by simpa using .nil
  | _, _, i + 1, .cons b r => by simpa using .cons b (Rps.insertIdx a i r)
theorem Rps.rep {κ : KM} {F : Hp} {vs : List V} {ds : List D} (h : Rps κ F vs ds) : ∀ k : Nat, Rps κ F (List.replicate k vs).flatten (List.replicate k ds).flatten
  | 0 => .nil
  | k + 1 => by
    rw [List.replicate_succ, List.replicate_succ, List.flatten_cons, List.flatten_cons]
    exact h.append (Rps.rep h k)
theorem Rps.ints {κ : KM} {F : Hp} : ∀ (n : Nat) (f : Nat → Int), Rps κ F ((List.range n).map fun k => V.int (f k)) ((List.range n).map fun k => PyData.int (f k)) := fun n f => by
  have : ∀ l : List Nat, Rps κ F (l.map fun k => V.int (f k)) (l.map fun k => PyData.int (f k)) := fun l => by
    induction l with
    | nil => exact .nil
    | cons a l ih => exact .cons (.int _) ih
  exact this _
mutual
theorem Rp.dp {κ : KM} {K : PySem.W.Frag} {F H : Hp} (s : Sub F H) : ∀ (d : D) (v : V), d.canLay0 = true → Rp κ F v d → Dp K H v d
  | .none, _, _, h => by cases h; exact .non
  | .bool b, _, _, h => by cases h; exact .bl b
  | .int i, _, _, h => by cases h; exact .int i
  | .str x, _, _, h => by cases h; exact .str x
  | .list ds, _, c, h => by
    cases h with
    | lst e r => exact .lst (.inl (.inl (s _ _ e))) (Rps.dp s ds _ (by simpa [PyData.canLay0] using c) r)
  | .tuple ds, _, c, h => by
    cases h with
    | tup e r => exact .tup (.inl (.inl (s _ _ e))) (Rps.dp s ds _ (by simpa [PyData.canLay0] using c) r)
  | .dict _, _, c, _ => by simp [PyData.canLay0] at c
theorem Rps.dp {κ : KM} {K : PySem.W.Frag} {F H : Hp} (s : Sub F H) : ∀ (ds : List D) (vs : List V), PyData.canLayAll0 ds = true → Rps κ F vs ds → DpAll K H vs ds
  | [], _, _, h => by cases h; exact .nil
  | d :: ds, _, c, h => by
    simp only [PyData.canLayAll0, Bool.and_eq_true] at c
    cases h with
    | cons a b => exact .cons (Rp.dp s d _ c.1 a) (Rps.dp s ds _ c.2 b)
end

/-- from (F, H) to (F', H'): what stood stands; what is new in F was not in H -/
structure Gr (F H F' H' : Hp) : Prop where
  ff : Sub F F'
  fh : Sub F' H'
  hh : Sub H H'
  nw : ∀ a o, F' a = some o → F a = some o ∨ H a = none
theorem Gr.refl {F H : Hp} (h : Sub F H) : Gr F H F H := ⟨Sub.refl F, h, Sub.refl H, fun _ _ e => .inl e⟩
theorem Gr.trans {F H F1 H1 F2 H2 : Hp} (a : Gr F H F1 H1) (b : Gr F1 H1 F2 H2) : Gr F H F2 H2 :=
  ⟨a.ff.trans b.ff, b.fh, a.hh.trans b.hh, fun x o e => by
    rcases b.nw x o e with h | h
    · exact a.nw x o h
    · exact .inr (a.hh.none h)⟩
/-- an address that H had and F had not is not in F' -/
theorem Gr.out {F H F' H' : Hp} (g : Gr F H F' H') {p : Addr} {o : HO} (h : H p = some o) (n : F p = none) : F' p = none := by
  cases q : F' p with
  | none => rfl
  | some u =>
    rcases g.nw p u q with z | z
    · rw [n] at z; cases z
    · rw [h] at z; cases z
/-- a new object, told in F too -/
theorem Gr.new {F H : Hp} (h : Sub F H) {p : Addr} (n : H p = none) (o : HO) : Gr F H (upd F p o) (upd H p o) := by
  have nF := h.none n
  refine ⟨fun a u e => ?_, fun a u e => ?_, fun a u e => ?_, fun a u e => ?_⟩
  · rw [upd_ne (ne_of_none e nF)]; exact e
  · by_cases z : a = p
    · subst z; rw [upd_same] at e ⊢; exact e
    · rw [upd_ne z] at e ⊢; exact h a u e
  · rw [upd_ne (ne_of_none e n)]; exact e
  · by_cases z : a = p
    · subst z; exact .inr n
    · rw [upd_ne z] at e; exact .inl e
/-- a new object, not told in F -/
theorem Gr.lay {F H : Hp} (h : Sub F H) {p : Addr} (n : H p = none) (o : HO) : Gr F H F (upd H p o) := by
  refine ⟨Sub.refl F, fun a u e => ?_, fun a u e => ?_, fun a u e => .inl e⟩
  · rw [upd_ne (ne_of_none (h a u e) n)]; exact h a u e
  · rw [upd_ne (ne_of_none e n)]; exact e

/-! ### a container whose own address F does not know -/
def Top (κ : KM) (F H : Hp) (p : Addr) : D → Prop
  | .list ds => ∃ vs, H p = some (.lst vs) ∧ Rps κ F vs ds
  | .dict kvs => (∃ ks, H p = some (.dK ks) ∧ Rpk κ F ks kvs) ∨ ∃ xs r, kvs = (.bool true, .none) :: r ∧ H p = some (kxO p xs) ∧ Rpx κ F xs r
  | _ => False
theorem Top.has {κ : KM} {F H : Hp} {p : Addr} {d : D} (t : Top κ F H p d) : ∃ o, H p = some o := by
  cases d with
  | list ds => obtain ⟨vs, e, _⟩ := t; exact ⟨_, e⟩
  | dict kvs =>
    rcases t with ⟨ks, e, _⟩ | ⟨xs, r, _, e, _⟩
    · exact ⟨_, e⟩
    · exact ⟨_, e⟩
  | _ => exact False.elim t
theorem Top.mono {κ : KM} {F H F' H' : Hp} {p : Addr} {d : D} (t : Top κ F H p d) (f : Sub F F') (h : H p = H' p) : Top κ F' H' p d := by
  cases d with
  | list ds => obtain ⟨vs, e, r⟩ := t; exact ⟨vs, h ▸ e, r.to f⟩
  | dict kvs =>
    rcases t with ⟨ks, e, r⟩ | ⟨xs, r, e0, e, q⟩
    · exact .inl ⟨ks, h ▸ e, Rpk.mono f _ _ r⟩
    · exact .inr ⟨xs, r, e0, h ▸ e, q.mono' f⟩
  | _ => exact False.elim t
theorem Top.gr {κ : KM} {F H F' H' : Hp} {p : Addr} {d : D} (t : Top κ F H p d) (g : Gr F H F' H') : Top κ F' H' p d := by
  obtain ⟨o, e⟩ := t.has
  exact t.mono g.ff (e.trans (g.hh _ _ e).symm)
/-- told in F: frozen -/
theorem Top.freeze {κ : KM} {F H : Hp} {p : Addr} {d : D} (t : Top κ F H p d) (h : Sub F H) (n : F p = none) : ∃ F', Sub F F' ∧ Sub F' H ∧ Rp κ F' (.ref p) d ∧ ∀ a o, F' a = some o → F a = some o ∨ a = p := by
  have mk : ∀ o, H p = some o → Sub F (upd F p o) ∧ Sub (upd F p o) H ∧ ∀ a u, upd F p o a = some u → F a = some u ∨ a = p := fun o e => by
    refine ⟨fun a u q => ?_, fun a u q => ?_, fun a u q => ?_⟩
    · rw [upd_ne (ne_of_none q n)]; exact q
    · by_cases z : a = p
      · subst z; rw [upd_same] at q; cases q; exact e
      · rw [upd_ne z] at q; exact h a u q
    · by_cases z : a = p
      · exact .inr z
      · rw [upd_ne z] at q; exact .inl q
  cases d with
  | list ds =>
    obtain ⟨vs, e, r⟩ := t
    obtain ⟨a, b, c⟩ := mk _ e
    exact ⟨_, a, b, .lst upd_same (r.to a), c⟩
  | dict kvs =>
    rcases t with ⟨ks, e, r⟩ | ⟨xs, r, e0, e, q⟩
    · obtain ⟨a, b, c⟩ := mk _ e
      exact ⟨_, a, b, .dic upd_same (r.mono' a), c⟩
    · subst e0
      obtain ⟨a, b, c⟩ := mk _ e
      exact ⟨_, a, b, .tk upd_same (q.mono' a), c⟩
  | _ => exact False.elim t

/-- what is lent is no cell -/
def NI (κ : KM) (k : Kd) (p : Addr) : Prop := k = .brw → ∀ n, κ.io n ≠ some p
/-- a value by its kind -/
def RV (κ : KM) (F H : Hp) (k : Kd) (d : D) (v : V) : Prop :=
  match k with
  | .shr => Rp κ F v d
  | k => ∃ p, v = .ref p ∧ F p = none ∧ Top κ F H p d ∧ NI κ k p
theorem RV.gr {κ : KM} {F H F' H' : Hp} {k : Kd} {d : D} {v : V} (r : RV κ F H k d v) (g : Gr F H F' H') : RV κ F' H' k d v := by
  have own : (∃ p, v = .ref p ∧ F p = none ∧ Top κ F H p d ∧ NI κ k p) → ∃ p, v = .ref p ∧ F' p = none ∧ Top κ F' H' p d ∧ NI κ k p := fun ⟨p, e, n, t, ni⟩ => by
    obtain ⟨o, q⟩ := t.has
    exact ⟨p, e, g.out q n, t.gr g, ni⟩
  cases k with
  | shr => exact Rp.to r g.ff
  | brw => exact own r
  | frs => exact own r
/-! ### the cells -/
inductive Rpf (κ : KM) (F : Hp) : List (Str × V) → List (Str × D) → Prop
  | nil : Rpf κ F [] []
  | cons {f : Str} {v : V} {d : D} {gs : List (Str × V)} {fs : List (Str × D)} : Rp κ F v d → Rpf κ F gs fs → Rpf κ F ((f, v) :: gs) ((f, d) :: fs)
theorem Rpf.to {κ : KM} {F F' : Hp} (s : Sub F F') : ∀ {gs : List (Str × V)} {fs : List (Str × D)}, Rpf κ F gs fs → Rpf κ F' gs fs
  | _, _, .nil => .nil
  | _, _, .cons a r => .cons (a.to s) (Rpf.to s r)
def CellAt (κ : KM) (F H : Hp) (a : Addr) : Cell → Prop
  | .lst ds => ∃ vs, H a = some (.lst vs) ∧ Rps κ F vs ds
  | .dic kvs => ∃ xs, H a = some (kxO a xs) ∧ Rpx κ F xs kvs
  | .obj c fs => ∃ dx gs, H a = some (.ins (κ.ca c) dx gs) ∧ H dx = some (.own a) ∧ Rpf κ F gs fs
  | .dead => ∃ o, H a = some o
theorem CellAt.has {κ : KM} {F H : Hp} {a : Addr} {c : Cell} (h : CellAt κ F H a c) : ∃ o, H a = some o := by
  cases c with
  | lst ds => obtain ⟨vs, e, _⟩ := h; exact ⟨_, e⟩
  | dic kvs => obtain ⟨xs, e, _⟩ := h; exact ⟨_, e⟩
  | obj c fs => obtain ⟨dx, gs, e, _⟩ := h; exact ⟨_, e⟩
  | dead => exact h
theorem CellAt.to {κ : KM} {F H F' H' : Hp} {a : Addr} {c : Cell} (h : CellAt κ F H a c) (s : Sub F F') (t : Sub H H') : CellAt κ F' H' a c := by
  cases c with
  | lst ds => obtain ⟨vs, e, r⟩ := h; exact ⟨vs, t _ _ e, r.to s⟩
  | dic kvs => obtain ⟨xs, e, r⟩ := h; exact ⟨xs, t _ _ e, r.mono' s⟩
  | obj c fs => obtain ⟨dx, gs, e, e2, r⟩ := h; exact ⟨dx, gs, t _ _ e, t _ _ e2, r.to s⟩
  | dead => obtain ⟨o, e⟩ := h; exact ⟨o, t _ _ e⟩
structure HM (κ : KM) (F H : Hp) : Prop where
  at_ : ∀ (n : Nat) (c : Cell), κ.mu[n]? = some c → ∃ a, κ.io n = some a ∧ F a = none ∧ CellAt κ F H a c
  inj : ∀ (n m : Nat) (a : Addr), κ.io n = some a → κ.io m = some a → n = m
  lt : ∀ (n : Nat) (a : Addr), κ.io n = some a → n < κ.mu.length
theorem HM.of {κ : KM} {F H : Hp} (h : HM κ F H) {n : Nat} {a : Addr} (e : κ.io n = some a) : ∃ c, κ.mu[n]? = some c ∧ F a = none ∧ CellAt κ F H a c := by
  have hl := h.lt n a e
  obtain ⟨a', e1, e2, e3⟩ := h.at_ n _ (List.getElem?_eq_getElem hl)
  rw [e] at e1
  cases e1
  exact ⟨_, List.getElem?_eq_getElem hl, e2, e3⟩
theorem HM.mono {κ : KM} {F H F' H' : Hp} (h : HM κ F H) (g : Gr F H F' H') : HM κ F' H' where
  at_ := fun n c e => by
    obtain ⟨a, e1, e2, e3⟩ := h.at_ n c e
    obtain ⟨o, q⟩ := e3.has
    exact ⟨a, e1, g.out q e2, e3.to g.ff g.hh⟩
  inj := h.inj
  lt := h.lt
/-- what is new is no cell -/
theorem HM.new {κ : KM} {F H : Hp} (h : HM κ F H) {p : Addr} (n : H p = none) (m : Nat) : κ.io m ≠ some p := fun e => by
  obtain ⟨c, _, _, q⟩ := h.of e
  obtain ⟨o, q⟩ := q.has
  rw [n] at q; cases q
/-- more is frozen, no cell among it -/
theorem HM.more {κ : KM} {F F' H : Hp} (h : HM κ F H) (s : Sub F F') (n : ∀ a o, F' a = some o → F a = some o ∨ ∀ m, κ.io m ≠ some a) : HM κ F' H where
  at_ := fun m c e => by
    obtain ⟨a, e1, e2, e3⟩ := h.at_ m c e
    refine ⟨a, e1, ?_, e3.to s (Sub.refl H)⟩
    cases q : F' a with
    | none => rfl
    | some o =>
      rcases n a o q with z | z
      · rw [e2] at z; cases z
      · exact absurd e1 (z m)
  inj := h.inj
  lt := h.lt
/-- another thing than a cell is changed -/
theorem HM.chg {κ : KM} {F H : Hp} (h : HM κ F H) {p : Addr} {o : HO} (n : ∀ m, κ.io m ≠ some p) (no : ∀ a, H p ≠ some (.own a)) : HM κ F (upd H p o) where
  at_ := fun m c e => by
    obtain ⟨a, e1, e2, e3⟩ := h.at_ m c e
    have ne : a ≠ p := fun z => n m (by rw [e1, z])
    refine ⟨a, e1, e2, ?_⟩
    cases c with
    | lst ds => obtain ⟨vs, e, r⟩ := e3; exact ⟨vs, by rw [upd_ne ne]; exact e, r⟩
    | dic kvs => obtain ⟨xs, e, r⟩ := e3; exact ⟨xs, by rw [upd_ne ne]; exact e, r⟩
    | obj c fs =>
      obtain ⟨dx, gs, e, e2, r⟩ := e3
      refine ⟨dx, gs, by rw [upd_ne ne]; exact e, ?_, r⟩
      rw [upd_ne (fun z => no a (by rw [← z]; exact e2))]
      exact e2
    | dead => obtain ⟨o', e⟩ := e3; exact ⟨o', by rw [upd_ne ne]; exact e⟩
  inj := h.inj
  lt := h.lt
theorem Top.no_own {κ : KM} {F H : Hp} {p : Addr} {d : D} (t : Top κ F H p d) (a : Addr) : H p ≠ some (.own a) := fun e => by
  cases d with
  | list ds => obtain ⟨vs, e2, _⟩ := t; rw [e] at e2; cases e2
  | dict kvs =>
    rcases t with ⟨ks, e2, _⟩ | ⟨xs, r, _, e2, _⟩
    · rw [e] at e2; cases e2
    · rw [e] at e2; cases e2
  | _ => exact False.elim t
/-- new since H -/
def Fresh (H : Hp) (k : Kd) (v : V) : Prop := k = .frs → ∀ p, v = .ref p → H p = none

/-! ### the state -/
structure StOK (κ : KM) (F0 H0 F H : Hp) (st : Ev) (σ : L2.St) : Prop where
  gr : Gr F0 H0 F H
  len : st.length = σ.length
  shr : ∀ (i : Nat) (d : D), st[i]? = some (some (false, d)) → ∃ v, σ[i]? = some (some v) ∧ Rp κ F v d
  own : ∀ (i : Nat) (d : D), st[i]? = some (some (true, d)) → ∃ p, σ[i]? = some (some (.ref p)) ∧ F p = none ∧ H0 p = none ∧ Top κ F H p d
  inj : ∀ (i j : Nat) (p : Addr) (di dj : D), st[i]? = some (some (true, di)) → st[j]? = some (some (true, dj)) → σ[i]? = some (some (.ref p)) → σ[j]? = some (some (.ref p)) → i = j
  cel : HM κ F H
  ocl : ∀ (i : Nat) (d : D) (p : Addr), st[i]? = some (some (true, d)) → σ[i]? = some (some (.ref p)) → ∀ n, κ.io n ≠ some p
section
variable {κ : KM} {F0 H0 F H F' H' : Hp} {st : Ev} {σ : L2.St}
theorem StOK.fh (S : StOK κ F0 H0 F H st σ) : Sub F H := S.gr.fh
theorem StOK.mono (S : StOK κ F0 H0 F H st σ) (g : Gr F H F' H') : StOK κ F0 H0 F' H' st σ where
  gr := S.gr.trans g
  len := S.len
  shr := fun i d e => by
    obtain ⟨v, h1, h2⟩ := S.shr i d e
    exact ⟨v, h1, h2.to g.ff⟩
  own := fun i d e => by
    obtain ⟨p, h1, h2, h3, h4⟩ := S.own i d e
    obtain ⟨o, q⟩ := h4.has
    exact ⟨p, h1, g.out q h2, h3, h4.gr g⟩
  inj := S.inj
  cel := S.cel.mono g
  ocl := S.ocl
theorem StOK.lt (S : StOK κ F0 H0 F H st σ) {i : Nat} {x : Option (Bool × D)} (e : st[i]? = some x) : i < σ.length := by
  rw [← S.len]
  exact (List.getElem?_eq_some_iff.mp e).1
/-- a slot gets a shared value -/
theorem StOK.setS (S : StOK κ F0 H0 F H st σ) (i : Nat) {v : V} {d : D} (r : Rp κ F v d) : StOK κ F0 H0 F H (st.set i (some (false, d))) (σ.set i (some v)) where
  gr := S.gr
  len := by rw [List.length_set, List.length_set]; exact S.len
  shr := fun j d' e => by
    by_cases z : i = j
    · subst z
      have hl : i < st.length := by
        have := (List.getElem?_eq_some_iff.mp e).1
        simpa using this
      rw [List.getElem?_set_self hl] at e
      cases e
      exact ⟨v, by rw [List.getElem?_set_self (by rw [← S.len]; exact hl)], r⟩
    · rw [List.getElem?_set_ne z] at e
      rw [List.getElem?_set_ne z]
      exact S.shr j d' e
  own := fun j d' e => by
    by_cases z : i = j
    · subst z
      have hl : i < st.length := by
        have := (List.getElem?_eq_some_iff.mp e).1
        simpa using this
      rw [List.getElem?_set_self hl] at e
      cases e
    · rw [List.getElem?_set_ne z] at e
      rw [List.getElem?_set_ne z]
      exact S.own j d' e
  inj := fun j k p dj dk e1 e2 e3 e4 => by
    have out : ∀ {j : Nat} {dj : D}, (st.set i (some (false, d)))[j]? = some (some (true, dj)) → i ≠ j := fun {j dj} e z => by
      subst z
      have hl : i < st.length := by
        have := (List.getElem?_eq_some_iff.mp e).1
        simpa using this
      rw [List.getElem?_set_self hl] at e
      cases e
    have n1 := out e1
    have n2 := out e2
    rw [List.getElem?_set_ne n1] at e1 e3
    rw [List.getElem?_set_ne n2] at e2 e4
    exact S.inj j k p dj dk e1 e2 e3 e4
  cel := S.cel
  ocl := fun j d' p e1 e2 => by
    by_cases z : i = j
    · subst z
      have hl : i < st.length := by
        have := (List.getElem?_eq_some_iff.mp e1).1
        simpa using this
      rw [List.getElem?_set_self hl] at e1
      cases e1
    · rw [List.getElem?_set_ne z] at e1 e2
      exact S.ocl j d' p e1 e2
/-- a slot gets a container of its own, whose address no other own slot has -/
theorem StOK.setO (S : StOK κ F0 H0 F H st σ) (i : Nat) {p : Addr} {d : D} (ni : ∀ n, κ.io n ≠ some p) (n : F p = none) (n0 : H0 p = none) (t : Top κ F H p d)
    (ne : ∀ (j : Nat) (dj : D), j ≠ i → st[j]? = some (some (true, dj)) → σ[j]? ≠ some (some (.ref p))) : StOK κ F0 H0 F H (st.set i (some (true, d))) (σ.set i (some (.ref p))) where
  gr := S.gr
  len := by rw [List.length_set, List.length_set]; exact S.len
  shr := fun j d' e => by
    by_cases z : i = j
    · subst z
      have hl : i < st.length := by
        have := (List.getElem?_eq_some_iff.mp e).1
        simpa using this
      rw [List.getElem?_set_self hl] at e
      cases e
    · rw [List.getElem?_set_ne z] at e
      rw [List.getElem?_set_ne z]
      exact S.shr j d' e
  own := fun j d' e => by
    by_cases z : i = j
    · subst z
      have hl : i < st.length := by
        have := (List.getElem?_eq_some_iff.mp e).1
        simpa using this
      rw [List.getElem?_set_self hl] at e
      cases e
      exact ⟨p, by rw [List.getElem?_set_self (by rw [← S.len]; exact hl)], n, n0, t⟩
    · rw [List.getElem?_set_ne z] at e
      rw [List.getElem?_set_ne z]
      exact S.own j d' e
  inj := fun j k q dj dk e1 e2 e3 e4 => by
    have at_ : ∀ {dj : D}, (st.set i (some (true, d)))[i]? = some (some (true, dj)) → (σ.set i (some (.ref p)))[i]? = some (some (.ref q)) → q = p := fun {dj} e f => by
      have hl : i < st.length := by
        have := (List.getElem?_eq_some_iff.mp e).1
        simpa using this
      rw [List.getElem?_set_self (by rw [← S.len]; exact hl)] at f
      cases f
      rfl
    by_cases z1 : i = j
    · subst z1
      by_cases z2 : i = k
      · exact z2
      · have := at_ e1 e3
        subst this
        rw [List.getElem?_set_ne z2] at e2 e4
        exact absurd e4 (ne k dk (Ne.symm z2) e2)
    · by_cases z2 : i = k
      · subst z2
        have := at_ e2 e4
        subst this
        rw [List.getElem?_set_ne z1] at e1 e3
        exact absurd e3 (ne j dj (Ne.symm z1) e1)
      · rw [List.getElem?_set_ne z1] at e1 e3
        rw [List.getElem?_set_ne z2] at e2 e4
        exact S.inj j k q dj dk e1 e2 e3 e4
  cel := S.cel
  ocl := fun j d' q e1 e2 => by
    by_cases z : i = j
    · subst z
      have hl : i < st.length := by
        have := (List.getElem?_eq_some_iff.mp e1).1
        simpa using this
      rw [List.getElem?_set_self (by rw [← S.len]; exact hl)] at e2
      cases e2
      exact ni
    · rw [List.getElem?_set_ne z] at e1 e2
      exact S.ocl j d' q e1 e2
/-- what an own slot holds is changed in place -/
theorem StOK.chg (S : StOK κ F0 H0 F H st σ) {i : Nat} {p : Addr} {d d' : D} {o : HO} (e : st[i]? = some (some (true, d))) (hp : σ[i]? = some (some (.ref p))) (t : Top κ F (upd H p o) p d') :
    StOK κ F0 H0 F (upd H p o) (st.set i (some (true, d'))) σ := by
  obtain ⟨p', h1, n, n0, t0⟩ := S.own i d e
  rw [hp] at h1
  cases h1
  have gr : Gr F0 H0 F (upd H p o) := ⟨S.gr.ff, fun a u q => by
      rw [upd_ne (ne_of_none q n)]; exact S.gr.fh a u q, fun a u q => by
      rw [upd_ne (ne_of_none q n0)]; exact S.gr.hh a u q, S.gr.nw⟩
  have il : i < st.length := (List.getElem?_eq_some_iff.mp e).1
  have nio := S.ocl i d p e hp
  refine ⟨gr, by rw [List.length_set]; exact S.len, fun j dj q => ?_, fun j dj q => ?_, fun j k q dj dk e1 e2 e3 e4 => ?_, S.cel.chg nio t0.no_own, fun j dj q e1 e2 => ?_⟩
  case refine_4 =>
    by_cases z : i = j
    · subst z; rw [hp] at e2; cases e2; exact nio
    · rw [List.getElem?_set_ne z] at e1; exact S.ocl j dj q e1 e2
  · by_cases z : i = j
    · subst z; rw [List.getElem?_set_self il] at q; cases q
    · rw [List.getElem?_set_ne z] at q; exact S.shr j dj q
  · by_cases z : i = j
    · subst z; rw [List.getElem?_set_self il] at q; cases q; exact ⟨p, hp, n, n0, t⟩
    · rw [List.getElem?_set_ne z] at q
      obtain ⟨q', k1, k2, k3, k4⟩ := S.own j dj q
      refine ⟨q', k1, k2, k3, k4.mono (Sub.refl F) ?_⟩
      rw [upd_ne]
      rintro rfl
      exact z (S.inj i j _ d dj e q hp k1)
  · have up : ∀ {j : Nat} {dj : D}, (st.set i (some (true, d')))[j]? = some (some (true, dj)) → ∃ dj', st[j]? = some (some (true, dj')) := fun {j dj} q => by
      by_cases z : i = j
      · subst z; exact ⟨d, e⟩
      · rw [List.getElem?_set_ne z] at q; exact ⟨dj, q⟩
    obtain ⟨a, qa⟩ := up e1
    obtain ⟨b, qb⟩ := up e2
    exact S.inj j k q a b qa qb e3 e4
/-- an own slot is frozen -/
theorem StOK.frz (S : StOK κ F0 H0 F H st σ) {i : Nat} {d : D} (e : st[i]? = some (some (true, d))) : ∃ F', Sub F F' ∧ StOK κ F0 H0 F' H (st.set i (some (false, d))) σ := by
  obtain ⟨p, h1, n, n0, t⟩ := S.own i d e
  obtain ⟨F', f1, f2, r, f3⟩ := t.freeze S.fh n
  have il : i < st.length := (List.getElem?_eq_some_iff.mp e).1
  refine ⟨F', f1, ⟨⟨S.gr.ff.trans f1, f2, S.gr.hh, fun a o q => ?_⟩, by rw [List.length_set]; exact S.len, fun j dj q => ?_, fun j dj q => ?_, fun j k q dj dk e1 e2 e3 e4 => ?_, S.cel.more f1 fun a o q => ?_, fun j dj q e1 e2 => ?_⟩⟩
  case refine_5 =>
    rcases f3 a o q with z | z
    · exact .inl z
    · subst z; exact .inr (S.ocl i d _ e h1)
  case refine_6 =>
    by_cases z : i = j
    · subst z; rw [List.getElem?_set_self il] at e1; cases e1
    · rw [List.getElem?_set_ne z] at e1; exact S.ocl j dj q e1 e2
  · rcases f3 a o q with z | z
    · exact S.gr.nw a o z
    · subst z; exact .inr n0
  · by_cases z : i = j
    · subst z; rw [List.getElem?_set_self il] at q; cases q; exact ⟨_, h1, r⟩
    · rw [List.getElem?_set_ne z] at q
      obtain ⟨v, k1, k2⟩ := S.shr j dj q
      exact ⟨v, k1, k2.to f1⟩
  · by_cases z : i = j
    · subst z; rw [List.getElem?_set_self il] at q; cases q
    · rw [List.getElem?_set_ne z] at q
      obtain ⟨q', k1, k2, k3, k4⟩ := S.own j dj q
      refine ⟨q', k1, ?_, k3, k4.mono f1 rfl⟩
      cases w : F' q' with
      | none => rfl
      | some u =>
        rcases f3 q' u w with y | y
        · rw [k2] at y; cases y
        · subst y; exact absurd (S.inj i j _ d dj e q h1 k1) z
  · have up : ∀ {j : Nat} {dj : D}, (st.set i (some (false, d)))[j]? = some (some (true, dj)) → st[j]? = some (some (true, dj)) := fun {j dj} q => by
      by_cases z : i = j
      · subst z; rw [List.getElem?_set_self il] at q; cases q
      · rw [List.getElem?_set_ne z] at q; exact q
    exact S.inj j k q dj dk (up e1) (up e2) e3 e4
end

/-! ### readings as wishes -/
def SE (X : Cx) (e : Expr) : TE := fun σ H Q => ∀ (pins : List (Addr × Obj)) (s : Shared), Inv X pins σ H s → wpAny (model X.prog X.w) X.A (eval e X.env) (EP X pins σ Q) X.xe s
def ST (X : Cx) (e : Expr) : TT := fun σ H Q => ∀ (pins : List (Addr × Obj)) (s : Shared), Inv X pins σ H s → wpAny (model X.prog X.w) X.A (isTrue e X.env (eval e X.env)) (TP X pins σ Q) X.xe s
def SA (X : Cx) (es : List Expr) : TA := fun σ H Q => ∀ (pos : Pos) (pins : List (Addr × Obj)) (s : Shared), Inv X pins σ H s → wpAny (model X.prog X.w) X.A (spliced (backTo pos (starEach es X.env))) (AP X pins σ Q) X.xe s
def SS (X : Cx) (st : Stmt) : TS := fun D σ H => ∀ (pins : List (Addr × Obj)) (s : Shared), Inv X pins σ H s → wpAny (model X.prog X.w) X.A (exec st X.env) (SP X pins D) X.xe s
def SSs (X : Cx) (st : List Stmt) : TS := fun D σ H => ∀ (pins : List (Addr × Obj)) (s : Shared), Inv X pins σ H s → wpAny (model X.prog X.w) X.A (execs st X.env) (SP X pins D) X.xe s
theorem pe_se {X : Cx} {e : Expr} : PE X e (SE X e) := ⟨fun pins s _ _ _ I h => h pins s I⟩
theorem pt_st {X : Cx} {e : Expr} : PT X e (ST X e) := ⟨fun pins s _ _ _ I h => h pins s I⟩
theorem pa_sa {X : Cx} {es : List Expr} : PA X es (SA X es) := ⟨fun pos pins s _ _ _ I h => h pos pins s I⟩
theorem ps_ss {X : Cx} {st : Stmt} : PS X st (SS X st) := ⟨fun pins s _ _ _ I h => h pins s I⟩
theorem pss_sss {X : Cx} {st : List Stmt} : PSs X st (SSs X st) := ⟨fun pins s _ _ _ I h => h pins s I⟩
theorem se_of {X : Cx} {e : Expr} {t : TE} {σ : L2.St} {H : Hp} {Q : VK} (h : PE X e t) (ht : t σ H Q) : SE X e σ H Q := fun pins s I => h.run pins s σ H Q I ht
theorem st_of {X : Cx} {e : Expr} {t : TT} {σ : L2.St} {H : Hp} {Q : Bool → Hp → Prop} (h : PT X e t) (ht : t σ H Q) : ST X e σ H Q := fun pins s I => h.run pins s σ H Q I ht
theorem sa_of {X : Cx} {es : List Expr} {t : TA} {σ : L2.St} {H : Hp} {Q : List V → Hp → Prop} (h : PA X es t) (ht : t σ H Q) : SA X es σ H Q := fun pos pins s I => h.run pos pins s σ H Q I ht
theorem ss_of {X : Cx} {st : Stmt} {t : TS} {σ : L2.St} {H : Hp} {D : Ends} (h : PS X st t) (ht : t D σ H) : SS X st D σ H := fun pins s I => h.run pins s σ H D I ht
theorem sss_of {X : Cx} {st : List Stmt} {t : TS} {σ : L2.St} {H : Hp} {D : Ends} (h : PSs X st t) (ht : t D σ H) : SSs X st D σ H := fun pins s I => h.run pins s σ H D I ht
theorem SE.imp {X : Cx} {e : Expr} {σ : L2.St} {H : Hp} {Q Q' : VK} (h : SE X e σ H Q) (q : ∀ v H', Q v H' → Q' v H') : SE X e σ H Q' := fun pins s I =>
  wpAny_mono (h pins s I) (fun _ _ ⟨v, H', I', r, z⟩ => ⟨v, H', I', r, q v H' z⟩) fun _ _ x => x
/-- an operation on two values, as a wish -/
def OSem (X : Cx) (f : Value → Value → Sem Value) : R2 := fun x y H Q => ∀ (pins : List (Addr × Obj)) (s : Shared) (σ : L2.St) (v u : Value), Inv X pins σ H s → RelV x v → RelV y u → wpAny (model X.prog X.w) X.A (f v u) (EP X pins σ Q) X.xe s
theorem op_sem {X : Cx} {f : Value → Value → Sem Value} : OpR X f (OSem X f) := fun pins s σ _ _ _ v u _ I r1 r2 h => h pins s σ v u I r1 r2
theorem osem_of {X : Cx} {f : Value → Value → Sem Value} {r : R2} {x y : V} {H : Hp} {Q : VK} (h : OpR X f r) (ht : r x y H Q) : OSem X f x y H Q := fun pins s σ v u I r1 r2 => h pins s σ H x y v u Q I r1 r2 ht
def ISem (X : Cx) : R2 := fun x y H Q => ∀ (value slice : Expr) (pins : List (Addr × Obj)) (s : Shared) (σ : L2.St) (v u : Value), Inv X pins σ H s → RelV x v → RelV y u →
  subscripted slice false v u = operate [v, u] (getItem v u) → wpAny (model X.prog X.w) X.A (subscriptTail value slice v u) (EP X pins σ Q) X.xe s
end Dv

/-! Dv, part B1: what is done with dicts whose keys are tuples. -/
namespace Dv
open PySem PySem.Spec PyProof.Rows L2

section
variable {κ : KM} {F H : Hp}
mutual
theorem rp_key {P : Program} {w : World} {h : Heap} (ok : HOk P w H h) (s : Sub F H) : ∀ (d : D) (k : NestedKey) (v : V) (val : Value), kOf d = some k → Rp κ F v d → RelV v val → NestedIs h k val
  | .int i, k, v, val, e, r, rv => by
    simp only [kOf, Option.some.injEq] at e
    subst e
    cases r
    obtain ⟨t, rfl⟩ := (show ∃ t, val = Value.int i t from rv)
    exact .int i t
  | .tuple xs, k, v, val, e, r, rv => by
    simp only [kOf, Option.map_eq_some_iff] at e
    obtain ⟨ks, h1, rfl⟩ := e
    cases r with
    | tup ea qa =>
      rename_i a vs
      cases (show val = Value.ref a from rv)
      obtain ⟨_, its, rr, o, g1, g2, n, g3⟩ := (show ObjOk P w H h a (.tup vs) from ok a _ (s _ _ ea))
      exact .tup g1 g2 g3 (by simpa using rps_keys ok s xs ks vs its h1 qa rr)
  | .none, k, v, val, e, r, rv => by simp [kOf] at e
  | .bool _, k, v, val, e, r, rv => by simp [kOf] at e
  | .str _, k, v, val, e, r, rv => by simp [kOf] at e
  | .list _, k, v, val, e, r, rv => by simp [kOf] at e
  | .dict _, k, v, val, e, r, rv => by simp [kOf] at e
theorem rps_keys {P : Program} {w : World} {h : Heap} (ok : HOk P w H h) (s : Sub F H) : ∀ (ds : List D) (ks : List NestedKey) (vs : List V) (us : List Value), kOfs ds = some ks → Rps κ F vs ds → Vals vs us → NestedAll h ks us
  | [], ks, vs, us, e, r, rv => by
    simp only [kOfs, Option.some.injEq] at e
    subst e
    cases r
    cases rv
    exact .nil
  | d :: ds, ks, vs, us, e, r, rv => by
    rw [kOfs] at e
    split at e
    · rename_i k ks' h1 h2
      cases e
      cases r with
      | cons a q =>
        cases rv with
        | cons b rr => exact .cons (rp_key ok s d k _ _ h1 a b) (rps_keys ok s ds ks' _ _ h2 q rr)
    · cases e
end
theorem rpx_keys {P : Program} {w : World} {h : Heap} (ok : HOk P w H h) (s : Sub F H) : ∀ {xs : List Kx} {kvs : List (D × D)}, Rpx κ F xs kvs → ∀ x ∈ xs, NestedIs h x.1 (.ref x.2.1)
  | _, _, .nil, _, m => by simp at m
  | _, _, .cons a b c d e f, x, m => by
    rcases List.mem_cons.mp m with rfl | m
    · exact rp_key ok s _ _ _ _ a c rfl
    · exact rpx_keys ok s f x m
end
/-- a key's and a dict's description -/
structure KxAt (H : Hp) (a : Addr) (y : V) (κ : KM) (F : Hp) (xs : List Kx) (r : List (D × D)) (kd : D) (nk : NestedKey) : Prop where
  sub : Sub F H
  at_ : H a = some (kxO a xs)
  q : Rpx κ F xs r
  key : kOf kd = some nk
  dep : nk.depth ≤ 8
  ky : Rp κ F y kd
  rf : ∃ b, y = .ref b
section
variable {X : Cx} {pins : List (Addr × Obj)} {σ : L2.St} {H : Hp} {s : Shared} {a : Addr} {y v : V} {u r : Value} {A : Around} {E : Value → Shared → Prop} {κ : KM} {F : Hp} {xs : List Kx} {kvs : List (D × D)} {kd : D} {nk : NestedKey}
theorem kx_room (hu : A.units + 64 < cLine) : (nestedKind X.prog X.w).room A.in1 := by
  show A.units + 1 + 8 < cLine
  omega
theorem KxAt.dict (k : KxAt H a y κ F xs kvs kd nk) (I : Inv X pins σ H s) : s.heap.DictOfH (nestedKind X.prog X.w) a xs ∧ (a == sysModules) = false ∧ xs.length ≤ sizeLine := by
  have p := kxO_of (I.hok a _ k.at_)
  refine ⟨kx_dict p (rpx_keys I.hok k.sub k.q), ?_⟩
  obtain ⟨_, _, _, _, _, _, _, _, h1, h2, _⟩ := p
  exact ⟨h1, h2⟩
theorem KxAt.is (k : KxAt H a y κ F xs kvs kd nk) (I : Inv X pins σ H s) {b : Addr} (e : y = .ref b) : (nestedKind X.prog X.w).is s.heap nk b :=
  ⟨rp_key I.hok k.sub kd nk y (.ref b) k.key k.ky (by rw [e]; rfl), k.dep⟩
theorem kx_in {Q : Value → Shared → Prop} (hu : A.units + 64 < cLine) (I : Inv X pins σ H s) (k : KxAt H a y κ F xs kvs kd nk) (ry : RelV y u) (h : ∀ s', Inv X pins σ H s' → Q (.bool (tget kvs nk).isSome) s') :
    wpAny (model X.prog X.w) A (compareOp .In u (.ref a)) Q E s := by
  obtain ⟨b, rfl⟩ := k.rf
  cases (show u = Value.ref b from ry)
  obtain ⟨dd, hd, _⟩ := k.dict I
  refine wpAny_in_heap (kx_room (X := X) hu) (k.is I rfl) hd dd ?_
  have e : (atKey xs nk).isSome = (tget kvs nk).isSome := by
    rcases k.q.get nk with ⟨p, v, d, e1, e2, _⟩ | ⟨e1, e2⟩ <;> rw [e1, e2] <;> rfl
  rw [e]
  exact h _ (I.tok _)
theorem kx_nin {Q : Value → Shared → Prop} (hu : A.units + 64 < cLine) (I : Inv X pins σ H s) (k : KxAt H a y κ F xs kvs kd nk) (ry : RelV y u) (h : ∀ s', Inv X pins σ H s' → Q (.bool (!(tget kvs nk).isSome)) s') :
    wpAny (model X.prog X.w) A (compareOp .NotIn u (.ref a)) Q E s := by
  obtain ⟨b, rfl⟩ := k.rf
  cases (show u = Value.ref b from ry)
  obtain ⟨dd, hd, _⟩ := k.dict I
  refine wpAny_notIn_heap (kx_room (X := X) hu) (k.is I rfl) hd dd ?_
  have e : (atKey xs nk).isSome = (tget kvs nk).isSome := by
    rcases k.q.get nk with ⟨p, v, d, e1, e2, _⟩ | ⟨e1, e2⟩ <;> rw [e1, e2] <;> rfl
  rw [e]
  exact h _ (I.tok _)
theorem kx_get {d : D} {Q : Value → Shared → Prop} (hu : A.units + 64 < cLine) (I : Inv X pins σ H s) (k : KxAt H a y κ F xs kvs kd nk) (g : tget kvs nk = some d) (ry : RelV y u) (h : ∀ v w' s', Inv X pins σ H s' → RelV v w' → Rp κ F v d → Q w' s') :
    wpAny (model X.prog X.w) A (getItem (.ref a) u) Q E s := by
  obtain ⟨b, rfl⟩ := k.rf
  cases (show u = Value.ref b from ry)
  obtain ⟨dd, hd, _⟩ := k.dict I
  rcases k.q.get nk with ⟨p, v, d', e1, e2, e3, e4⟩ | ⟨e1, e2⟩
  · rw [g] at e2
    cases e2
    exact wpAny_getItem_heap (kx_room (X := X) hu) (k.is I rfl) dd e1 (h v _ _ (I.tok _) e3 e4)
  · rw [g] at e2; cases e2
theorem kx_put {d : D} {Q : Unit → Shared → Prop} (hu : A.units + 64 < cLine) (I : Inv X pins σ H s) (k : KxAt H a y κ F xs kvs kd nk) (hl : kvs.length < sizeLine) (ry : RelV y u) (rv : RelV v r) (rd : Rp κ F v d)
    (h : ∀ xs' s', Inv X pins σ (upd H a (kxO a xs')) s' → Rpx κ F xs' (tput kvs kd nk d) → Q () s') : wpAny (model X.prog X.w) A (setItem (.ref a) u r) Q E s := by
  obtain ⟨b, rfl⟩ := k.rf
  cases (show u = Value.ref b from ry)
  obtain ⟨dd, hd, hz⟩ := k.dict I
  have q2 := k.q.put k.key k.dep k.ky rv rd
  refine wpAny_setItem_heap (hsz := hz) (kx_room (X := X) hu) (k.is I rfl) dd fun h' dd' hs => h _ _ ?_ q2
  have he : ∃ q, h'.get? a = some q := let ⟨q, _, _, hq, _⟩ := dd'; ⟨q, hq⟩
  refine d_write I (by rw [k.at_]; exact True.intro) hs he (kxO_ok (kx_back dd' hd ?_ q2.keys))
  rw [q2.length]
  unfold tput
  split
  · rw [List.length_map]; omega
  · rw [List.length_append, List.length_singleton]; omega
end
theorem op_inX {X : Cx} (hu : X.A.units + 64 < cLine) : OpR X (compareOp .In) (fun y x H Q => ∃ a κ F xs kvs kd nk, x = .ref a ∧ KxAt H a y κ F xs kvs kd nk ∧ Q (.bl (tget kvs nk).isSome) H) := by
  intro pins s σ H x y v u Q I rx ry h
  obtain ⟨a, κ, F, xs, kvs, kd, nk, rfl, k, q⟩ := h
  cases (show u = Value.ref a from ry)
  exact kx_in hu I k rx fun s3 I3 => ⟨.bl _, H, I3, rfl, q⟩
theorem op_ninX {X : Cx} (hu : X.A.units + 64 < cLine) : OpR X (compareOp .NotIn) (fun y x H Q => ∃ a κ F xs kvs kd nk, x = .ref a ∧ KxAt H a y κ F xs kvs kd nk ∧ Q (.bl (!(tget kvs nk).isSome)) H) := by
  intro pins s σ H x y v u Q I rx ry h
  obtain ⟨a, κ, F, xs, kvs, kd, nk, rfl, k, q⟩ := h
  cases (show u = Value.ref a from ry)
  exact kx_nin hu I k rx fun s3 I3 => ⟨.bl _, H, I3, rfl, q⟩
theorem kx_typeIs {X : Cx} {pins : List (Addr × Obj)} {σ : L2.St} {H : Hp} {s : Shared} {a : Addr} {xs : List Kx} (I : Inv X pins σ H s) (e : H a = some (kxO a xs)) : s.TypeIs (.ref a) "dict" := by
  obtain ⟨o, es, ep, h1, h2, _⟩ := kxO_of (I.hok a _ e)
  exact ⟨o, h1, h2.1⟩
theorem ix_dictX {X : Cx} (hu : X.A.units + 64 < cLine) : IxR X (fun x y H Q => ∃ a κ F xs kvs kd nk d, x = .ref a ∧ KxAt H a y κ F xs kvs kd nk ∧ tget kvs nk = some d ∧ ∀ v, Rp κ F v d → Q v H) := by
  intro value slice pins s σ H x y v u Q I rx ry h hs
  obtain ⟨a, κ, F, xs, kvs, kd, nk, d, rfl, k, g, q⟩ := h
  cases (show v = Value.ref a from rx)
  have hT := kx_typeIs I k.at_
  have go : wpAny (model X.prog X.w) X.A (subscripted slice false (.ref a) u) (fun r s3 => wpAny (model X.prog X.w) X.A (letTemporaryGo value (.ref a) r >>= fun _ => pure r) (EP X pins σ Q) X.xe s3) X.xe s := by
    rw [hs]
    exact wpAny_operating (kx_get hu I k g ry fun v' w' s' I' rw' rp' => wpAny_bind (wpAny_letTemporaryGo (wpAny_pure ⟨v', H, I', rw', q v' rp'⟩)))
  unfold subscriptTail
  refine wpAny_bind ?_
  rw [getitemInPython_of_ne hT.not_modules]
  refine wpAny_bind (wpAny_specialOf hT PySem.F.slot_dict_getitem.lookup ?_)
  first
    | exact wpAny_pure (wpAny_bind go)
    | exact wpAny_bind (wpAny_pure (wpAny_bind go))
    | exact wpAny_bind go
def sTPut (td ty tv : TE) : TS := fun Dn σ H => tv σ H fun v H1 => td σ H1 fun x H2 => ty σ H2 fun y H3 => ∃ a κ F xs kvs kd nk d, x = .ref a ∧ KxAt H3 a y κ F xs kvs kd nk ∧ kvs.length < sizeLine ∧ Rp κ F v d ∧ ∀ xs', Rpx κ F xs' (tput kvs kd nk d) → Dn.nx σ (upd H3 a (kxO a xs'))
theorem ps_tput {X : Cx} {o i value : Expr} {pos' pos : Pos} {td ty tv : TE} (hu : X.A.units + 64 < cLine) (ho : PE X o td) (hi : PE X i ty) (hv : PE X value tv) (hs : swapsWith value (some (.Subscript o i pos')) pos.line X.env = pure false) :
    PS X (.Assign [.Subscript o i pos'] value pos) (sTPut td ty tv) := by
  refine ⟨fun pins s σ H D I h => ?_⟩
  refine wpAny_Assign_Subscript (thn (hv.run pins s σ H _ I h) fun r s1 ⟨v, H1, I1, rv, q1⟩ => thn (ho.run pins s1 σ H1 _ I1 q1) fun u s2 ⟨x, H2, I2, rx, q2⟩ => thn (hi.run pins s2 σ H2 _ I2 q2) fun iv s3 ⟨y, H3, I3, ry, a, κ, F, xs, kvs, kd, nk, d, ex, k, hl, rd, q3⟩ => ?_) hs
  subst ex
  obtain rfl : u = Value.ref a := rx
  exact kx_put hu I3 k hl ry rv rd fun xs' s4 I4 q4 => ⟨σ, _, I4, q3 xs' q4⟩
/-- {} whose keys will be tuples -/
theorem kx_empty {P : Program} {w : World} {H : Hp} (h : Heap) (hb : sysModules < h.objs.size) : ObjOk P w H (h.push { cls := .type "dict", data := .dict #[] }) h.objs.size (kxO h.objs.size []) :=
  kxO_ok ⟨_, #[], 0, Heap.get?_push_size _ rfl, ⟨rfl, rfl, rfl⟩, rfl, rfl, List.nodup_nil, beq_eq_false_iff_ne.mpr (Ne.symm (Nat.ne_of_lt hb)), Nat.zero_le _, fun _ m => by simp at m⟩
theorem pe_dnewX {X : Cx} {pos : Pos} : PE X (.Dict [] [] pos) (fun σ H Q => ∀ p, H p = none → Q (.ref p) (upd H p (kxO p []))) := ⟨fun pins s σ H Q I h =>
  wpAny_Dict_empty ⟨.ref s.heap.objs.size, _, I.laid (a := s.heap.objs.size) (o := kxO s.heap.objs.size []) (t' := s.toks) (fun _ _ q => Heap.get?_push_of_some _ q) (Nat.le_refl _) (kx_empty s.heap I.big), rfl, h _ (I.hok.fresh (Nat.le_refl _))⟩⟩
/-- len -/
theorem call_len_kx {X : Cx} : CallR X (.builtin "len") (fun vs H Q => ∃ a κ F xs kvs, vs = [V.ref a] ∧ Sub F H ∧ H a = some (kxO a xs) ∧ Rpx κ F xs kvs ∧ Q (.int kvs.length) H) := by
  intro pins s σ H xs us Q I r h
  obtain ⟨a, κ, F, xs, kvs, rfl, hs, ha, hq, q⟩ := h
  obtain ⟨u, rfl, ru⟩ := vals1 r
  cases ru
  have p := kxO_of (I.hok a _ ha)
  have dd := kx_dict (P := X.prog) (w := X.w) p (rpx_keys I.hok hs hq)
  obtain ⟨_, _, _, _, _, _, _, _, h1, h2, _⟩ := p
  refine call_len_dictH h1 dd (by rw [sizeLine_eq] at h2; omega) ?_
  exact ⟨.int kvs.length, H, I.tok _, ⟨_, by rw [hq.length]⟩, q⟩
end Dv

/-! Dv, part C: the checker read backwards. -/
namespace Dv
open PySem PySem.Spec PyProof.Rows L2

section
variable {c : Cc} {sc : Scope} {ex : Expr}
theorem mE_var {i : Nat} (m : mE c sc (.var i) ex = true) : ∃ x pos, ex = .Name x pos ∧ rdB c.N sc x i = true := by
  cases ex <;> first | (simp only [mE] at m; exact ⟨_, _, rfl, m⟩) | (simp [mE] at m)
theorem mE_non (m : mE c sc .non ex = true) : ∃ k pos, ex = .Constant .none k pos := by
  unfold mE at m; split at m <;> first | contradiction | (rename_i h; cases h; done) | exact ⟨_, _, rfl⟩
theorem mE_bl {b : Bool} (m : mE c sc (.bl b) ex = true) : ∃ k pos, ex = .Constant (.bool b) k pos := by
  unfold mE at m; split at m <;> first | contradiction | (rename_i h; cases h; simp at m; subst m; exact ⟨_, _, rfl⟩)
theorem mE_int {i : Int} (m : mE c sc (.int i) ex = true) : ∃ k pos, ex = .Constant (.int i) k pos := by
  unfold mE at m; split at m <;> first | contradiction | (rename_i h; cases h; simp at m; subst m; exact ⟨_, _, rfl⟩)
theorem mE_str {s : Str} (m : mE c sc (.str s) ex = true) : ∃ k pos, ex = .Constant (.str s) k pos := by
  unfold mE at m; split at m <;> first | contradiction | (rename_i h; cases h; simp at m; subst m; exact ⟨_, _, rfl⟩)
theorem mE_glb {x : Str} {i : Int} (m : mE c sc (.glb x i) ex = true) : ∃ pos, ex = .Name x pos ∧ glB sc x = true ∧ plainName x = true ∧ (x, i) ∈ c.cs := by
  unfold mE at m; split at m <;> first | contradiction | (rename_i h; cases h; simp only [Bool.and_eq_true, decide_eq_true_eq] at m; obtain ⟨⟨⟨rfl, h1⟩, h2⟩, h3⟩ := m; exact ⟨_, rfl, h1, h2, h3⟩)
theorem mE_bin {op : BOp} {a b : E} (m : mE c sc (.bin op a b) ex = true) : ∃ e o f pos, ex = .BinOp e o f pos ∧ bopB o op = true ∧ mE c sc a e = true ∧ mE c sc b f = true := by
  cases ex <;> first | (simp only [mE, Bool.and_eq_true] at m; exact ⟨_, _, _, _, rfl, m.1.1, m.1.2, m.2⟩) | (simp [mE] at m)
theorem mE_neg {a : E} (m : mE c sc (.neg a) ex = true) : ∃ e pos, ex = .UnaryOp .USub e pos ∧ mE c sc a e = true := by
  unfold mE at m; split at m <;> first | contradiction | (rename_i h; cases h; exact ⟨_, _, rfl, m⟩)
theorem mE_not {a : E} (m : mE c sc (.not a) ex = true) : ∃ e pos, ex = .UnaryOp .Not e pos ∧ mE c sc a e = true := by
  unfold mE at m; split at m <;> first | contradiction | (rename_i h; cases h; exact ⟨_, _, rfl, m⟩)
theorem mE_cmp {op : COp} {a b : E} (m : mE c sc (.cmp op a b) ex = true) : ∃ e o f pos, ex = .Compare e [o] [f] pos ∧ copB o op = true ∧ mE c sc a e = true ∧ mE c sc b f = true := by
  unfold mE at m; split at m <;> first | contradiction | (rename_i h; cases h; simp only [Bool.and_eq_true] at m; exact ⟨_, _, _, _, rfl, m.1.1, m.1.2, m.2⟩)
theorem mE_chn {o p : COp} {a b d : E} (m : mE c sc (.chn o p a b d) ex = true) : ∃ e o' p' f g pos, ex = .Compare e [o', p'] [f, g] pos ∧ copB o' o = true ∧ copB p' p = true ∧ mE c sc a e = true ∧ mE c sc b f = true ∧ mE c sc d g = true := by
  unfold mE at m; split at m <;> first | contradiction | (rename_i h; cases h; simp only [Bool.and_eq_true] at m; obtain ⟨⟨⟨⟨h1, h2⟩, h3⟩, h4⟩, h5⟩ := m; exact ⟨_, _, _, _, _, _, rfl, h1, h2, h3, h4, h5⟩)
theorem mE_and {es : List E} (m : mE c sc (.and es) ex = true) : ∃ vs pos, ex = .BoolOp .And vs pos ∧ mL c sc es vs = true := by
  unfold mE at m; split at m <;> first | contradiction | (rename_i h; cases h; exact ⟨_, _, rfl, m⟩)
theorem mE_or {es : List E} (m : mE c sc (.or es) ex = true) : ∃ vs pos, ex = .BoolOp .Or vs pos ∧ mL c sc es vs = true := by
  unfold mE at m; split at m <;> first | contradiction | (rename_i h; cases h; exact ⟨_, _, rfl, m⟩)
theorem mE_ife {d a b : E} (m : mE c sc (.ife d a b) ex = true) : ∃ e f g pos, ex = .IfExp e f g pos ∧ mE c sc d e = true ∧ mE c sc a f = true ∧ mE c sc b g = true := by
  cases ex <;> first | (simp only [mE, Bool.and_eq_true] at m; exact ⟨_, _, _, _, rfl, m.1.1, m.1.2, m.2⟩) | (simp [mE] at m)
theorem mE_idx {a i : E} (m : mE c sc (.idx a i) ex = true) : ∃ e j pos, ex = .Subscript e j pos ∧ mE c sc a e = true ∧ mE c sc i j = true := by
  unfold mE at m; split at m <;> first | contradiction | (rename_i h; cases h; done) | (simp only [Bool.and_eq_true] at m; rename_i h; cases h; exact ⟨_, _, _, rfl, m.1, m.2⟩) | (simp only [Bool.and_eq_true] at m; rename_i h _; cases h; exact ⟨_, _, _, rfl, m.1, m.2⟩)
theorem mE_slc {a : E} {lo hi : Option E} (m : mE c sc (.slc a lo hi) ex = true) : ∃ e l h p2 pos, ex = .Subscript e (.Slice l h none p2) pos ∧ mE c sc a e = true ∧ mO c sc lo l = true ∧ mO c sc hi h = true := by
  unfold mE at m; split at m <;> first | contradiction | (rename_i h; cases h; done) | (simp only [Bool.and_eq_true] at m; rename_i h; cases h; exact ⟨_, _, _, _, _, rfl, m.1.1, m.1.2, m.2⟩)
theorem mE_tup {es : List E} (m : mE c sc (.tup es) ex = true) : ∃ vs k pos, ex = .Tuple vs k pos ∧ mL c sc es vs = true := by
  cases ex <;> first | (simp only [mE] at m; exact ⟨_, _, _, rfl, m⟩) | (simp [mE] at m)
theorem mE_lst {es : List E} (m : mE c sc (.lst es) ex = true) : ∃ vs pos, ex = .List vs pos ∧ mL c sc es vs = true := by
  cases ex <;> first | (simp only [mE] at m; exact ⟨_, _, rfl, m⟩) | (simp [mE] at m)
theorem mE_dic (m : mE c sc .dic ex = true) : ∃ pos, ex = .Dict [] [] pos := by
  unfold mE at m; split at m <;> first | contradiction | (rename_i h; cases h; done) | exact ⟨_, rfl⟩
theorem mE_fn {f : B1} {a : E} (m : mE c sc (.fn f a) ex = true) : ∃ g e pos, ex = .Call g [e] [] pos ∧ isG sc g (Str.ofString (b1Name f)) = true ∧ mE c sc a e = true := by
  unfold mE at m; split at m <;> first | contradiction | (rename_i h; cases h; done) | (simp only [Bool.and_eq_true] at m; rename_i h; cases h; exact ⟨_, _, _, rfl, m.1, m.2⟩)
theorem mE_isi {a : E} {t : TyN} (m : mE c sc (.isi a t) ex = true) : ∃ g e f pos, ex = .Call g [e, f] [] pos ∧ isG sc g "isinstance" = true ∧ mE c sc a e = true ∧ isG sc f (Str.ofString (tyName t)) = true := by
  unfold mE at m; split at m <;> first | contradiction | (rename_i h; cases h; done) | (simp only [Bool.and_eq_true] at m; rename_i h; cases h; exact ⟨_, _, _, _, rfl, m.1.1, m.1.2, m.2⟩)
theorem mE_isis {a : E} {ts : List TyN} (m : mE c sc (.isis a ts) ex = true) : ∃ g e fs k p2 pos, ex = .Call g [e, .Tuple fs k p2] [] pos ∧ isG sc g "isinstance" = true ∧ mE c sc a e = true ∧ isTys sc fs ts = true := by
  unfold mE at m; split at m <;> first | contradiction | (rename_i h; cases h; done) | (simp only [Bool.and_eq_true] at m; rename_i h; cases h; exact ⟨_, _, _, _, _, _, rfl, m.1.1, m.1.2, m.2⟩)
theorem mE_lrg {a : E} (m : mE c sc (.lrg a) ex = true) : ∃ g h e p2 pos, ex = .Call g [.Call h [e] [] p2] [] pos ∧ isG sc g "list" = true ∧ isG sc h "range" = true ∧ mE c sc a e = true := by
  unfold mE at m; split at m <;> first | contradiction | (rename_i h; cases h; done) | (simp only [Bool.and_eq_true] at m; rename_i h; cases h; exact ⟨_, _, _, _, _, rfl, m.1.1, m.1.2, m.2⟩)
theorem mE_cop {o : Cop} {es : List E} (m : mE c sc (.cop o es) ex = true) : (∃ f a e pos, o = .fld f ∧ es = [a] ∧ ex = .Attribute e f pos ∧ okBase e = true ∧ mE c sc a e = true) ∨
    (∃ cl mn a rs r apos vs pos, o = .mth cl mn ∧ es = a :: rs ∧ ex = .Call (.Attribute r mn apos) vs [] pos ∧ okRecv r = true ∧ (apos.endLine == pos.line) = true ∧ vs.length < 20 ∧ mE c sc a r = true ∧ mL c sc rs vs = true) ∨
    ∃ a g e pos, o = .lstof ∧ es = [a] ∧ ex = .Call g [e] [] pos ∧ isG sc g "list" = true ∧ mE c sc a e = true := by
  unfold mE at m
  split at m <;> first | contradiction | (rename_i h; cases h; done) | skip
  · rename_i h
    cases h
    simp only [Bool.and_eq_true, decide_eq_true_eq] at m
    obtain ⟨⟨rfl, h1⟩, h2⟩ := m
    exact .inl ⟨_, _, _, _, rfl, rfl, rfl, h1, h2⟩
  · rename_i h
    cases h
    simp only [Bool.and_eq_true, decide_eq_true_eq] at m
    obtain ⟨⟨⟨⟨⟨rfl, h1⟩, h4⟩, h5⟩, h2⟩, h3⟩ := m
    exact .inr (.inl ⟨_, _, _, _, _, _, _, _, rfl, rfl, rfl, h1, h4, h5, h2, h3⟩)
  · rename_i h
    cases h
    simp only [Bool.and_eq_true] at m
    exact .inr (.inr ⟨_, _, _, _, rfl, rfl, rfl, m.1, m.2⟩)
theorem mE_dicT (m : mE c sc .dicT ex = true) : ∃ pos, ex = .Dict [] [] pos := by
  unfold mE at m; split at m <;> first | contradiction | (rename_i h; cases h; done) | exact ⟨_, rfl⟩
theorem mE_lset {a : E} (m : mE c sc (.lset a) ex = true) : ∃ g h e p2 pos, ex = .Call g [.Call h [e] [] p2] [] pos ∧ isG sc g "len" = true ∧ isG sc h "set" = true ∧ mE c sc a e = true := by
  unfold mE at m; split at m <;> first | contradiction | (rename_i h; cases h; done) | (simp only [Bool.and_eq_true] at m; rename_i h; cases h; exact ⟨_, _, _, _, _, rfl, m.1.1, m.1.2, m.2⟩)
theorem mE_call {f : Str} {es : List E} (m : mE c sc (.call f es) ex = true) : ∃ g v vs pos, ex = .Call g (v :: vs) [] pos ∧ isG sc g f = true ∧ mL c sc es (v :: vs) = true ∧ isOp f = false := by
  unfold mE at m; split at m <;> first | contradiction | (rename_i h; cases h; done) | (simp only [Bool.and_eq_true, Bool.not_eq_true'] at m; rename_i h; cases h; exact ⟨_, _, _, _, rfl, m.1.1, m.1.2, m.2⟩)
theorem mE_callAt {fs : List Str} {i : E} {es : List E} (m : mE c sc (.callAt fs i es) ex = true) : ∃ ns pl j ps v vs pos, ex = .Call (.Subscript (.List ns pl) j ps) (v :: vs) [] pos ∧ isFs sc fs ns = true ∧ mE c sc i j = true ∧ mL c sc es (v :: vs) = true ∧ fs.all (fun f => !isOp f) = true := by
  unfold mE at m; split at m <;> first | contradiction | (rename_i h; cases h; done) | (simp only [Bool.and_eq_true] at m; rename_i h; cases h; exact ⟨_, _, _, _, _, _, _, rfl, m.1.1.1, m.1.1.2, m.1.2, m.2⟩)
theorem mE_cmpR {x n : E} {i : Nat} {ifs : List E} (m : mE c sc (.cmpR x i n ifs) ex = true) : ∃ elt y p1 g it p2 cs scope pos, ex = .ListComp elt [⟨.Name y p1, .Call g [it] [] p2, cs, 0⟩] scope pos ∧
    isG sc g "range" = true ∧ mE c sc n it = true ∧ L2.blkC c.N sc scope [(y, i)] = true ∧ locB scope y = true ∧ mE c (L2.relS scope sc) x elt = true ∧ mL c (L2.relS scope sc) ifs cs = true ∧ ifs.length ≤ 1 := by
  unfold mE at m; split at m <;> first | contradiction | (rename_i h; cases h; done) | (simp only [Bool.and_eq_true] at m; rename_i h; cases h; obtain ⟨⟨⟨⟨⟨⟨h1, h2⟩, h3⟩, h4⟩, h5⟩, h6⟩, h7⟩ := m; exact ⟨_, _, _, _, _, _, _, _, _, rfl, h1, h2, h3, h4, h5, h6, of_decide_eq_true h7⟩)
theorem mE_cmpL {x src : E} {i : Nat} {ifs : List E} (m : mE c sc (.cmpL x i src ifs) ex = true) : ∃ elt y p1 it cs scope pos, ex = .ListComp elt [⟨.Name y p1, it, cs, 0⟩] scope pos ∧
    mE c sc src it = true ∧ L2.blkC c.N sc scope [(y, i)] = true ∧ locB scope y = true ∧ mE c (L2.relS scope sc) x elt = true ∧ mL c (L2.relS scope sc) ifs cs = true ∧ ifs.length ≤ 1 := by
  unfold mE at m; split at m <;> first | contradiction | (rename_i h; cases h; done) | (simp only [Bool.and_eq_true] at m; rename_i h; cases h; obtain ⟨⟨⟨⟨⟨h2, h3⟩, h4⟩, h5⟩, h6⟩, h7⟩ := m; exact ⟨_, _, _, _, _, _, _, rfl, h2, h3, h4, h5, h6, of_decide_eq_true h7⟩)
theorem mL_nil {vs : List Expr} (m : mL c sc [] vs = true) : vs = [] := by
  cases vs with
  | nil => rfl
  | cons v vs => simp [mL] at m
theorem mL_cons {e : E} {es : List E} {vs : List Expr} (m : mL c sc (e :: es) vs = true) : ∃ v ws, vs = v :: ws ∧ mE c sc e v = true ∧ mL c sc es ws = true := by
  cases vs with
  | nil => simp [mL] at m
  | cons v vs =>
    simp only [mL, Bool.and_eq_true] at m
    exact ⟨_, _, rfl, m.1, m.2⟩
theorem mL_nil_r {es : List E} (m : mL c sc es [] = true) : es = [] := by
  cases es with
  | nil => rfl
  | cons v vs => simp [mL] at m
/-- a checked expression is of none of these kinds -/
def okEx : Expr → Bool
  | .Starred _ _ => false
  | .Set _ _ _ => false
  | .Slice _ _ _ _ => false
  | _ => true
theorem mE_ok {e : E} (m : mE c sc e ex = true) : okEx ex = true := by
  cases ex <;> first | rfl | (exfalso; cases e <;> simp [mE] at m; done)
theorem ok_star {es : List Expr} {env : Env} (h : okEx ex = true) : starEach (ex :: es) env = (false, eval ex env) :: starEach es env := by
  cases ex <;> first | rfl | (simp [okEx] at h)
theorem ok_set {env : Env} (h : okEx ex = true) (x : Value) : foldedSetIterable ex env x = pure x := by
  cases ex <;> first | rfl | (simp [okEx] at h)
theorem ok_mark {o : CmpOp} (h : okEx ex = true) : behindInMarks o ex = false := by
  cases ex <;> first | rfl | (simp [okEx] at h)
theorem ok_ix (h : okEx ex = true) : L2.PlainIx ex := by
  cases ex <;> first | exact (fun _ _ => rfl) | (simp [okEx] at h)
theorem isG_name {g : Expr} {x : Str} (h : isG sc g x = true) : ∃ pos, g = .Name x pos ∧ glB sc x = true ∧ plainName x = true := by
  cases g <;> first | (simp only [isG, Bool.and_eq_true, decide_eq_true_eq] at h; obtain ⟨⟨rfl, h1⟩, h2⟩ := h; exact ⟨_, rfl, h1, h2⟩) | (simp [isG] at h)
theorem plain_all {x : Str} (h : plainName x = true) : (x == ("__debug__" : Str)) = false ∧ (x == ("__classdict__" : Str)) = false ∧ x ≠ "__name__" := by
  simp only [plainName, Bool.and_eq_true, Bool.not_eq_true'] at h
  exact ⟨h.1.1, h.1.2, fun e => by subst e; simp at h⟩
theorem rdB_all {N : List Str} {x : Str} {i : Nat} (h : rdB N sc x i = true) : N[i]? = some x ∧ L2.Vis sc x ∧ plainName x = true := by
  simp only [rdB, Bool.and_eq_true, decide_eq_true_eq] at h
  refine ⟨h.1.1, ?_, h.2⟩
  have v := h.1.2
  unfold visB at v
  unfold L2.Vis
  split at v <;> simp_all
theorem locB_all {x : Str} (h : locB sc x = true) : L2.Loc sc x := by
  unfold locB at h
  unfold L2.Loc
  split at h <;> simp_all
theorem wrB_all {N : List Str} {x : Str} {i : Nat} (h : wrB N sc x i = true) : N[i]? = some x ∧ L2.Loc sc x := by
  simp only [wrB, Bool.and_eq_true, decide_eq_true_eq] at h
  exact ⟨h.1, locB_all h.2⟩
theorem glB_gl {X : Cx} {x : Str} (h : glB X.env.scope x = true) : Gl X x :=
  (show X.env.scope.names.lookup x = some .globalImplicit from of_decide_eq_true h)
end
end Dv

/-! Dv, part D: the context; what is wanted behind an expression; values read backwards; the first expressions. -/
namespace Dv
open PySem PySem.Spec PyProof.Rows L2

structure GI where
  fl : List (Str × Str)
  K : KM
  Φ : Str → List D → Option EO
  ea : Str → Addr
  k : Nat
  cs : List (Str × Int)
  hc : List Str
  ht : List Str
def bnames : List Str := ["len", "range", "int", "str", "tuple", "list", "all", "isinstance", "bool", "dict", "ValueError", "set", "any"]
/-- a def's promise, by its meaning -/
def spOf (κ : KM) (ea : Str → Addr) (φ : List D → Option EO) : Sp := fun vs H Q E => ∃ io F ds r, Sub F H ∧ HM (κ.at io) F H ∧ Rps (κ.at io) F vs ds ∧ φ ds = some r ∧
  match r with
  | .ok k d => ∀ v H' F', Gr F H F' H' → RV (κ.at io) F' H' k d v → Fresh H k v → Q v H'
  | .ex c => ∀ H', Sub H H' → E (.ref (ea c)) none H'
structure CK (G : GI) (W : WX) (X : Cx) : Prop where
  kk : X.K = G.K.K
  nd : X.N.Nodup
  calm : X.calm = true
  room : Room G.k X.A
  bl : ∀ x ∈ bnames, X.mg x = none
  fn : ∀ f ds r, isOp f = false → G.Φ f ds = some r → ∃ fa fd ps, X.mg f = some (.ref fa) ∧ PySem.W.keepIn X.K (.ref fa) = true ∧ Binds X.K fd ps [] ∧ FnOk X.prog X.w X.K X.mg X.base (L2.CX X.prog X.w) G.k fa fd ps (spOf G.K G.ea (G.Φ f))
  gl : ∀ x i, (x, i) ∈ G.cs → ∃ t, X.mg x = some (.int i t)
  tk : Takes X W
  op : ∀ o ds r, (∀ c m, o ≠ .mth c m) → G.Φ (opName o) ds = some r → opD G.fl G.K.mu o ds = some r
  cls : ∀ c f, (c, f) ∈ G.fl → Cls X.K (G.K.ca c) ∧ NoAttr X.K (G.K.ca c) f
  mt : ∀ c m ds r, G.Φ (opName (.mth c m)) ds = some r → rcvD G.K.mu c m ds = true ∧ ∃ fa fd ps, Cls X.K (G.K.ca c) ∧ Meth X.K (G.K.ca c) m fa ∧ Binds X.K fd ps [] ∧ FnOk X.prog X.w X.K X.mg X.base (L2.CX X.prog X.w) G.k fa fd ps (spOf G.K G.ea (G.Φ (opName (.mth c m))))
abbrev cc (G : GI) (X : Cx) : Cc := ⟨X.N, G.cs, G.hc, G.ht⟩
section
variable {G : GI} {W : WX} {X : Cx}
theorem CK.hu (K : CK G W X) : X.A.units + 64 < cLine := K.room.units
theorem CK.hu65 (K : CK G W X) : X.A.units + 65 < cLine := by have := K.room.un; omega
/-- the context of a comprehension's block -/
theorem CK.blk (K : CK G W X) (s : Shared) (H : Hp) (scope : Scope) (C : Addr) (cl : List (Str × Addr)) (fp : List Addr) : CK G (fun _ _ _ _ => False) (X.blk s H scope (compEnvC scope cl C X.env) fp) :=
  ⟨K.kk, K.nd, K.calm, K.room, K.bl, K.fn, K.gl, takes0, K.op, K.cls, K.mt⟩
end

/-- what is wanted behind an expression -/
def PostE (G : GI) (W : WX) (σ : L2.St) (F H : Hp) (r : EO) (Q : VK) : Prop :=
  match r with
  | .ok k d => ∀ v H' F', Gr F H F' H' → RV G.K F' H' k d v → Fresh H k v → Q v H'
  | .ex c => ∀ H', Sub H H' → W (.ref (G.ea c)) none σ H'
def PostT (G : GI) (W : WX) (σ : L2.St) (F H : Hp) (r : EO) (Q : Bool → Hp → Prop) : Prop :=
  match r with
  | .ok .shr (.bool b) => ∀ H' F', Gr F H F' H' → Q b H'
  | .ok _ _ => False
  | .ex c => ∀ H', Sub H H' → W (.ref (G.ea c)) none σ H'
def SndE (G : GI) (e : E) : Prop := ∀ (X : Cx) (W : WX) (ex : Expr), CK G W X → mE (cc G X) X.env.scope e ex = true →
  ∀ (F0 H0 F H : Hp) (st : Ev) (σ : L2.St) (r : EO) (Q : VK), StOK G.K F0 H0 F H st σ → evE G.Φ e st = some r → PostE G W σ F H r Q → SE X ex σ H Q
def SndT (G : GI) (e : E) : Prop := ∀ (X : Cx) (W : WX) (ex : Expr), CK G W X → mE (cc G X) X.env.scope e ex = true →
  ∀ (F0 H0 F H : Hp) (st : Ev) (σ : L2.St) (r : EO) (Q : Bool → Hp → Prop), StOK G.K F0 H0 F H st σ → evE G.Φ e st = some r → PostT G W σ F H r Q → ST X ex σ H Q

section
variable {G : GI} {W : WX} {X : Cx} {σ : L2.St} {F H F' H' F2 H2 F0 H0 : Hp} {r : EO} {Q : VK} {k : Kd} {d : D} {v : V} {st : Ev}
theorem PostE.gr (P : PostE G W σ F H r Q) (g : Gr F H F' H') : PostE G W σ F' H' r Q := by
  cases r with
  | ok k d => exact fun v H2 F2 g2 r f => P v H2 F2 (g.trans g2) r fun e p q => g.hh.none (f e p q)
  | ex c => exact fun H2 s => P H2 (g.hh.trans s)
theorem RV.int {i : Int} (h : RV G.K F H k (.int i) v) : v = .int i := by
  cases k with
  | shr => cases (show Rp G.K F v (.int i) from h); rfl
  | brw => obtain ⟨p, _, _, t, _⟩ := h; exact False.elim t
  | frs => obtain ⟨p, _, _, t, _⟩ := h; exact False.elim t
theorem RV.bool {b : Bool} (h : RV G.K F H k (.bool b) v) : v = .bl b := by
  cases k with
  | shr => cases (show Rp G.K F v (.bool b) from h); rfl
  | brw => obtain ⟨p, _, _, t, _⟩ := h; exact False.elim t
  | frs => obtain ⟨p, _, _, t, _⟩ := h; exact False.elim t
theorem RV.str {b : Str} (h : RV G.K F H k (.str b) v) : v = .str b := by
  cases k with
  | shr => cases (show Rp G.K F v (.str b) from h); rfl
  | brw => obtain ⟨p, _, _, t, _⟩ := h; exact False.elim t
  | frs => obtain ⟨p, _, _, t, _⟩ := h; exact False.elim t
theorem RV.none (h : RV G.K F H k .none v) : v = .non := by
  cases k with
  | shr => cases (show Rp G.K F v .none from h); rfl
  | brw => obtain ⟨p, _, _, t, _⟩ := h; exact False.elim t
  | frs => obtain ⟨p, _, _, t, _⟩ := h; exact False.elim t
theorem RV.tup {xs : List D} (h : RV G.K F H k (.tuple xs) v) : ∃ a vs, v = .ref a ∧ F a = some (.tup vs) ∧ Rps G.K F vs xs := by
  cases k with
  | shr => cases (show Rp G.K F v (.tuple xs) from h) with | tup e r => exact ⟨_, _, rfl, e, r⟩
  | brw => obtain ⟨p, _, _, t, _⟩ := h; exact False.elim t
  | frs => obtain ⟨p, _, _, t, _⟩ := h; exact False.elim t
theorem RV.lst {xs : List D} (h : RV G.K F H k (.list xs) v) (s : Sub F H) : ∃ a vs, v = .ref a ∧ H a = some (.lst vs) ∧ Rps G.K F vs xs := by
  have own : (∃ p, v = .ref p ∧ F p = Option.none ∧ Top G.K F H p (.list xs) ∧ NI G.K k p) → ∃ a vs, v = .ref a ∧ H a = some (.lst vs) ∧ Rps G.K F vs xs := fun ⟨p, e, _, ⟨vs, q, r⟩, _⟩ => ⟨p, vs, e, q, r⟩
  cases k with
  | shr => cases (show Rp G.K F v (.list xs) from h) with | lst e r => exact ⟨_, _, rfl, s _ _ e, r⟩
  | brw => exact own h
  | frs => exact own h
theorem RV.dict {xs : List (D × D)} (h : RV G.K F H k (.dict xs) v) (s : Sub F H) : (∃ a ks, v = .ref a ∧ H a = some (.dK ks) ∧ Rpk G.K F ks xs) ∨ (∃ (a : Addr) (ns : List Int), v = .ref a ∧ PyData.dict xs = scrD ns ∧ SqL G.K F a (ns.map V.int)) ∨ (∃ (a : Addr) (ys : List Kx) (r : List (D × D)), v = .ref a ∧ xs = (.bool true, .none) :: r ∧ H a = some (kxO a ys) ∧ Rpx G.K F ys r) ∨ ∃ (a : Addr) (n : Nat), v = .ref a ∧ PyData.dict xs = refD n ∧ G.K.io n = some a := by
  have own : (∃ p, v = .ref p ∧ F p = Option.none ∧ Top G.K F H p (.dict xs) ∧ NI G.K k p) → (∃ a ks, v = .ref a ∧ H a = some (.dK ks) ∧ Rpk G.K F ks xs) ∨ ∃ (a : Addr) (ys : List Kx) (r : List (D × D)), v = .ref a ∧ xs = (.bool true, .none) :: r ∧ H a = some (kxO a ys) ∧ Rpx G.K F ys r := fun ⟨p, e, _, t, _⟩ => by
    rcases t with ⟨ks, q, r⟩ | ⟨ys, r, e0, q, z⟩
    · exact .inl ⟨p, ks, e, q, r⟩
    · exact .inr ⟨p, ys, r, e, e0, q, z⟩
  cases k with
  | shr =>
    cases (show Rp G.K F v (.dict xs) from h) with
    | dic e r => exact .inl ⟨_, _, rfl, s _ _ e, r⟩
    | scr e => exact .inr (.inl ⟨_, _, rfl, rfl, e⟩)
    | tk e r => exact .inr (.inr (.inl ⟨_, _, _, rfl, rfl, s _ _ e, r⟩))
    | ref e => exact .inr (.inr (.inr ⟨_, _, rfl, rfl, e⟩))
  | brw => exact (own h).imp id fun x => .inr (.inl x)
  | frs => exact (own h).imp id fun x => .inr (.inl x)
theorem RV.dictI {xs : List (D × D)} (h : RV G.K F H k (.dict xs) v) (s : Sub F H) (hr : realD xs = true) : ∃ a ks, v = .ref a ∧ H a = some (.dK ks) ∧ Rpk G.K F ks xs := by
  rcases h.dict s with h | ⟨a, ns, h1, h2, h3⟩ | ⟨a, ys, r, _, h2, _⟩ | ⟨a, n, _, h2, _⟩
  rotate_right
  · simp only [refD, PyData.dict.injEq] at h2
    rw [h2] at hr
    simp [realD, isIntD] at hr
  · exact h
  · simp only [scrD, PyData.dict.injEq] at h2
    rw [h2] at hr
    simp [realD, isIntD] at hr
  · rw [h2] at hr
    simp [realD, isIntD] at hr
theorem tkOf_eq {xs r : List (D × D)} (h : tkOf xs = some r) : xs = (.bool true, .none) :: r := by
  unfold tkOf at h
  split at h
  · cases h; rfl
  · cases h
theorem RV.tk {xs r : List (D × D)} (h : RV G.K F H k (.dict xs) v) (s : Sub F H) (e : tkOf xs = some r) : ∃ (a : Addr) (ys : List Kx), v = .ref a ∧ H a = some (kxO a ys) ∧ Rpx G.K F ys r := by
  have e := tkOf_eq e
  subst e
  rcases h.dict s with ⟨a, ks, _, _, q⟩ | ⟨a, ns, h1, h2, h3⟩ | ⟨a, ys, r', h1, h2, h3, h4⟩ | ⟨a, n, _, h2, _⟩
  rotate_right
  · simp [refD] at h2
  · cases q
  · simp [scrD] at h2
  · cases h2
    exact ⟨a, ys, h1, h3, h4⟩
theorem ints_inj : ∀ {ns ms : List Int}, ns.map PyData.int = ms.map PyData.int → ns = ms
  | [], [], _ => rfl
  | [], _ :: _, e => by simp at e
  | _ :: _, [], e => by simp at e
  | n :: ns, m :: ms, e => by
    simp only [List.map_cons, List.cons.injEq, PyData.int.injEq] at e
    rw [e.1, ints_inj e.2]
theorem RV.scr {xs : List D} (h : RV G.K F H k (.dict [(.none, .list xs)]) v) (s : Sub F H) : ∃ (a : Addr) (ns : List Int), v = .ref a ∧ xs = ns.map PyData.int ∧ SqL G.K F a (ns.map V.int) := by
  rcases h.dict s with ⟨a, ks, _, _, q⟩ | ⟨a, ns, h1, h2, h3⟩ | ⟨a, ys, r', h1, h2, h3, h4⟩ | ⟨a, n, _, h2, _⟩
  rotate_right
  · simp [refD] at h2
  · cases q
  · simp only [scrD, PyData.dict.injEq, List.cons.injEq, Prod.mk.injEq, PyData.list.injEq, true_and, and_true] at h2
    exact ⟨a, ns, h1, h2, h3⟩
  · simp at h2
theorem RV.dp {K : PySem.W.Frag} (h : RV G.K F H k d v) (s : Sub F H) (c : d.canLay0 = true) : Dp K H v d := by
  cases d with
  | none => rw [h.none]; exact .non
  | bool b => rw [h.bool]; exact .bl b
  | int i => rw [h.int]; exact .int i
  | str x => rw [h.str]; exact .str x
  | list xs =>
    obtain ⟨a, vs, rfl, e, q⟩ := h.lst s
    exact .lst (.inl (.inl e)) (Rps.dp s _ _ (by simpa [PyData.canLay0] using c) q)
  | tuple xs =>
    obtain ⟨a, vs, rfl, e, q⟩ := h.tup
    exact .tup (.inl (.inl (s _ _ e))) (Rps.dp s _ _ (by simpa [PyData.canLay0] using c) q)
  | dict kvs => simp [PyData.canLay0] at c
theorem RV.isN (h : RV G.K F H k d v) : decide (v = .non) = isNone d := by
  cases d with
  | none => rw [h.none]; rfl
  | bool b => rw [h.bool]; rfl
  | int i => rw [h.int]; rfl
  | str x => rw [h.str]; rfl
  | tuple xs => obtain ⟨a, vs, rfl, _⟩ := h.tup; rfl
  | list xs =>
    cases k with
    | shr => cases (show Rp G.K F v (.list xs) from h); rfl
    | brw => obtain ⟨p, rfl, _⟩ := h; rfl
    | frs => obtain ⟨p, rfl, _⟩ := h; rfl
  | dict xs =>
    cases k with
    | shr => cases (show Rp G.K F v (.dict xs) from h) <;> rfl
    | brw => obtain ⟨p, rfl, _⟩ := h; rfl
    | frs => obtain ⟨p, rfl, _⟩ := h; rfl
theorem sizeL {n : Nat} (h : n ≤ lim) : n ≤ sizeLine := Nat.le_trans h (by rw [sizeLine_eq]; decide)
/-- a made list, tuple, number -/
theorem post_lst {vs : List V} {ds : List D} (P : PostE G W σ F H (.ok .frs (.list ds)) Q) (g : Gr F H F2 H2) (q : Rps G.K F2 vs ds) {p : Addr} (n : H2 p = Option.none) : Q (.ref p) (upd H2 p (.lst vs)) :=
  P _ _ F2 (g.trans (Gr.lay g.fh n _)) ⟨p, rfl, g.fh.none n, ⟨vs, upd_same, q⟩, fun e => nomatch e⟩ fun _ p' e => by cases e; exact g.hh.none n
theorem post_tup {vs : List V} {ds : List D} (P : PostE G W σ F H (.ok .shr (.tuple ds)) Q) (g : Gr F H F2 H2) (q : Rps G.K F2 vs ds) {p : Addr} (n : H2 p = Option.none) : Q (.ref p) (upd H2 p (.tup vs)) := by
  have g3 := Gr.new g.fh n (.tup vs)
  exact P _ _ (upd F2 p (.tup vs)) (g.trans g3) (show Rp G.K _ _ _ from .tup upd_same (q.to g3.ff)) fun e => nomatch e
theorem post_shr (P : PostE G W σ F H (.ok .shr d) Q) (g : Gr F H F2 H2) (q : Rp G.K F2 v d) : Q v H2 := P _ _ F2 g q fun e => nomatch e
theorem bindV_some {r : Option EO} {f : Kd → D → Option EO} {x : EO} (h : bindV r f = some x) : (∃ k d, r = some (.ok k d) ∧ f k d = some x) ∨ ∃ c, r = some (.ex c) ∧ x = .ex c := by
  unfold bindV at h
  split at h
  · exact .inl ⟨_, _, rfl, h⟩
  · cases h; exact .inr ⟨_, rfl, rfl⟩
  · cases h
theorem boolV_some {r : Option EO} {f : Bool → Option EO} {x : EO} (h : boolV r f = some x) : (∃ b, r = some (.ok .shr (.bool b)) ∧ f b = some x) ∨ ∃ c, r = some (.ex c) ∧ x = .ex c := by
  unfold boolV at h
  split at h
  · exact .inl ⟨_, rfl, h⟩
  · cases h; exact .inr ⟨_, rfl, rfl⟩
  · cases h
theorem bindA_some {r : Option AO} {f : List (Kd × D) → Option EO} {x : EO} (h : bindA r f = some x) : (∃ xs, r = some (.ok xs) ∧ f xs = some x) ∨ ∃ c, r = some (.ex c) ∧ x = .ex c := by
  unfold bindA at h
  split at h
  · exact .inl ⟨_, rfl, h⟩
  · cases h; exact .inr ⟨_, rfl, rfl⟩
  · cases h
/-- one value, then what follows -/
theorem one {a : E} {e : Expr} (ha : SndE G a) (K : CK G W X) (m : mE (cc G X) X.env.scope a e = true) (S : StOK G.K F0 H0 F H st σ) {g : Kd → D → Option EO} (ev : bindV (evE G.Φ a st) g = some r) (P : PostE G W σ F H r Q)
    {R : VK} (hk : ∀ k x v H1 F1, evE G.Φ a st = some (.ok k x) → g k x = some r → Gr F H F1 H1 → StOK G.K F0 H0 F1 H1 st σ → RV G.K F1 H1 k x v → Fresh H k v → R v H1) : SE X e σ H R := by
  rcases bindV_some ev with ⟨k, d, e1, e2⟩ | ⟨c, e1, rfl⟩
  · exact ha X W e K m F0 H0 F H st σ _ _ S e1 fun v H1 F1 g1 r1 f1 => hk k d v H1 F1 e1 e2 g1 (S.mono g1) r1 f1
  · exact ha X W e K m F0 H0 F H st σ _ _ S e1 P
theorem two {a b : E} {e f : Expr} (ha : SndE G a) (hb : SndE G b) (K : CK G W X) (ma : mE (cc G X) X.env.scope a e = true) (mb : mE (cc G X) X.env.scope b f = true) (S : StOK G.K F0 H0 F H st σ) {g : Kd → D → Kd → D → Option EO}
    (ev : bindV (evE G.Φ a st) (fun k x => bindV (evE G.Φ b st) fun j y => g k x j y) = some r) (P : PostE G W σ F H r Q)
    {R : V → V → Hp → Prop} (hk : ∀ k x j y v u H2 F2, g k x j y = some r → Gr F H F2 H2 → StOK G.K F0 H0 F2 H2 st σ → RV G.K F2 H2 k x v → RV G.K F2 H2 j y u → R v u H2) :
    SE X e σ H fun v H1 => SE X f σ H1 fun u H2 => R v u H2 := by
  refine one ha K ma S ev P fun k x v H1 F1 e1 e2 g1 S1 r1 f1 => ?_
  refine one hb K mb S1 e2 (P.gr g1) fun j y u H2 F2 e3 e4 g2 S2 r2 f2 => ?_
  exact hk k x j y v u H2 F2 e4 (g1.trans g2) S2 (r1.gr g2) r2
end

/-! ### names and constants -/
section
variable {G : GI}
theorem snd_var (i : Nat) : SndE G (.var i) := by
  intro X W ex K m F0 H0 F H st σ r Q S ev P
  obtain ⟨x, pos, rfl, hb⟩ := mE_var m
  obtain ⟨hN, hv, hp⟩ := rdB_all hb
  obtain ⟨h1, h2, h3⟩ := plain_all hp
  refine se_of (pe_var (i := i) hN hv h1 h2) ?_
  simp only [evE] at ev
  split at ev
  · rename_i d e
    cases ev
    obtain ⟨p, k1, k2, k3, k4⟩ := S.own i d e
    exact ⟨_, k1, P _ _ F (Gr.refl S.fh) ⟨p, rfl, k2, k4, fun _ => S.ocl i d p e k1⟩ fun e => nomatch e⟩
  · rename_i d e
    cases ev
    obtain ⟨v, k1, k2⟩ := S.shr i d e
    exact ⟨_, k1, P _ _ F (Gr.refl S.fh) k2 fun e => nomatch e⟩
  · cases ev
theorem snd_non : SndE G .non := by
  intro X W ex K m F0 H0 F H st σ r Q S ev P
  obtain ⟨k, pos, rfl⟩ := mE_non m
  simp only [evE] at ev; cases ev
  exact se_of pe_non (post_shr P (Gr.refl S.fh) .non)
theorem snd_bl (b : Bool) : SndE G (.bl b) := by
  intro X W ex K m F0 H0 F H st σ r Q S ev P
  obtain ⟨k, pos, rfl⟩ := mE_bl m
  simp only [evE] at ev; cases ev
  exact se_of pe_bl (post_shr P (Gr.refl S.fh) (.bl b))
theorem snd_int (i : Int) : SndE G (.int i) := by
  intro X W ex K m F0 H0 F H st σ r Q S ev P
  obtain ⟨k, pos, rfl⟩ := mE_int m
  simp only [evE] at ev; cases ev
  exact se_of pe_int (post_shr P (Gr.refl S.fh) (.int i))
theorem snd_str (x : Str) : SndE G (.str x) := by
  intro X W ex K m F0 H0 F H st σ r Q S ev P
  obtain ⟨k, pos, rfl⟩ := mE_str m
  simp only [evE] at ev; cases ev
  exact se_of pe_str (post_shr P (Gr.refl S.fh) (.str x))
theorem snd_glb (x : Str) (i : Int) : SndE G (.glb x i) := by
  intro X W ex K m F0 H0 F H st σ r Q S ev P
  obtain ⟨pos, rfl, hg, hp, hm⟩ := mE_glb m
  obtain ⟨h1, h2, h3⟩ := plain_all hp
  obtain ⟨t, ht⟩ := K.gl x i hm
  simp only [evE] at ev; cases ev
  exact se_of (pe_glob (v := .int i) (glB_gl hg) ht ⟨_, rfl⟩ h1) (post_shr P (Gr.refl S.fh) (.int i))
end
end Dv

/-! Dv, part E: operators, comparisons, and | or | not, conditional expressions. -/
namespace Dv
open PySem PySem.Spec PyProof.Rows L2

section
variable {G : GI}
theorem leaf_bin {W : WX} {X : Cx} {σ : L2.St} {F H F2 H2 : Hp} {r : EO} {Q : VK} {k j : Kd} {x y : D} {v u : V} {op : BOp} {o : Operator} (K : CK G W X) (hb : bopB o op = true) (e : binD op x y = some r) (P : PostE G W σ F H r Q) (g : Gr F H F2 H2)
    (r1 : RV G.K F2 H2 k x v) (r2 : RV G.K F2 H2 j y u) : OSem X (binaryOp o) v u H2 Q := by
  unfold binD at e
  split at e
  · cases o <;> first | (simp [bopB] at hb; done) | skip
    cases e
    rw [r1.int, r2.int]
    exact osem_of op_add ⟨_, _, rfl, rfl, post_shr P g (.int _)⟩
  · cases o <;> first | (simp [bopB] at hb; done) | skip
    rename_i xs ys
    split at e
    · rename_i hz
      cases e
      obtain ⟨a, vs, rfl, ea, qa⟩ := r1.tup
      obtain ⟨b, ws, rfl, eb, qb⟩ := r2.tup
      have la := qa.length
      have lb := qb.length
      refine osem_of op_catA ⟨a, b, vs, ws, rfl, rfl, SqT.of (g.fh _ _ ea), SqT.of (g.fh _ _ eb), sizeL (by rw [la, lb]; exact hz), fun z => ?_, fun _ z => ?_, fun _ _ p n => post_tup P g (qa.append qb) n⟩
      · subst z
        have : xs = [] := List.eq_nil_of_length_eq_zero (by rw [← la]; rfl)
        subst this
        exact post_shr P g (by simpa using (Rp.tup eb qb))
      · subst z
        have : ys = [] := List.eq_nil_of_length_eq_zero (by rw [← lb]; rfl)
        subst this
        exact post_shr P g (by simpa using (Rp.tup ea qa))
    · cases e
  · cases o <;> first | (simp [bopB] at hb; done) | skip
    split at e
    · rename_i hz
      cases e
      obtain ⟨a, vs, rfl, ea, qa⟩ := r1.lst g.fh
      obtain ⟨b, ws, rfl, eb, qb⟩ := r2.lst g.fh
      exact osem_of op_cat ⟨a, b, vs, ws, rfl, rfl, ea, eb, sizeL (by rw [qa.length, qb.length]; exact hz), fun p n => post_lst P g (qa.append qb) n⟩
    · cases e
  · cases o <;> first | (simp [bopB] at hb; done) | skip
    cases e
    rw [r1.int, r2.int]
    exact osem_of op_sub ⟨_, _, rfl, rfl, post_shr P g (.int _)⟩
  · cases o <;> first | (simp [bopB] at hb; done) | skip
    split at e
    · rename_i hz
      cases e
      rw [r1.int, r2.int]
      exact osem_of op_mul ⟨_, _, rfl, rfl, hz, post_shr P g (.int _)⟩
    · cases e
  · cases o <;> first | (simp [bopB] at hb; done) | skip
    split at e
    · rename_i hz
      cases e
      obtain ⟨a, vs, rfl, ea, qa⟩ := r1.lst g.fh
      rw [r2.int]
      exact osem_of op_rep ⟨a, _, vs, rfl, rfl, ea, by omega, by omega, sizeL (by rw [qa.length]; exact hz.2.2), fun p n => post_lst P g (qa.rep _) n⟩
    · cases e
  · cases o <;> first | (simp [bopB] at hb; done) | skip
    split at e
    · rename_i hz
      cases e
      rw [r1.int, r2.int]
      exact osem_of op_fdiv ⟨_, _, rfl, rfl, hz, post_shr P g (.int _)⟩
    · cases e
  · cases o <;> first | (simp [bopB] at hb; done) | skip
    split at e
    · rename_i hz
      cases e
      rw [r1.int, r2.int]
      exact osem_of op_mod ⟨_, _, rfl, rfl, hz, post_shr P g (.int _)⟩
    · cases e
  · cases o <;> first | (simp [bopB] at hb; done) | skip
    split at e
    · rename_i hz
      cases e
      rw [r1.int, r2.int]
      exact osem_of op_pow ⟨_, _, rfl, rfl, hz, post_shr P g (.int _)⟩
    · cases e
  · cases e
theorem snd_bin {op : BOp} {a b : E} (ha : SndE G a) (hb : SndE G b) : SndE G (.bin op a b) := by
  intro X W ex K m F0 H0 F H st σ r Q S ev P
  obtain ⟨e, o, f, pos, rfl, ho, m1, m2⟩ := mE_bin m
  refine se_of (pe_op op_sem pe_se pe_se) ?_
  rw [evE] at ev
  exact two (R := fun v u H2 => OSem X (binaryOp o) v u H2 Q) ha hb K m1 m2 S ev P fun k x j y v u H2 F2 e g S2 r1 r2 => leaf_bin K ho e P g r1 r2
theorem snd_neg {a : E} (ha : SndE G a) : SndE G (.neg a) := by
  intro X W ex K m F0 H0 F H st σ r Q S ev P
  obtain ⟨e, pos, rfl, m1⟩ := mE_neg m
  refine se_of (pe_un un_neg pe_se) ?_
  rw [evE] at ev
  refine one ha K m1 S ev P fun k x v H1 F1 e1 e2 g S1 r1 f1 => ?_
  split at e2
  · cases e2
    exact ⟨_, r1.int, post_shr P g (.int _)⟩
  · cases e2

/-! ### comparisons -/
theorem flat_V {F H : Hp} {k : Kd} {x : D} {v : V} (r : RV G.K F H k x v) (f : flat x = true) : flatV v = true := by
  cases x with
  | none => rw [r.none]; rfl
  | bool b => rw [r.bool]; rfl
  | int i => rw [r.int]; rfl
  | str s => rw [r.str]; rfl
  | _ => simp [flat] at f
theorem eqv_V {F H : Hp} {k j : Kd} {x y : D} {v u : V} (r : RV G.K F H k x v) (q : RV G.K F H j y u) (f : flat x = true) (g : flat y = true) : eqV v u = PyData.eqv x y := by
  cases x with
  | none =>
    rw [r.none]
    cases y with
    | none => rw [q.none]; simp [eqV, PyData.eqv]
    | bool b => rw [q.bool]; simp [eqV, PyData.eqv]
    | int i => rw [q.int]; simp [eqV, PyData.eqv]
    | str s => rw [q.str]; simp [eqV, PyData.eqv]
    | _ => simp [flat] at g
  | bool b' =>
    rw [r.bool]
    cases y with
    | none => rw [q.none]; simp [eqV, PyData.eqv]
    | bool b => rw [q.bool]; simp [eqV, PyData.eqv]
    | int i => rw [q.int]; simp [eqV, PyData.eqv]
    | str s => rw [q.str]; simp [eqV, PyData.eqv]
    | _ => simp [flat] at g
  | int i' =>
    rw [r.int]
    cases y with
    | none => rw [q.none]; simp [eqV, PyData.eqv]
    | bool b => rw [q.bool]; simp [eqV, PyData.eqv]
    | int i => rw [q.int]; simp [eqV, PyData.eqv]
    | str s => rw [q.str]; simp [eqV, PyData.eqv]
    | _ => simp [flat] at g
  | str s' =>
    rw [r.str]
    cases y with
    | none => rw [q.none]; simp [eqV, PyData.eqv]
    | bool b => rw [q.bool]; simp [eqV, PyData.eqv]
    | int i => rw [q.int]; simp [eqV, PyData.eqv]
    | str s => rw [q.str]; simp [eqV, PyData.eqv]
    | _ => simp [flat] at g
  | _ => simp [flat] at f
theorem all_flat {F H : Hp} : ∀ {vs : List V} {ys : List D}, Rps G.K F vs ys → ys.all flat = true → vs.all flatV = true
  | _, _, .nil, _ => rfl
  | _, _, .cons a r, f => by
    rw [List.all_cons, Bool.and_eq_true] at f
    rw [List.all_cons, flat_V (H := H) (k := .shr) a f.1, all_flat (H := H) r f.2]
    rfl
theorem any_eqv {F H : Hp} {k : Kd} {x : D} {v : V} (r : RV G.K F H k x v) (fx : flat x = true) : ∀ {vs : List V} {ys : List D}, Rps G.K F vs ys → ys.all flat = true → inV v vs = ys.any fun z => PyData.eqv z x
  | _, _, .nil, _ => rfl
  | _, _, .cons a q, f => by
    rw [List.all_cons, Bool.and_eq_true] at f
    have ih := any_eqv r fx q f.2
    unfold inV at ih ⊢
    rw [List.any_cons, List.any_cons, ih, eqv_V (j := k) (k := .shr) a r f.1 fx]
theorem op_inK {X : Cx} (hu : X.A.units + 64 < cLine) : OpR X (compareOp .In) (fun y x H Q => ∃ a o, x = .ref a ∧ DGet H a y o ∧ Q (.bl o.isSome) H) := by
  intro pins s σ H x y v u Q I rx ry h
  obtain ⟨a, o, rfl, g, q⟩ := h
  cases (show u = Value.ref a from ry)
  exact d_in (by omega) I g rx fun s3 I3 => ⟨.bl o.isSome, H, I3, rfl, q⟩
theorem op_ninK {X : Cx} (hu : X.A.units + 64 < cLine) : OpR X (compareOp .NotIn) (fun y x H Q => ∃ a o, x = .ref a ∧ DGet H a y o ∧ Q (.bl (!o.isSome)) H) := by
  intro pins s σ H x y v u Q I rx ry h
  obtain ⟨a, o, rfl, g, q⟩ := h
  cases (show u = Value.ref a from ry)
  exact d_notIn (by omega) I g rx fun s3 I3 => ⟨.bl (!o.isSome), H, I3, rfl, q⟩
theorem leaf_cmp {W : WX} {X : Cx} {F2 H2 : Hp} {Q : VK} {k j : Kd} {x y : D} {v u : V} {op : COp} {o : CmpOp} {b : Bool} (K : CK G W X) (hb : copB o op = true) (e : cmpD op x y = some b) (s : Sub F2 H2) (P : Q (.bl b) H2)
    (r1 : RV G.K F2 H2 k x v) (r2 : RV G.K F2 H2 j y u) : OSem X (compareOp o) v u H2 Q := by
  unfold cmpD at e
  split at e
  · cases o <;> first | (simp [copB] at hb; done) | skip
    cases e; rw [r1.int, r2.int]; exact osem_of op_lt ⟨_, _, rfl, rfl, P⟩
  · cases o <;> first | (simp [copB] at hb; done) | skip
    cases e; rw [r1.int, r2.int]; exact osem_of op_le ⟨_, _, rfl, rfl, P⟩
  · cases o <;> first | (simp [copB] at hb; done) | skip
    cases e; rw [r1.int, r2.int]; exact osem_of op_gt ⟨_, _, rfl, rfl, P⟩
  · cases o <;> first | (simp [copB] at hb; done) | skip
    cases e; rw [r1.int, r2.int]; exact osem_of op_ge ⟨_, _, rfl, rfl, P⟩
  · cases o <;> first | (simp [copB] at hb; done) | skip
    split at e
    · rename_i h
      cases e
      exact osem_of (op_eqD K.hu) ⟨_, _, r1.dp s (SeqAt.canLay_of_shaped h.1), r2.dp s (SeqAt.canLay_of_shaped h.2), h.1, h.2, P⟩
    · cases e
  · cases o <;> first | (simp [copB] at hb; done) | skip
    split at e
    · rename_i h
      cases e
      exact osem_of (op_neD K.hu) ⟨_, _, r1.dp s (SeqAt.canLay_of_shaped h.1), r2.dp s (SeqAt.canLay_of_shaped h.2), h.1, h.2, P⟩
    · cases e
  · cases o <;> first | (simp [copB] at hb; done) | skip
    cases e
    rw [← r1.isN] at P
    exact osem_of op_isN ⟨r2.none, P⟩
  · cases o <;> first | (simp [copB] at hb; done) | skip
    cases e
    rw [← r1.isN] at P
    exact osem_of op_notN ⟨r2.none, P⟩
  · cases o <;> first | (simp [copB] at hb; done) | skip
    split at e
    · rename_i h
      cases e
      exact osem_of (op_inD K.hu65) ⟨_, _, r1.dp s (SeqAt.canLay_of_shaped h.1), r2.dp s (SeqAt.canLay_of_shaped h.2), h.1, h.2, P⟩
    · cases e
  · cases o <;> first | (simp [copB] at hb; done) | skip
    split at e
    · rename_i h
      cases e
      exact osem_of (op_notInD K.hu65) ⟨_, _, r1.dp s (SeqAt.canLay_of_shaped h.1), r2.dp s (SeqAt.canLay_of_shaped h.2), h.1, h.2, P⟩
    · cases e
  · cases o <;> first | (simp [copB] at hb; done) | skip
    split at e
    · rename_i h
      cases e
      obtain ⟨a, vs, rfl, ea, qa⟩ := r2.tup
      rw [← any_eqv r1 h.1 qa h.2] at P
      exact osem_of op_in_seq ⟨a, vs, rfl, .inr (SqT.of (s _ _ ea)), flat_V r1 h.1, all_flat (H := H2) qa h.2, P⟩
    · cases e
  · cases o <;> first | (simp [copB] at hb; done) | skip
    split at e
    · rename_i h
      cases e
      obtain ⟨a, vs, rfl, ea, qa⟩ := r2.tup
      rw [← any_eqv r1 h.1 qa h.2] at P
      exact osem_of op_notIn_seq ⟨a, vs, rfl, .inr (SqT.of (s _ _ ea)), flat_V r1 h.1, all_flat (H := H2) qa h.2, P⟩
    · cases e
  · cases o <;> first | (simp [copB] at hb; done) | skip
    rename_i i kvs
    split at e
    · rename_i h
      cases e
      obtain ⟨a, ks, rfl, ea, qa⟩ := r2.dictI s h
      rw [r1.int]
      have g := DGet.k (k := Sum.inl i) ea
      rcases qa.val i with ⟨w, d, e1, e2, _⟩ | ⟨e1, e2⟩
      · rw [e1] at g; rw [e2] at P
        exact osem_of (op_inK K.hu) ⟨a, _, rfl, g, P⟩
      · rw [e1] at g; rw [e2] at P
        exact osem_of (op_inK K.hu) ⟨a, _, rfl, g, P⟩
    · cases e
  · cases o <;> first | (simp [copB] at hb; done) | skip
    rename_i i kvs
    split at e
    · rename_i h
      cases e
      obtain ⟨a, ks, rfl, ea, qa⟩ := r2.dictI s h
      rw [r1.int]
      have g := DGet.k (k := Sum.inl i) ea
      rcases qa.val i with ⟨w, d, e1, e2, _⟩ | ⟨e1, e2⟩
      · rw [e1] at g; rw [e2] at P
        exact osem_of (op_ninK K.hu) ⟨a, _, rfl, g, P⟩
      · rw [e1] at g; rw [e2] at P
        exact osem_of (op_ninK K.hu) ⟨a, _, rfl, g, P⟩
    · cases e
  · cases o <;> first | (simp [copB] at hb; done) | skip
    split at e
    · rename_i xs kvs r nk h1 h2
      cases e
      obtain ⟨a, ys, rfl, ea, qa⟩ := r2.tk s h1
      obtain ⟨b, vs, rfl, eb, qb⟩ := r1.tup
      obtain ⟨h3, h4⟩ := tkey_all h2
      exact osem_of (op_inX K.hu) ⟨a, G.K, F2, ys, r, _, nk, rfl, ⟨s, ea, qa, h3, h4, .tup eb qb, ⟨b, rfl⟩⟩, P⟩
    · cases e
  · cases o <;> first | (simp [copB] at hb; done) | skip
    split at e
    · rename_i xs kvs r nk h1 h2
      cases e
      obtain ⟨a, ys, rfl, ea, qa⟩ := r2.tk s h1
      obtain ⟨b, vs, rfl, eb, qb⟩ := r1.tup
      obtain ⟨h3, h4⟩ := tkey_all h2
      exact osem_of (op_ninX K.hu) ⟨a, G.K, F2, ys, r, _, nk, rfl, ⟨s, ea, qa, h3, h4, .tup eb qb, ⟨b, rfl⟩⟩, P⟩
    · cases e
  · cases e
theorem map_bool {o : Option Bool} {r : EO} (e : (o.map fun b => EO.ok .shr (.bool b)) = some r) : ∃ b, o = some b ∧ r = .ok .shr (.bool b) := by
  cases o with
  | none => cases e
  | some b => cases e; exact ⟨b, rfl, rfl⟩
/-- the reading of a comparison: PostE asked of the bools alone -/
theorem read_cmp {W : WX} {X : Cx} {op : COp} {a b : E} {e f : Expr} {o : CmpOp} (ha : SndE G a) (hb : SndE G b) (K : CK G W X) (ho : copB o op = true) (m1 : mE (cc G X) X.env.scope a e = true) (m2 : mE (cc G X) X.env.scope b f = true)
    {F0 H0 F H : Hp} {st : Ev} {σ : L2.St} {r : EO} {Q : VK} (S : StOK G.K F0 H0 F H st σ) (ev : evE G.Φ (.cmp op a b) st = some r) (P : PostE G W σ F H r Q) : tOp (OSem X (compareOp o)) (SE X e) (SE X f) σ H Q := by
  rw [evE] at ev
  refine two (R := fun v u H2 => OSem X (compareOp o) v u H2 Q) ha hb K m1 m2 S ev P fun k x j y v u H2 F2 e g S2 r1 r2 => ?_
  obtain ⟨b, e1, rfl⟩ := map_bool e
  exact leaf_cmp K ho e1 g.fh (post_shr P g (.bl b)) r1 r2
theorem snd_cmp {op : COp} {a b : E} (ha : SndE G a) (hb : SndE G b) : SndE G (.cmp op a b) := by
  intro X W ex K m F0 H0 F H st σ r Q S ev P
  obtain ⟨e, o, f, pos, rfl, ho, m1, m2⟩ := mE_cmp m
  exact se_of (pe_cmpR op_sem pe_se pe_se (ok_mark (mE_ok m2))) (read_cmp ha hb K ho m1 m2 S ev P)
/-- what is wanted of a test, as of an expression -/
theorem PostT.toE {W : WX} {σ : L2.St} {F H : Hp} {r : EO} {Q : Bool → Hp → Prop} (P : PostT G W σ F H r Q) : PostE G W σ F H r fun x H' => ∃ k, x = .bl k ∧ Q k H' := by
  cases r with
  | ex c => exact P
  | ok k d =>
    intro v H' F' g r f
    cases k with
    | shr =>
      cases d with
      | bool b => exact ⟨b, r.bool, P H' F' g⟩
      | _ => exact False.elim P
    | brw => cases d <;> exact False.elim P
    | frs => cases d <;> exact False.elim P
theorem snt_cmp {op : COp} {a b : E} (ha : SndE G a) (hb : SndE G b) : SndT G (.cmp op a b) := by
  intro X W ex K m F0 H0 F H st σ r Q S ev P
  obtain ⟨e, o, f, pos, rfl, ho, m1, m2⟩ := mE_cmp m
  exact st_of (pt_cmpR op_sem pe_se pe_se (ok_mark (mE_ok m2))) (read_cmp ha hb K ho m1 m2 S ev P.toE)
theorem read_chn {W : WX} {X : Cx} {op op' : COp} {a b d : E} {e f g : Expr} {o o' : CmpOp} (ha : SndE G a) (hb : SndE G b) (hd : SndE G d) (K : CK G W X) (ho : copB o op = true) (ho' : copB o' op' = true) (m1 : mE (cc G X) X.env.scope a e = true) (m2 : mE (cc G X) X.env.scope b f = true) (m3 : mE (cc G X) X.env.scope d g = true)
    {F0 H0 F H : Hp} {st : Ev} {σ : L2.St} {r : EO} {Q : VK} (S : StOK G.K F0 H0 F H st σ) (ev : evE G.Φ (.chn op op' a b d) st = some r) (P : PostE G W σ F H r Q) :
    tChain (OSem X (compareOp o)) (OSem X (compareOp o')) (SE X e) (SE X f) (SE X g) σ H Q := by
  rw [evE] at ev
  refine two (R := fun v u H2 => OSem X (compareOp o) v u H2 fun z H3 => ∃ k, z = .bl k ∧ (if k = true then SE X g σ H3 fun w' H4 => OSem X (compareOp o') u w' H4 Q else Q (.bl false) H3)) ha hb K m1 m2 S ev P fun k x j y v u H2 F2 e1 g1 S1 r1 r2 => ?_
  split at e1
  · rename_i c1
    refine leaf_cmp K ho c1 g1.fh ⟨true, rfl, ?_⟩ r1 r2
    rw [if_pos rfl]
    refine one hd K m3 S1 e1 (P.gr g1) fun k3 z w3 H3 F3 e2 e3 g2 S2 r3 f3 => ?_
    obtain ⟨b, e4, rfl⟩ := map_bool e3
    exact leaf_cmp K ho' e4 g2.fh (post_shr P (g1.trans g2) (.bl b)) (r2.gr g2) r3
  · rename_i c1
    cases e1
    refine leaf_cmp K ho c1 g1.fh ⟨false, rfl, ?_⟩ r1 r2
    rw [if_neg Bool.false_ne_true]
    exact post_shr P g1 (.bl false)
  · cases e1
theorem last_mark {o o' : CmpOp} {f g : Expr} (h : okEx g = true) : lastMarks [o, o'] [f, g] = false := by
  show behindInMarks o' g = false
  exact ok_mark h
theorem snd_chn {op op' : COp} {a b d : E} (ha : SndE G a) (hb : SndE G b) (hd : SndE G d) : SndE G (.chn op op' a b d) := by
  intro X W ex K m F0 H0 F H st σ r Q S ev P
  obtain ⟨e, o, o', f, g, pos, rfl, ho, ho', m1, m2, m3⟩ := mE_chn m
  exact se_of (pe_chain op_sem op_sem pe_se pe_se pe_se (last_mark (mE_ok m3))) (read_chn ha hb hd K ho ho' m1 m2 m3 S ev P)
theorem snt_chn {op op' : COp} {a b d : E} (ha : SndE G a) (hb : SndE G b) (hd : SndE G d) : SndT G (.chn op op' a b d) := by
  intro X W ex K m F0 H0 F H st σ r Q S ev P
  obtain ⟨e, o, o', f, g, pos, rfl, ho, ho', m1, m2, m3⟩ := mE_chn m
  exact st_of (pt_chain op_sem op_sem pe_se pe_se pe_se (last_mark (mE_ok m3))) (read_chn ha hb hd K ho ho' m1 m2 m3 S ev P.toE)

/-! ### and, or, not -/
theorem snd_not {a : E} (ha : SndE G a) : SndE G (.not a) := by
  intro X W ex K m F0 H0 F H st σ r Q S ev P
  obtain ⟨e, pos, rfl, m1⟩ := mE_not m
  refine se_of (pe_not pe_se) ?_
  rw [evE] at ev
  rcases boolV_some ev with ⟨b, e1, e2⟩ | ⟨c, e1, rfl⟩
  · cases e2
    exact ha X W e K m1 F0 H0 F H st σ _ _ S e1 fun v H1 F1 g1 r1 f1 => ⟨b, r1.bool, post_shr P g1 (.bl _)⟩
  · exact ha X W e K m1 F0 H0 F H st σ _ _ S e1 P
theorem snt_not {a : E} (ha : SndT G a) : SndT G (.not a) := by
  intro X W ex K m F0 H0 F H st σ r Q S ev P
  obtain ⟨e, pos, rfl, m1⟩ := mE_not m
  refine st_of (pt_not pt_st) ?_
  rw [evE] at ev
  rcases boolV_some ev with ⟨b, e1, e2⟩ | ⟨c, e1, rfl⟩
  · cases e2
    exact ha X W e K m1 F0 H0 F H st σ _ _ S e1 fun H1 F1 g1 => P H1 F1 g1
  · exact ha X W e K m1 F0 H0 F H st σ _ _ S e1 P
theorem PostT.gr {W : WX} {σ : L2.St} {F H F' H' : Hp} {r : EO} {Q : Bool → Hp → Prop} (P : PostT G W σ F H r Q) (g : Gr F H F' H') : PostT G W σ F' H' r Q := by
  cases r with
  | ex c => exact fun H2 s => P H2 (g.hh.trans s)
  | ok k d =>
    cases k with
    | shr =>
      cases d with
      | bool b => exact fun H2 F2 g2 => P H2 F2 (g.trans g2)
      | _ => exact P
    | brw => cases d <;> exact False.elim P
    | frs => cases d <;> exact False.elim P
def SndAll (G : GI) (es : List E) : Prop := ∀ e ∈ es, SndE G e
def SntAll (G : GI) (es : List E) : Prop := ∀ e ∈ es, SndT G e
theorem and_se {W : WX} {X : Cx} (K : CK G W X) {pos : Pos} : ∀ (es : List E) (vs : List Expr), SndAll G es → mL (cc G X) X.env.scope es vs = true → ∀ (F0 H0 F H : Hp) (st : Ev) (σ : L2.St) (r : EO) (Q : VK), StOK G.K F0 H0 F H st σ → evAnd G.Φ es st = some r → PostE G W σ F H r Q →
    SE X (.BoolOp .And vs pos) σ H Q
  | [], vs, _, _, _, _, _, _, _, _, _, _, _, ev, _ => by rw [evAnd] at ev; cases ev
  | [e], vs, h, m, F0, H0, F, H, st, σ, r, Q, S, ev, P => by
    obtain ⟨v, ws, rfl, m1, m2⟩ := mL_cons m
    cases mL_nil m2
    rw [evAnd] at ev
    exact se_of (pe_one pe_se) (h e (by simp) X W v K m1 F0 H0 F H st σ r Q S ev P)
  | e :: e2 :: es, vs, h, m, F0, H0, F, H, st, σ, r, Q, S, ev, P => by
    obtain ⟨v, ws, rfl, m1, m2⟩ := mL_cons m
    obtain ⟨v2, ws2, rfl, m3, m4⟩ := mL_cons m2
    rw [evAnd] at ev
    refine se_of (pe_and pe_se pe_se) ?_
    rcases boolV_some ev with ⟨b, e1, e3⟩ | ⟨c, e1, rfl⟩
    · refine h e (by simp) X W v K m1 F0 H0 F H st σ _ _ S e1 fun x H1 F1 g1 r1 f1 => ⟨b, r1.bool, ?_⟩
      cases b with
      | true =>
        rw [if_pos rfl] at e3 ⊢
        exact and_se K (e2 :: es) (v2 :: ws2) (fun x hx => h x (by simp at hx ⊢; exact .inr hx)) m2 F0 H0 F1 H1 st σ r Q (S.mono g1) e3 (P.gr g1)
      | false =>
        rw [if_neg Bool.false_ne_true] at e3 ⊢
        cases e3
        exact post_shr P g1 (.bl false)
    · exact h e (by simp) X W v K m1 F0 H0 F H st σ _ _ S e1 P
theorem or_se {W : WX} {X : Cx} (K : CK G W X) {pos : Pos} : ∀ (es : List E) (vs : List Expr), SndAll G es → mL (cc G X) X.env.scope es vs = true → ∀ (F0 H0 F H : Hp) (st : Ev) (σ : L2.St) (r : EO) (Q : VK), StOK G.K F0 H0 F H st σ → evOr G.Φ es st = some r → PostE G W σ F H r Q →
    SE X (.BoolOp .Or vs pos) σ H Q
  | [], vs, _, _, _, _, _, _, _, _, _, _, _, ev, _ => by rw [evOr] at ev; cases ev
  | [e], vs, h, m, F0, H0, F, H, st, σ, r, Q, S, ev, P => by
    obtain ⟨v, ws, rfl, m1, m2⟩ := mL_cons m
    cases mL_nil m2
    rw [evOr] at ev
    exact se_of (pe_one pe_se) (h e (by simp) X W v K m1 F0 H0 F H st σ r Q S ev P)
  | e :: e2 :: es, vs, h, m, F0, H0, F, H, st, σ, r, Q, S, ev, P => by
    obtain ⟨v, ws, rfl, m1, m2⟩ := mL_cons m
    obtain ⟨v2, ws2, rfl, m3, m4⟩ := mL_cons m2
    rw [evOr] at ev
    refine se_of (pe_or pe_se pe_se) ?_
    rcases boolV_some ev with ⟨b, e1, e3⟩ | ⟨c, e1, rfl⟩
    · refine h e (by simp) X W v K m1 F0 H0 F H st σ _ _ S e1 fun x H1 F1 g1 r1 f1 => ⟨b, r1.bool, ?_⟩
      cases b with
      | false =>
        rw [if_neg Bool.false_ne_true] at e3 ⊢
        exact or_se K (e2 :: es) (v2 :: ws2) (fun x hx => h x (by simp at hx ⊢; exact .inr hx)) m2 F0 H0 F1 H1 st σ r Q (S.mono g1) e3 (P.gr g1)
      | true =>
        rw [if_pos rfl] at e3 ⊢
        cases e3
        exact post_shr P g1 (.bl true)
    · exact h e (by simp) X W v K m1 F0 H0 F H st σ _ _ S e1 P
/-- .. as tests, by PW -/
def SW (X : Cx) (e : Expr) : TT := fun σ H Q => ∀ (whole : Sem Value) (pins : List (Addr × Obj)) (s : Shared), Inv X pins σ H s → wpAny (model X.prog X.w) X.A (isTrue e X.env whole) (TP X pins σ Q) X.xe s
theorem pw_sw {X : Cx} {e : Expr} : PW X e (SW X e) := ⟨fun wh pins s _ _ _ I h => h wh pins s I⟩
theorem sw_of {X : Cx} {e : Expr} {t : TT} {σ : L2.St} {H : Hp} {Q : Bool → Hp → Prop} (h : PW X e t) (ht : t σ H Q) : SW X e σ H Q := fun wh pins s I => h.run wh pins s σ H Q I ht
theorem and_sw {W : WX} {X : Cx} (K : CK G W X) {pos : Pos} : ∀ (es : List E) (vs : List Expr), SntAll G es → mL (cc G X) X.env.scope es vs = true → ∀ (F0 H0 F H : Hp) (st : Ev) (σ : L2.St) (r : EO) (Q : Bool → Hp → Prop), StOK G.K F0 H0 F H st σ → evAnd G.Φ es st = some r → PostT G W σ F H r Q →
    SW X (.BoolOp .And vs pos) σ H Q
  | [], vs, _, _, _, _, _, _, _, _, _, _, _, ev, _ => by rw [evAnd] at ev; cases ev
  | [e], vs, h, m, F0, H0, F, H, st, σ, r, Q, S, ev, P => by
    obtain ⟨v, ws, rfl, m1, m2⟩ := mL_cons m
    cases mL_nil m2
    rw [evAnd] at ev
    exact sw_of (pw_and1 pt_st) (h e (by simp) X W v K m1 F0 H0 F H st σ r Q S ev P)
  | e :: e2 :: es, vs, h, m, F0, H0, F, H, st, σ, r, Q, S, ev, P => by
    obtain ⟨v, ws, rfl, m1, m2⟩ := mL_cons m
    obtain ⟨v2, ws2, rfl, m3, m4⟩ := mL_cons m2
    rw [evAnd] at ev
    refine sw_of (pw_and pt_st pw_sw) ?_
    rcases boolV_some ev with ⟨b, e1, e3⟩ | ⟨c, e1, rfl⟩
    · refine h e (by simp) X W v K m1 F0 H0 F H st σ _ _ S e1 fun H1 F1 g1 => ?_
      cases b with
      | true =>
        rw [if_pos rfl] at e3 ⊢
        exact and_sw K (e2 :: es) (v2 :: ws2) (fun x hx => h x (by simp at hx ⊢; exact .inr hx)) m2 F0 H0 F1 H1 st σ r Q (S.mono g1) e3 (P.gr g1)
      | false =>
        rw [if_neg Bool.false_ne_true] at e3 ⊢
        cases e3
        exact P H1 F1 g1
    · exact h e (by simp) X W v K m1 F0 H0 F H st σ _ _ S e1 P
theorem or_sw {W : WX} {X : Cx} (K : CK G W X) {pos : Pos} : ∀ (es : List E) (vs : List Expr), SntAll G es → mL (cc G X) X.env.scope es vs = true → ∀ (F0 H0 F H : Hp) (st : Ev) (σ : L2.St) (r : EO) (Q : Bool → Hp → Prop), StOK G.K F0 H0 F H st σ → evOr G.Φ es st = some r → PostT G W σ F H r Q →
    SW X (.BoolOp .Or vs pos) σ H Q
  | [], vs, _, _, _, _, _, _, _, _, _, _, _, ev, _ => by rw [evOr] at ev; cases ev
  | [e], vs, h, m, F0, H0, F, H, st, σ, r, Q, S, ev, P => by
    obtain ⟨v, ws, rfl, m1, m2⟩ := mL_cons m
    cases mL_nil m2
    rw [evOr] at ev
    exact sw_of (pw_or1 pt_st) (h e (by simp) X W v K m1 F0 H0 F H st σ r Q S ev P)
  | e :: e2 :: es, vs, h, m, F0, H0, F, H, st, σ, r, Q, S, ev, P => by
    obtain ⟨v, ws, rfl, m1, m2⟩ := mL_cons m
    obtain ⟨v2, ws2, rfl, m3, m4⟩ := mL_cons m2
    rw [evOr] at ev
    refine sw_of (pw_or pt_st pw_sw) ?_
    rcases boolV_some ev with ⟨b, e1, e3⟩ | ⟨c, e1, rfl⟩
    · refine h e (by simp) X W v K m1 F0 H0 F H st σ _ _ S e1 fun H1 F1 g1 => ?_
      cases b with
      | false =>
        rw [if_neg Bool.false_ne_true] at e3 ⊢
        exact or_sw K (e2 :: es) (v2 :: ws2) (fun x hx => h x (by simp at hx ⊢; exact .inr hx)) m2 F0 H0 F1 H1 st σ r Q (S.mono g1) e3 (P.gr g1)
      | true =>
        rw [if_pos rfl] at e3 ⊢
        cases e3
        exact P H1 F1 g1
    · exact h e (by simp) X W v K m1 F0 H0 F H st σ _ _ S e1 P
theorem snd_and {es : List E} (h : SndAll G es) : SndE G (.and es) := by
  intro X W ex K m F0 H0 F H st σ r Q S ev P
  obtain ⟨vs, pos, rfl, m1⟩ := mE_and m
  rw [evE] at ev
  exact and_se K es vs h m1 F0 H0 F H st σ r Q S ev P
theorem snd_or {es : List E} (h : SndAll G es) : SndE G (.or es) := by
  intro X W ex K m F0 H0 F H st σ r Q S ev P
  obtain ⟨vs, pos, rfl, m1⟩ := mE_or m
  rw [evE] at ev
  exact or_se K es vs h m1 F0 H0 F H st σ r Q S ev P
theorem snt_and {es : List E} (h : SntAll G es) : SndT G (.and es) := by
  intro X W ex K m F0 H0 F H st σ r Q S ev P
  obtain ⟨vs, pos, rfl, m1⟩ := mE_and m
  rw [evE] at ev
  exact st_of pw_sw.pt (and_sw K es vs h m1 F0 H0 F H st σ r Q S ev P)
theorem snt_or {es : List E} (h : SntAll G es) : SndT G (.or es) := by
  intro X W ex K m F0 H0 F H st σ r Q S ev P
  obtain ⟨vs, pos, rfl, m1⟩ := mE_or m
  rw [evE] at ev
  exact st_of pw_sw.pt (or_sw K es vs h m1 F0 H0 F H st σ r Q S ev P)
theorem snd_ife {d a b : E} (hd : SndT G d) (ha : SndE G a) (hb : SndE G b) : SndE G (.ife d a b) := by
  intro X W ex K m F0 H0 F H st σ r Q S ev P
  obtain ⟨e, f, g, pos, rfl, m1, m2, m3⟩ := mE_ife m
  refine se_of (pe_ifExp pt_st pe_se pe_se) ?_
  rw [evE] at ev
  rcases boolV_some ev with ⟨b, e1, e3⟩ | ⟨c, e1, rfl⟩
  · refine hd X W e K m1 F0 H0 F H st σ _ _ S e1 fun H1 F1 g1 => ?_
    cases b with
    | true =>
      rw [if_pos rfl] at e3 ⊢
      exact ha X W f K m2 F0 H0 F1 H1 st σ r Q (S.mono g1) e3 (P.gr g1)
    | false =>
      rw [if_neg Bool.false_ne_true] at e3 ⊢
      exact hb X W g K m3 F0 H0 F1 H1 st σ r Q (S.mono g1) e3 (P.gr g1)
  · exact hd X W e K m1 F0 H0 F H st σ _ _ S e1 P
/-- a test that is its value's truth -/
theorem snt_val {e : E} (h : SndE G e) (hi : ∀ (c : Cc) (sc : Scope) (ex : Expr), mE c sc e ex = true → ∀ (env : Env) (whole : Sem Value), isTrue ex env whole = (do let v ← whole; standAt ex.pos; holding [v] (truthy v))) : SndT G e := by
  intro X W ex K m F0 H0 F H st σ r Q S ev P
  exact st_of (pt_val pe_se (hi _ _ _ m X.env)) (h X W ex K m F0 H0 F H st σ r _ S ev P.toE)
end
end Dv

/-! Dv, part F: arguments, displays, items, slices, calls. -/
namespace Dv
open PySem PySem.Spec PyProof.Rows L2

section
variable {G : GI}
/-! ### argument lists -/
def RA (G : GI) (F H : Hp) (k : Kd) (d : D) (v : V) : Prop :=
  match k with
  | .brw => RV G.K F H .brw d v
  | _ => Rp G.K F v d
theorem RA.gr {F H F' H' : Hp} {k : Kd} {d : D} {v : V} (r : RA G F H k d v) (g : Gr F H F' H') : RA G F' H' k d v := by
  cases k with
  | brw => exact RV.gr (k := .brw) r g
  | shr => exact Rp.to r g.ff
  | frs => exact Rp.to r g.ff
inductive RVs (G : GI) (F H : Hp) : List V → List (Kd × D) → Prop
  | nil : RVs G F H [] []
  | cons {v : V} {vs : List V} {k : Kd} {d : D} {xs : List (Kd × D)} : RA G F H k d v → RVs G F H vs xs → RVs G F H (v :: vs) ((k, d) :: xs)
theorem RVs.gr {F H F' H' : Hp} (g : Gr F H F' H') : ∀ {vs : List V} {xs : List (Kd × D)}, RVs G F H vs xs → RVs G F' H' vs xs
  | _, _, .nil => .nil
  | _, _, .cons a r => .cons (a.gr g) (RVs.gr g r)
theorem RVs.length {F H : Hp} : ∀ {vs : List V} {xs : List (Kd × D)}, RVs G F H vs xs → vs.length = xs.length
  | _, _, .nil => rfl
  | _, _, .cons _ r => by rw [List.length_cons, List.length_cons, RVs.length r]
theorem RVs.plain {F H : Hp} : ∀ {vs : List V} {xs : List (Kd × D)}, RVs G F H vs xs → noBrw xs = true → Rps G.K F vs (xs.map (·.2))
  | _, _, .nil, _ => .nil
  | _, (k, d) :: xs, .cons a r, n => by
    simp only [noBrw, List.all_cons, Bool.and_eq_true, decide_eq_true_eq] at n
    refine .cons ?_ (RVs.plain r (by simpa [noBrw] using n.2))
    cases k with
    | brw => exact absurd rfl n.1
    | shr => exact a
    | frs => exact a
/-- all told in F: the borrowed ones too -/
theorem RVs.frozen {F H : Hp} : ∀ {vs : List V} {xs : List (Kd × D)}, RVs G F H vs xs → ∀ F1, Sub F F1 → Sub F1 H → HM G.K F1 H → ∃ F', Sub F1 F' ∧ Sub F' H ∧ Rps G.K F' vs (xs.map (·.2)) ∧ HM G.K F' H
  | _, _, .nil, F1, _, h, hm => ⟨F1, Sub.refl F1, h, .nil, hm⟩
  | _, (k, d) :: xs, .cons (v := v) a r, F1, f, h, hm => by
    have first : ∃ F2, Sub F1 F2 ∧ Sub F2 H ∧ Rp G.K F2 v d ∧ HM G.K F2 H := by
      have plain : Rp G.K F v d → ∃ F2, Sub F1 F2 ∧ Sub F2 H ∧ Rp G.K F2 v d ∧ HM G.K F2 H := fun q => ⟨F1, Sub.refl F1, h, q.to f, hm⟩
      cases k with
      | shr => exact plain a
      | frs => exact plain a
      | brw =>
        obtain ⟨p, rfl, n, t, ni⟩ := a
        cases q : F1 p with
        | none =>
          obtain ⟨F2, h1, h2, h3, h4⟩ := (t.mono f rfl).freeze h q
          refine ⟨F2, h1, h2, h3, hm.more h1 fun a o e => ?_⟩
          rcases h4 a o e with z | z
          · exact .inl z
          · subst z; exact .inr (ni rfl)
        | some o =>
          refine ⟨F1, Sub.refl F1, h, ?_, hm⟩
          have e := h p o q
          cases d with
          | list ds =>
            obtain ⟨ws, e2, r2⟩ := t
            rw [e2] at e; cases e
            exact .lst q (r2.to f)
          | dict kvs =>
            rcases t with ⟨ws, e2, r2⟩ | ⟨ys, r, e0, e2, r2⟩
            · rw [e2] at e; cases e
              exact .dic q (r2.mono' f)
            · subst e0
              rw [e2] at e; cases e
              exact .tk q (r2.mono' f)
          | _ => exact False.elim t
    obtain ⟨F2, f2, h2, q2, hm2⟩ := first
    obtain ⟨F3, f3, h3, q3, hm3⟩ := RVs.frozen r F2 (f.trans f2) h2 hm2
    exact ⟨F3, f2.trans f3, h3, .cons (q2.to f3) q3, hm3⟩
def PostA (G : GI) (W : WX) (σ : L2.St) (F H : Hp) (r : AO) (Q : List V → Hp → Prop) : Prop :=
  match r with
  | .ok xs => ∀ vs H' F', Gr F H F' H' → RVs G F' H' vs xs → Q vs H'
  | .ex c => ∀ H', Sub H H' → W (.ref (G.ea c)) none σ H'
/-- told in F, a new one too -/
theorem shareA {F H F1 H1 : Hp} {k : Kd} {d : D} {v : V} (g : Gr F H F1 H1) (r : RV G.K F1 H1 k d v) (f : Fresh H k v) : ∃ F2, Gr F H F2 H1 ∧ RA G F2 H1 k d v := by
  cases k with
  | shr => exact ⟨F1, g, r⟩
  | brw => exact ⟨F1, g, r⟩
  | frs =>
    obtain ⟨p, rfl, n, t, _⟩ := r
    obtain ⟨F2, f1, f2, q, f3⟩ := t.freeze g.fh n
    refine ⟨F2, ⟨g.ff.trans f1, f2, g.hh, fun a o e => ?_⟩, q⟩
    rcases f3 a o e with z | z
    · exact g.nw a o z
    · subst z; exact .inr (f rfl a rfl)
theorem args_sa {W : WX} {X : Cx} (K : CK G W X) : ∀ (es : List E) (vs : List Expr), SndAll G es → mL (cc G X) X.env.scope es vs = true → ∀ (F0 H0 F H : Hp) (st : Ev) (σ : L2.St) (r : AO) (Q : List V → Hp → Prop), StOK G.K F0 H0 F H st σ → evL G.Φ es st = some r → PostA G W σ F H r Q →
    SA X vs σ H Q
  | [], vs, _, m, F0, H0, F, H, st, σ, r, Q, S, ev, P => by
    cases mL_nil m
    rw [evL] at ev
    cases ev
    exact sa_of pa_nil (P [] H F (Gr.refl S.fh) .nil)
  | e :: es, vs, h, m, F0, H0, F, H, st, σ, r, Q, S, ev, P => by
    obtain ⟨v, ws, rfl, m1, m2⟩ := mL_cons m
    refine sa_of (pa_cons pe_se pa_sa (ok_star (mE_ok m1))) ?_
    rw [evL] at ev
    unfold consA at ev
    split at ev
    · rename_i k d e1
      refine h e (by simp) X W v K m1 F0 H0 F H st σ _ _ S e1 fun x H1 F1 g1 r1 f1 => ?_
      obtain ⟨F2, g2, r2⟩ := shareA g1 r1 f1
      have hs : SndAll G es := fun x hx => h x (by simp; exact .inr hx)
      split at ev
      · rename_i xs e2
        cases ev
        exact args_sa K es ws hs m2 F0 H0 F2 H1 st σ _ _ (S.mono g2) e2 fun ys H3 F3 g3 r3 => P (x :: ys) H3 F3 (g2.trans g3) (.cons (r2.gr g3) r3)
      · rename_i c e2
        cases ev
        exact args_sa K es ws hs m2 F0 H0 F2 H1 st σ _ _ (S.mono g2) e2 fun H3 s3 => P H3 (g2.hh.trans s3)
      · cases ev
    · rename_i c e1
      cases ev
      exact h e (by simp) X W v K m1 F0 H0 F H st σ _ _ S e1 P
    · cases ev
theorem snd_tup {es : List E} (h : SndAll G es) : SndE G (.tup es) := by
  intro X W ex K m F0 H0 F H st σ r Q S ev P
  obtain ⟨vs, k, pos, rfl, m1⟩ := mE_tup m
  refine se_of (pe_tup pa_sa) ?_
  rw [evE] at ev
  rcases bindA_some ev with ⟨xs, e1, e2⟩ | ⟨c, e1, rfl⟩
  · split at e2
    · rename_i hz
      cases e2
      refine args_sa K es vs h m1 F0 H0 F H st σ _ _ S e1 fun ws H1 F1 g r => ⟨sizeL (by rw [r.length]; exact hz.2), fun p n => post_tup P g (r.plain hz.1) n⟩
    · cases e2
  · exact args_sa K es vs h m1 F0 H0 F H st σ _ _ S e1 P
theorem snd_lst {es : List E} (h : SndAll G es) : SndE G (.lst es) := by
  intro X W ex K m F0 H0 F H st σ r Q S ev P
  obtain ⟨vs, pos, rfl, m1⟩ := mE_lst m
  refine se_of (pe_lst pa_sa) ?_
  rw [evE] at ev
  rcases bindA_some ev with ⟨xs, e1, e2⟩ | ⟨c, e1, rfl⟩
  · split at e2
    · rename_i hz
      cases e2
      refine args_sa K es vs h m1 F0 H0 F H st σ _ _ S e1 fun ws H1 F1 g r => ⟨sizeL (by rw [r.length]; exact hz.2), fun p n => post_lst P g (r.plain hz.1) n⟩
    · cases e2
  · exact args_sa K es vs h m1 F0 H0 F H st σ _ _ S e1 P
theorem snd_dic : SndE G .dic := by
  intro X W ex K m F0 H0 F H st σ r Q S ev P
  obtain ⟨pos, rfl⟩ := mE_dic m
  rw [evE] at ev
  cases ev
  refine se_of pe_dnewK ?_
  intro p n
  exact P _ _ F (Gr.lay S.fh n _) ⟨p, rfl, S.fh.none n, .inl ⟨[], upd_same, .nil⟩, fun e => nomatch e⟩ fun _ q e => by cases e; exact n
theorem snd_dicT : SndE G .dicT := by
  intro X W ex K m F0 H0 F H st σ r Q S ev P
  obtain ⟨pos, rfl⟩ := mE_dicT m
  rw [evE] at ev
  cases ev
  refine se_of pe_dnewX ?_
  intro p n
  exact P _ _ F (Gr.lay S.fh n _) ⟨p, rfl, S.fh.none n, .inr ⟨[], [], rfl, upd_same, .nil⟩, fun e => nomatch e⟩ fun _ q e => by cases e; exact n
/-! ### a def's call -/
theorem scalar_rp {F F' : Hp} {v : V} {d : D} (r : Rp G.K F v d) (s : scalar d = true) : Rp G.K F' v d := by
  cases r <;> first | (simp [scalar, flat, scrD, tkD, refD] at s; done) | constructor
theorem snd_call {f : Str} {es : List E} (h : SndAll G es) : SndE G (.call f es) := by
  intro X W ex K m F0 H0 F H st σ r Q S ev P
  obtain ⟨g, v, vs, pos, rfl, hg, m1, hop⟩ := mE_call m
  obtain ⟨p2, rfl, hgl, hpl⟩ := isG_name hg
  obtain ⟨h1, h2, h3⟩ := plain_all hpl
  have mk : ∀ (hr : ∃ ds r', G.Φ f ds = some r'), ∃ fa fd ps, X.mg f = some (.ref fa) ∧ PySem.W.keepIn X.K (.ref fa) = true ∧ Binds X.K fd ps [] ∧ FnOk X.prog X.w X.K X.mg X.base (L2.CX X.prog X.w) G.k fa fd ps (spOf G.K G.ea (G.Φ f)) := fun ⟨ds, r', e⟩ => K.fn f ds r' hop e
  rw [evE] at ev
  have star : starEach (v :: vs) X.env = (false, eval v X.env) :: starEach vs X.env := by
    cases es with
    | nil => simp [mL] at m1
    | cons e es =>
      obtain ⟨v', ws, ev', m2, m3⟩ := mL_cons m1
      cases ev'
      exact ok_star (mE_ok m2)
  have stars : ∀ (es : List E) (vs : List Expr), mL (cc G X) X.env.scope es vs = true → (backTo pos (starEach vs X.env)).any (·.1) = false := by
    intro es
    induction es with
    | nil => intro vs m; cases mL_nil m; rfl
    | cons e es ih =>
      intro vs m
      obtain ⟨v', ws, rfl, m2, m3⟩ := mL_cons m
      rw [ok_star (mE_ok m2)]
      show (false || (backTo pos (starEach ws X.env)).any (·.1)) = false
      rw [ih ws m3]
      rfl
  have tail : (backTo pos (starEach vs X.env)).any (·.1) = false := by
    cases es with
    | nil => simp [mL] at m1
    | cons e es =>
      obtain ⟨v', ws, ev', m2, m3⟩ := mL_cons m1
      cases ev'
      exact stars es _ m3
  split at ev
  · rename_i xs e1
    have e2 := ev
    unfold okCall at e2
    split at e2
    · rename_i nb
      obtain ⟨fa, fd, ps, k1, k2, k3, k4⟩ := mk ⟨_, _, e2⟩
      refine se_of (pe_callS k4 K.room (glB_gl hgl) k1 k2 k3 (fun σ => passAt K.tk σ) pa_sa h1 star tail) ?_
      refine args_sa K es (v :: vs) h m1 F0 H0 F H st σ _ _ S e1 fun ws H1 F1 g r' => ?_
      refine ⟨G.K.io, F1, _, _, g.fh, S.cel.mono g, r'.plain nb, e2, ?_⟩
      cases r with
      | ok k d => exact fun v' H' F' g' r2 f2 => P v' H' F' (g.trans g') r2 fun e p q => g.hh.none (f2 e p q)
      | ex c => exact fun H' s => P H' (g.hh.trans s)
    · rename_i nb
      split at e2
      · rename_i d e3
        split at e2
        · rename_i hs
          cases e2
          obtain ⟨fa, fd, ps, k1, k2, k3, k4⟩ := mk ⟨_, _, e3⟩
          refine se_of (pe_callS k4 K.room (glB_gl hgl) k1 k2 k3 (fun σ => passAt K.tk σ) pa_sa h1 star tail) ?_
          refine args_sa K es (v :: vs) h m1 F0 H0 F H st σ _ _ S e1 fun ws H1 F1 g r' => ?_
          obtain ⟨F2, f2, h2', q2, hm2⟩ := r'.frozen F1 (Sub.refl F1) g.fh (S.cel.mono g)
          refine ⟨G.K.io, F2, _, _, h2', hm2, q2, e3, ?_⟩
          exact fun v' H' F' g' r2 f2' => post_shr P (g.trans ⟨Sub.refl F1, g.fh.trans g'.hh, g'.hh, fun a o e => .inl e⟩) (scalar_rp (show Rp G.K F' v' d from r2) hs)
        · cases e2
      · rename_i c e3
        cases e2
        obtain ⟨fa, fd, ps, k1, k2, k3, k4⟩ := mk ⟨_, _, e3⟩
        refine se_of (pe_callS k4 K.room (glB_gl hgl) k1 k2 k3 (fun σ => passAt K.tk σ) pa_sa h1 star tail) ?_
        refine args_sa K es (v :: vs) h m1 F0 H0 F H st σ _ _ S e1 fun ws H1 F1 g r' => ?_
        obtain ⟨F2, f2, h2', q2, hm2⟩ := r'.frozen F1 (Sub.refl F1) g.fh (S.cel.mono g)
        exact ⟨G.K.io, F2, _, _, h2', hm2, q2, e3, fun H' s => P H' (g.hh.trans s)⟩
      · cases e2
  · cases ev
/-- names of defs, laid in a list -/
theorem fs_addr {W : WX} {X : Cx} (K : CK G W X) {ds : List D} : ∀ (fs : List Str), (fs.all fun f => !isOp f) = true → (fs.all fun g => (G.Φ g ds).isSome) = true → ∃ as : List Addr, as.length = fs.length ∧ ∀ (j : Nat) (f : Str) (a : Addr), fs[j]? = some f → as[j]? = some a → X.mg f = some (.ref a)
  | [], _, _ => ⟨[], rfl, fun _ _ _ h => by simp at h⟩
  | f :: fs, ho, h => by
    rw [List.all_cons, Bool.and_eq_true] at h ho
    obtain ⟨as, h1, h2⟩ := fs_addr K fs ho.2 h.2
    obtain ⟨r, hr⟩ := Option.isSome_iff_exists.mp h.1
    obtain ⟨fa, fd, ps, k1, _⟩ := K.fn f ds r (by simpa using ho.1) hr
    refine ⟨fa :: as, by simp [h1], fun j g a e1 e2 => ?_⟩
    cases j with
    | zero => simp at e1 e2; subst e1; subst e2; exact k1
    | succ j => exact h2 j g a (by simpa using e1) (by simpa using e2)
theorem pa_fs {X : Cx} : ∀ (fs : List Str) (ns : List Expr) (as : List Addr), isFs X.env.scope fs ns = true → as.length = fs.length → (∀ (j : Nat) (f : Str) (a : Addr), fs[j]? = some f → as[j]? = some a → X.mg f = some (.ref a)) →
    PA X ns (fun σ H Q => Q (as.map V.ref) H)
  | [], [], [], _, _, _ => pa_nil
  | f :: fs, e :: ns, a :: as, h, hl, hm => by
    simp only [isFs, Bool.and_eq_true] at h
    obtain ⟨p, rfl, h1, h2⟩ := isG_name h.1
    have q := pa_cons (pe_glob (X := X) (v := .ref a) (pos := p) (glB_gl h1) (hm 0 f a rfl rfl) rfl (plain_all h2).1) (pa_fs fs ns as h.2 (by simpa using hl) fun j g b e1 e2 => hm (j + 1) g b (by simpa using e1) (by simpa using e2)) rfl
    exact ⟨fun pos pins s σ H Q I hq => q.run pos pins s σ H Q I hq⟩
  | [], _ :: _, _, h, _, _ => by simp [isFs] at h
  | _ :: _, [], _, h, _, _ => by simp [isFs] at h
  | [], [], _ :: _, _, hl, _ => by simp at hl
  | _ :: _, _ :: _, [], _, hl, _ => by simp at hl
/-- a call of what an expression tells -/
theorem se_callV {W : WX} {X : Cx} {fe v : Expr} {vs : List Expr} {pos : Pos} {σ : L2.St} {H : Hp} {Q : VK} (K : CK G W X)
    (ht : eval (.Call fe (v :: vs) [] pos) X.env = (do callWith pos (← eval fe X.env) [] (backTo pos (starEach (v :: vs) X.env)) (backToKw pos (keywordEach [] X.env))))
    (star : starEach (v :: vs) X.env = (false, eval v X.env) :: starEach vs X.env) (tail : (backTo pos (starEach vs X.env)).any (·.1) = false)
    (h : SE X fe σ H fun x H1 => ∃ fa fd ps sp, x = .ref fa ∧ PySem.W.keepIn X.K (.ref fa) = true ∧ Binds X.K fd ps [] ∧ FnOk X.prog X.w X.K X.mg X.base (L2.CX X.prog X.w) G.k fa fd ps sp ∧ SA X (v :: vs) σ H1 fun xs H2 => sp xs H2 Q (WE W σ)) :
    SE X (.Call fe (v :: vs) [] pos) σ H Q := by
  intro pins s I
  refine PyProof.Rows.Call_ (wpAny_mono (h pins s I) (fun u s1 hh => ?_) fun _ _ z => z) ht
  obtain ⟨x, H1, I1, rx, fa, fd, ps, sp, ex, k2, k3, k4, ha⟩ := hh
  subst ex
  obtain rfl : u = Value.ref fa := rx
  refine PySem.W.callWith_K (h₀ := X.base) I1.ok.mod.kin k2 (wpAny_mono (ha pos pins s1 I1) (fun us s2 hh => ?_) fun _ _ z => z) star tail
  obtain ⟨ws, H2, I2, r2, q2⟩ := hh
  exact ⟨I2.kIn, run_fnS k4 K.room k3 (passAt K.tk σ) I2 r2 q2⟩
theorem mL_star {c : Cc} {sc : Scope} {es : List E} {v : Expr} {vs : List Expr} {env : Env} (m : mL c sc es (v :: vs) = true) : starEach (v :: vs) env = (false, eval v env) :: starEach vs env := by
  cases es with
  | nil => simp [mL] at m
  | cons e es =>
    obtain ⟨v', ws, ev', m2, m3⟩ := mL_cons m
    cases ev'
    exact ok_star (mE_ok m2)
theorem mL_plain {c : Cc} {sc : Scope} {env : Env} {pos : Pos} : ∀ (es : List E) (vs : List Expr), mL c sc es vs = true → (backTo pos (starEach vs env)).any (·.1) = false
  | [], vs, m => by cases mL_nil m; rfl
  | e :: es, vs, m => by
    obtain ⟨v', ws, rfl, m2, m3⟩ := mL_cons m
    rw [ok_star (mE_ok m2)]
    show (false || (backTo pos (starEach ws env)).any (·.1)) = false
    rw [mL_plain es ws m3]
    rfl
theorem mL_tail {c : Cc} {sc : Scope} {env : Env} {pos : Pos} {es : List E} {v : Expr} {vs : List Expr} (m : mL c sc es (v :: vs) = true) : (backTo pos (starEach vs env)).any (·.1) = false := by
  cases es with
  | nil => simp [mL] at m
  | cons e es =>
    obtain ⟨v', ws, ev', m2, m3⟩ := mL_cons m
    cases ev'
    exact mL_plain es _ m3
end
end Dv

/-! Dv, part G: items, slices, built-ins. -/
namespace Dv
open PySem PySem.Spec PyProof.Rows L2

section
variable {G : GI}
/-! ### items -/
theorem ix_sem {X : Cx} : IxR X (ISem X) := fun value slice pins s σ _ _ _ v u _ I r1 r2 h hs => h value slice pins s σ v u I r1 r2 hs
theorem isem_of {X : Cx} {r : R2} {x y : V} {H : Hp} {Q : VK} (h : IxR X r) (ht : r x y H Q) : ISem X x y H Q := fun value slice pins s σ v u I r1 r2 hs => h value slice pins s σ H x y v u Q I r1 r2 ht hs
theorem Rps.at {F : Hp} {vs : List V} {xs : List D} {i : Int} {d : D} (q : Rps G.K F vs xs) (h : atI xs i = some d) : ∃ v, atI vs i = some v ∧ Rp G.K F v d := by
  unfold atI at h ⊢
  rw [q.length]
  cases e : ixN xs.length i with
  | none => rw [e] at h; cases h
  | some j =>
    rw [e] at h
    exact q.get h
theorem rps_ints {F : Hp} : ∀ ns : List Int, Rps G.K F (ns.map V.int) (ns.map PyData.int)
  | [] => .nil
  | n :: ns => .cons (.int n) (rps_ints ns)
theorem scrOf_eq {kvs : List (D × D)} {xs : List D} (h : scrOf kvs = some xs) : kvs = [(.none, .list xs)] := by
  unfold scrOf at h
  split at h
  · split at h
    · rename_i e; cases h; rw [List.isEmpty_iff.mp e]
    · cases h
  · cases h
theorem scr_at {W : WX} {X : Cx} {F H : Hp} {k : Kd} {v : V} {xs : List D} {kvs : List (D × D)} (K : CK G W X) (s : Sub F H) (r : RV G.K F H k (.dict kvs) v) (hk : scrOf kvs = some xs) : ∃ a vs, v = .ref a ∧ SqL X.K H a vs ∧ Rps G.K F vs xs := by
  rw [scrOf_eq hk] at r
  obtain ⟨a, ns, h1, h2, h3⟩ := r.scr s
  refine ⟨a, ns.map V.int, h1, ?_, by rw [h2]; exact rps_ints ns⟩
  rw [K.kk]
  exact s.sq h3
theorem ix_dictK {X : Cx} (hu : X.A.units + 64 < cLine) : IxR X (fun x y H Q => ∃ a v, x = .ref a ∧ DGet H a y (some v) ∧ Q v H) := by
  intro value slice pins s σ H x y v u Q I rx ry h hs
  obtain ⟨a, z, rfl, g, q⟩ := h
  cases (show v = Value.ref a from rx)
  have hT := dict_typeIs I g
  have go : wpAny (model X.prog X.w) X.A (subscripted slice false (.ref a) u) (fun r s3 => wpAny (model X.prog X.w) X.A (letTemporaryGo value (.ref a) r >>= fun _ => pure r) (EP X pins σ Q) X.xe s3) X.xe s := by
    rw [hs]
    exact wpAny_operating (d_getItem (by omega) I g ry fun w' s' I' rw' => wpAny_bind (wpAny_letTemporaryGo (wpAny_pure ⟨z, H, I', rw', q⟩)))
  unfold subscriptTail
  refine wpAny_bind ?_
  rw [getitemInPython_of_ne hT.not_modules]
  refine wpAny_bind (wpAny_specialOf hT PySem.F.slot_dict_getitem.lookup ?_)
  first
    | exact wpAny_pure (wpAny_bind go)
    | exact wpAny_bind (wpAny_pure (wpAny_bind go))
    | exact wpAny_bind go
theorem snd_idx {a i : E} (ha : SndE G a) (hi : SndE G i) : SndE G (.idx a i) := by
  intro X W ex K m F0 H0 F H st σ r Q S ev P
  obtain ⟨e, j, pos, rfl, m1, m2⟩ := mE_idx m
  refine se_of (pe_ix ix_sem pe_se pe_se (ok_ix (mE_ok m2))) ?_
  rw [evE] at ev
  refine two (R := fun v u H2 => ISem X v u H2 Q) ha hi K m1 m2 S ev P fun k x l y v u H2 F2 e1 g S2 r1 r2 => ?_
  cases e2 : idxD x y with
  | none => rw [e2] at e1; cases e1
  | some d =>
    rw [e2] at e1
    cases e1
    unfold idxD at e2
    split at e2
    · obtain ⟨a, vs, rfl, ea, qa⟩ := r1.lst g.fh
      obtain ⟨w, h1, h2⟩ := qa.at e2
      rw [r2.int]
      exact isem_of ix_list ⟨a, vs, _, w, rfl, rfl, .inl (.inl ea), h1, post_shr P g h2⟩
    · obtain ⟨a, vs, rfl, ea, qa⟩ := r1.tup
      obtain ⟨w, h1, h2⟩ := qa.at e2
      rw [r2.int]
      exact isem_of ix_tup ⟨a, vs, _, w, rfl, rfl, SqT.of (g.fh _ _ ea), h1, post_shr P g h2⟩
    · rename_i kvs i
      split at e2
      · rename_i xs hx
        obtain ⟨a, vs, rfl, ea, qa⟩ := scr_at K g.fh r1 hx
        obtain ⟨w, h1, h2⟩ := qa.at e2
        rw [r2.int]
        exact isem_of ix_list ⟨a, vs, _, w, rfl, rfl, ea, h1, post_shr P g h2⟩
      split at e2
      · rename_i h
        obtain ⟨a, ks, rfl, ea, qa⟩ := r1.dictI g.fh h
        rw [r2.int]
        rcases qa.val i with ⟨w, d', e3, e4, q3⟩ | ⟨e3, e4⟩
        · rw [e4] at e2
          cases e2
          have gg := DGet.k (k := Sum.inl i) ea
          rw [e3] at gg
          exact isem_of (ix_dictK K.hu) ⟨a, w, rfl, gg, post_shr P g q3⟩
        · rw [e4] at e2; cases e2
      · cases e2
    · rename_i kvs xs
      split at e2
      · rename_i r nk h1 h2
        obtain ⟨a, ys, rfl, ea, qa⟩ := r1.tk g.fh h1
        obtain ⟨b, vs, rfl, eb, qb⟩ := r2.tup
        obtain ⟨h3, h4⟩ := tkey_all h2
        exact isem_of (ix_dictX K.hu) ⟨a, G.K, F2, ys, r, _, nk, d, rfl, ⟨g.fh, ea, qa, h3, h4, .tup eb qb, ⟨b, rfl⟩⟩, e2, fun w h5 => post_shr P g h5⟩
      · cases e2
    · cases e2
/-! ### slices -/
theorem optI_some {r : Option (Option EO)} {f : Option Int → Option EO} {x : EO} (h : optI r f = some x) : (r = none ∧ f none = some x) ∨ (∃ i, r = some (some (.ok .shr (.int i))) ∧ f (some i) = some x) ∨ ∃ c, r = some (some (.ex c)) ∧ x = .ex c := by
  unfold optI at h
  split at h
  · exact .inl ⟨rfl, h⟩
  · exact .inr (.inl ⟨_, rfl, h⟩)
  · cases h; exact .inr (.inr ⟨_, rfl, rfl⟩)
  · cases h
def SndO (G : GI) : Option E → Prop
  | none => True
  | some e => SndE G e
def SO_ (X : Cx) : Option Expr → TO
  | none => tNoPart
  | some e => tPart (SE X e)
theorem po_so {X : Cx} : ∀ o : Option Expr, PO X o (SO_ X o)
  | none => po_none
  | some _ => po_some pe_se
theorem opt {W : WX} {X : Cx} {o : Option E} {e : Option Expr} (ho : SndO G o) (K : CK G W X) (m : mO (cc G X) X.env.scope o e = true) {F0 H0 F H : Hp} {st : Ev} {σ : L2.St} {r : EO} {Q : VK} (S : StOK G.K F0 H0 F H st σ) {g : Option Int → Option EO}
    (ev : optI (evO G.Φ o st) g = some r) (P : PostE G W σ F H r Q) {R : Option Int → Hp → Prop} (hk : ∀ i H1 F1, g i = some r → Gr F H F1 H1 → StOK G.K F0 H0 F1 H1 st σ → R i H1) : SO_ X e σ H R := by
  cases o with
  | none =>
    cases e with
    | none =>
      rw [evO] at ev
      exact hk none H F ev (Gr.refl S.fh) S
    | some e => simp [mO] at m
  | some a =>
    cases e with
    | none => simp [mO] at m
    | some e =>
      rw [mO] at m
      rw [evO] at ev
      rcases optI_some ev with ⟨e1, _⟩ | ⟨i, e1, e2⟩ | ⟨c, e1, rfl⟩
      · cases e1
      · exact ho X W e K m F0 H0 F H st σ _ _ S (Option.some.inj e1) fun v H1 F1 g1 r1 f1 => ⟨i, r1.int, hk (some i) H1 F1 e2 g1 (S.mono g1)⟩
      · exact ho X W e K m F0 H0 F H st σ _ _ S (Option.some.inj e1) P
theorem Rps.cut {F : Hp} {vs : List V} {xs : List D} (q : Rps G.K F vs xs) (lo hi : Option Int) : Rps G.K F (cutV vs lo hi) (cutD xs lo hi) := by
  unfold cutV cutD
  rw [q.length]
  exact (q.drop _).take _
theorem snd_slc {a : E} {lo hi : Option E} (ha : SndE G a) (hl : SndO G lo) (hh : SndO G hi) : SndE G (.slc a lo hi) := by
  intro X W ex K m F0 H0 F H st σ r Q S ev P
  obtain ⟨e, l, h, p2, pos, rfl, m1, m2, m3⟩ := mE_slc m
  refine se_of (pe_slice (sl_list.or sl_tupA) pe_se (po_so l) (po_so h)) ?_
  rw [evE] at ev
  refine one ha K m1 S ev P fun k x v H1 F1 e1 e2 g1 S1 r1 f1 => ?_
  refine opt hl K m2 S1 e2 (P.gr g1) fun i H2 F2 e3 g2 S2 => ?_
  refine opt hh K m3 S2 e3 (P.gr (g1.trans g2)) fun j H3 F3 e4 g3 S3 => ?_
  have g := (g1.trans g2).trans g3
  have r3 := r1.gr (g2.trans g3)
  unfold slcD at e4
  split at e4
  · cases e4
    obtain ⟨a, vs, rfl, ea, qa⟩ := r3.lst g.fh
    exact .inl ⟨a, vs, rfl, .inl (.inl ea), fun p n => post_lst P g (qa.cut i j) n⟩
  · cases e4
    rename_i xs
    obtain ⟨a, vs, rfl, ea, qa⟩ := r3.tup
    refine .inr ⟨a, vs, rfl, SqT.of (g.fh _ _ ea), fun hw => ?_, fun _ p n => post_tup P g (qa.cut i j) n⟩
    refine post_shr P g ?_
    have : cutD xs i j = xs := by
      unfold cutD
      rw [← qa.length, hw.1, hw.2, Nat.sub_zero, List.drop_zero, qa.length, List.take_length]
    rw [this]
    exact .tup ea qa
  · obtain ⟨xs, hx, rfl⟩ := Option.map_eq_some_iff.mp e4
    obtain ⟨a, vs, rfl, ea, qa⟩ := scr_at K g.fh r3 hx
    exact .inl ⟨a, vs, rfl, ea, fun p n => post_lst P g (qa.cut i j) n⟩
  · cases e4
/-! ### built-ins -/
def CSem (X : Cx) (f : Value) : List V → Hp → VK → Prop := fun xs H Q => ∀ (pins : List (Addr × Obj)) (s : Shared) (σ : L2.St) (us : List Value), Inv X pins σ H s → Vals xs us → wpAny (model X.prog X.w) X.A (call f us) (EP X pins σ Q) X.xe s
theorem c_sem {X : Cx} {f : Value} : CallR X f (CSem X f) := fun pins s σ _ _ us _ I r h => h pins s σ us I r
theorem csem_of {X : Cx} {f : Value} {r : List V → Hp → VK → Prop} {xs : List V} {H : Hp} {Q : VK} (h : CallR X f r) (ht : r xs H Q) : CSem X f xs H Q := fun pins s σ us I rr => h pins s σ H xs us Q I rr ht
def b1Val : B1 → Value
  | .len => .builtin "len" | .int => .type "int" | .str => .type "str" | .tup => .type "tuple" | .lst => .type "list" | .all => .builtin "all"
theorem b1_boot (f : B1) : bootBuiltins (Str.ofString (b1Name f)) = some (b1Val f) := by
  cases f <;> decide +kernel
theorem b1_in (f : B1) : Str.ofString (b1Name f) ∈ bnames := by
  cases f <;> decide +kernel
theorem bools_V {F : Hp} : ∀ {vs : List V} {xs : List D} {bs : List Bool}, Rps G.K F vs xs → bools xs = some bs → vs = bs.map V.bl
  | _, _, _, .nil, e => by
    simp only [bools] at e
    cases e
    rfl
  | _, _, bs, .cons (d := d) a r, e => by
    cases d with
    | bool b =>
      simp only [bools] at e
      cases q : bools _ with
      | none => rw [q] at e; cases e
      | some cs =>
        rw [q] at e
        cases e
        cases a
        rw [bools_V r q]
        rfl
    | _ => simp [bools] at e
theorem log_lt (n : Nat) (h : n < 2 ^ 64) : n.log2 < 1920 := by
  by_cases h0 : n = 0
  · subst h0; decide
  · exact Nat.lt_of_lt_of_le ((Nat.log2_lt h0).mpr h) (by decide)
theorem leaf_fn {W : WX} {X : Cx} {σ : L2.St} {F H F2 H2 : Hp} {r : EO} {Q : VK} {k : Kd} {x : D} {v : V} {f : B1} (K : CK G W X) (e : fnD f x = some r) (P : PostE G W σ F H r Q) (g : Gr F H F2 H2) (r1 : RV G.K F2 H2 k x v) : CSem X (b1Val f) [v] H2 Q := by
  unfold fnD at e
  split at e
  · cases e
    obtain ⟨a, vs, rfl, ea, qa⟩ := r1.lst g.fh
    exact csem_of call_len_seq ⟨a, vs, rfl, .inl (.inl (.inl ea)), post_shr P g (by rw [qa.length]; exact .int _)⟩
  · cases e
    obtain ⟨a, vs, rfl, ea, qa⟩ := r1.tup
    exact csem_of call_len_seq ⟨a, vs, rfl, .inr (SqT.of (g.fh _ _ ea)), post_shr P g (by rw [qa.length]; exact .int _)⟩
  · split at e
    · rename_i xs hx
      cases e
      obtain ⟨a, vs, rfl, ea, qa⟩ := scr_at K g.fh r1 hx
      exact csem_of call_len_seq ⟨a, vs, rfl, .inl ea, post_shr P g (by rw [qa.length]; exact .int _)⟩
    · obtain ⟨r, hx, rfl⟩ := Option.map_eq_some_iff.mp e
      obtain ⟨a, ys, rfl, ea, qa⟩ := r1.tk g.fh hx
      exact csem_of call_len_kx ⟨a, G.K, F2, ys, r, rfl, g.fh, ea, qa, post_shr P g (.int _)⟩
  · cases e
    rw [r1.int]
    exact csem_of call_int1 (.inl ⟨_, rfl, post_shr P g (.int _)⟩)
  · cases e
    rw [r1.bool]
    exact csem_of call_int1 (.inr ⟨_, rfl, post_shr P g (.int _)⟩)
  · split at e
    · rename_i hz
      cases e
      rw [r1.int]
      exact csem_of call_str_int ⟨_, rfl, log_lt _ hz, post_shr P g (.str _)⟩
    · cases e
  · cases e
    obtain ⟨a, vs, rfl, ea, qa⟩ := r1.lst g.fh
    exact csem_of call_tuple_of ⟨a, vs, rfl, .inl ⟨.inl (.inl ea), fun p n => post_tup P g qa n⟩⟩
  · cases e
    obtain ⟨a, vs, rfl, ea, qa⟩ := r1.tup
    exact csem_of call_tuple_of ⟨a, vs, rfl, .inr ⟨SqT.of (g.fh _ _ ea), post_shr P g (.tup ea qa)⟩⟩
  · cases e
    obtain ⟨a, vs, rfl, ea, qa⟩ := r1.lst g.fh
    exact csem_of call_list_of ⟨a, vs, rfl, .inl (.inl (.inl ea)), fun p n => post_lst P g qa n⟩
  · cases e
    obtain ⟨a, vs, rfl, ea, qa⟩ := r1.tup
    exact csem_of call_list_of ⟨a, vs, rfl, .inr (SqT.of (g.fh _ _ ea)), fun p n => post_lst P g qa n⟩
  · rename_i xs
    cases q : bools xs with
    | none => rw [q] at e; cases e
    | some bs =>
      rw [q] at e
      cases e
      obtain ⟨a, vs, rfl, ea, qa⟩ := r1.lst g.fh
      have hv := bools_V qa q
      subst hv
      exact csem_of (cr_all K.calm) ⟨a, bs, rfl, .inl (.inl ea), post_shr P g (.bl _)⟩
  · cases e
/-- one argument -/
theorem arg1 {X : Cx} {e : Expr} (h : okEx e = true) : PA X [e] (tCons (SE X e) tNil) := pa_cons pe_se pa_nil (ok_star h)
theorem pe_b1 {X : Cx} {f : B1} {x : Str} {p pos : Pos} {e : Expr} (hx : x = Str.ofString (b1Name f)) (hg : Gl X x) (hm : X.mg x = none) (ho : okEx e = true) (hn : x ≠ "__name__") (hdb : (x == ("__debug__" : Str)) = false) :
    PE X (.Call (.Name x p) [e] [] pos) (tCB (CSem X (b1Val f)) (tCons (SE X e) tNil)) := by
  have hb := b1_boot f
  rw [← hx] at hb
  cases f
  · exact pe_callB c_sem hg hm hb (arg1 ho) hn hdb (ok_star ho)
  · exact pe_callTy c_sem hg hm hb (arg1 ho) hn hdb (ok_star ho)
  · exact pe_callTy c_sem hg hm hb (arg1 ho) hn hdb (ok_star ho)
  · exact pe_callTy c_sem hg hm hb (arg1 ho) hn hdb (ok_star ho)
  · exact pe_callTy c_sem hg hm hb (arg1 ho) hn hdb (ok_star ho)
  · exact pe_callB c_sem hg hm hb (arg1 ho) hn hdb (ok_star ho)
theorem snd_fn {f : B1} {a : E} (ha : SndE G a) : SndE G (.fn f a) := by
  intro X W ex K m F0 H0 F H st σ r Q S ev P
  obtain ⟨g, e, pos, rfl, hg, m1⟩ := mE_fn m
  obtain ⟨p2, rfl, hgl, hpl⟩ := isG_name hg
  obtain ⟨h1, h2, h3⟩ := plain_all hpl
  refine se_of (pe_b1 rfl (glB_gl hgl) (K.bl _ (b1_in f)) (mE_ok m1) h3 h1) ?_
  rw [evE] at ev
  exact one ha K m1 S ev P fun k x v H1 F1 e1 e2 g1 S1 r1 f1 => leaf_fn K e2 P g1 r1
/-! ### isinstance -/
theorem ty_in (t : TyN) : Str.ofString (tyName t) ∈ bnames := by cases t <;> decide +kernel
theorem ty_boot (t : TyN) : bootBuiltins (Str.ofString (tyName t)) = some (.type (tyName t)) := by cases t <;> decide +kernel
def vTy : D → String
  | .none => "NoneType" | .bool _ => "bool" | .int _ => "int" | .str _ => "str" | .list _ => "list" | .tuple _ => "tuple" | .dict _ => "dict"
theorem tyX_of {X : Cx} {F H : Hp} {k : Kd} {d : D} {v : V} (r : RV G.K F H k d v) (s : Sub F H) (ok : okTy d = true) : TyX X.K H v (.type (vTy d)) := by
  cases d with
  | none => rw [r.none]; exact .base .non
  | bool b => rw [r.bool]; exact .base (.bl b)
  | int i => rw [r.int]; exact .base (.int i)
  | str x => rw [r.str]; exact .base (.str x)
  | list xs =>
    obtain ⟨a, vs, rfl, e, q⟩ := r.lst s
    exact .base (.lst e)
  | tuple xs =>
    obtain ⟨a, vs, rfl, e, q⟩ := r.tup
    exact .base (.tup (s _ _ e))
  | dict xs =>
    rcases r.dict s with ⟨a, ks, rfl, e, _⟩ | ⟨a, ns, rfl, e, _⟩ | ⟨a, ys, r', rfl, e, _⟩ | ⟨a, n, rfl, e, _⟩
    rotate_right
    · rw [e] at ok
      cases ok
    · exact .base (.dK e)
    · rw [e] at ok
      cases ok
    · subst e
      cases ok
theorem kit_is {K : PySem.W.Frag} (d : D) (t : TyN) : PySem.W.kitOne K (.type (vTy d)) (.type (tyName t)) = some (isInst d t) := by
  refine kit_ty ?_
  cases d <;> cases t <;> (simp only [vTy, tyName, isInst]; decide +kernel)
theorem snd_isi {a : E} {t : TyN} (ha : SndE G a) : SndE G (.isi a t) := by
  intro X W ex K m F0 H0 F H st σ r Q S ev P
  obtain ⟨g, e, f, pos, rfl, hg, m1, hf⟩ := mE_isi m
  obtain ⟨p2, rfl, hgl, hpl⟩ := isG_name hg
  obtain ⟨h1, h2, h3⟩ := plain_all hpl
  obtain ⟨p3, rfl, hfl, hfp⟩ := isG_name hf
  obtain ⟨h4, h5, h6⟩ := plain_all hfp
  refine se_of (pe_callB call_isi (glB_gl hgl) (K.bl _ (by decide +kernel)) (by decide +kernel) (pa_cons pe_se (pa_cons (pe_bltn (v := .ty (tyName t)) (glB_gl hfl) (K.bl _ (ty_in t)) (ty_boot t) rfl h6 h4) pa_nil) (ok_star (mE_ok m1))) h3 h1 (ok_star (mE_ok m1))) ?_
  rw [evE] at ev
  refine one ha K m1 S ev P fun k x v H1 F1 e1 e2 g1 S1 r1 f1 => ?_
  split at e2
  · rename_i ok
    cases e2
    exact ⟨v, .ty (tyName t), _, _, isInst x t, rfl, .ty _, tyX_of r1 g1.fh ok, kit_is x t, post_shr P g1 (.bl _)⟩
  · cases e2
theorem pa_tys {W : WX} {X : Cx} (K : CK G W X) : ∀ (fs : List Expr) (ts : List TyN), isTys X.env.scope fs ts = true → PA X fs (fun σ H Q => Q (ts.map fun t => .ty (tyName t)) H)
  | [], [], _ => pa_nil
  | f :: fs, t :: ts, h => by
    simp only [isTys, Bool.and_eq_true] at h
    obtain ⟨p3, rfl, hfl, hfp⟩ := isG_name h.1
    obtain ⟨h4, h5, h6⟩ := plain_all hfp
    have q := pa_cons (pe_bltn (v := .ty (tyName t)) (pos := p3) (glB_gl hfl) (K.bl _ (ty_in t)) (ty_boot t) rfl h6 h4) (pa_tys K fs ts h.2) rfl
    exact ⟨fun pos pins s σ H Q I hq => q.run pos pins s σ H Q I hq⟩
  | [], _ :: _, h => by simp [isTys] at h
  | _ :: _, [], h => by simp [isTys] at h
theorem paired_ty : ∀ ts : List TyN, Paired ClsV (ts.map fun t => V.ty (tyName t)) (ts.map fun t => Value.type (tyName t))
  | [] => .nil
  | t :: ts => .cons (.ty _) (paired_ty ts)
theorem kit_any {K : PySem.W.Frag} (d : D) : ∀ ts : List TyN, PySem.W.kitAny K (.type (vTy d)) (ts.map fun t => Value.type (tyName t)) = some (ts.any fun t => isInst d t)
  | [] => kitAny_nil
  | t :: ts => by
    rw [List.map_cons, List.any_cons]
    refine kitAny_cons (kit_is d t) (fun h => ?_) fun h => ?_
    · rw [h, Bool.false_or]; exact kit_any d ts
    · rw [h, Bool.true_or]
theorem snd_isis {a : E} {ts : List TyN} (ha : SndE G a) : SndE G (.isis a ts) := by
  intro X W ex K m F0 H0 F H st σ r Q S ev P
  obtain ⟨g, e, fs, kk, p3, pos, rfl, hg, m1, hf⟩ := mE_isis m
  obtain ⟨p2, rfl, hgl, hpl⟩ := isG_name hg
  obtain ⟨h1, h2, h3⟩ := plain_all hpl
  refine se_of (pe_callB call_isiT (glB_gl hgl) (K.bl _ (by decide +kernel)) (by decide +kernel) (pa_cons pe_se (pa_cons (pe_tup (pa_tys K fs ts hf)) pa_nil) (ok_star (mE_ok m1))) h3 h1 (ok_star (mE_ok m1))) ?_
  rw [evE] at ev
  refine one ha K m1 S ev P fun k x v H1 F1 e1 e2 g1 S1 r1 f1 => ?_
  split at e2
  · rename_i hz
    cases e2
    refine ⟨sizeL (by rw [List.length_map]; exact hz.2), fun p n => ?_⟩
    have g2 := Gr.lay g1.fh n (.tup (ts.map fun t => V.ty (tyName t)))
    exact ⟨v, p, _, _, _, _, rfl, upd_same, paired_ty ts, tyX_of (r1.gr g2) g2.fh hz.1, kit_any x ts, post_shr P (g1.trans g2) (.bl _)⟩
  · cases e2
/-! ### list(range(n)) -/
theorem rg_rps {F : Hp} (n : Int) : Rps G.K F (rgV 0 n) (rngD n.toNat) := by
  unfold rgV rngD
  rw [Int.sub_zero]
  have : ∀ l : List Nat, Rps G.K F (l.map fun i => V.int (0 + (i : Nat))) (l.map fun (k : Nat) => PyData.int (k : Int)) := fun l => by
    induction l with
    | nil => exact .nil
    | cons a l ih =>
      refine .cons ?_ ih
      show Rp G.K F (V.int (0 + (a : Int))) (.int (a : Int))
      rw [Int.zero_add]
      exact .int _
  exact this _
theorem snd_lrg {a : E} (ha : SndE G a) : SndE G (.lrg a) := by
  intro X W ex K m F0 H0 F H st σ r Q S ev P
  obtain ⟨g, h, e, p4, pos, rfl, hg, hh, m1⟩ := mE_lrg m
  obtain ⟨p2, rfl, hgl, hpl⟩ := isG_name hg
  obtain ⟨p3, rfl, hhl, hhp⟩ := isG_name hh
  refine se_of (pe_listRg K.calm (glB_gl hgl) (K.bl _ (by decide +kernel)) (prg_1 (glB_gl hhl) (K.bl _ (by decide +kernel)) pe_se (ok_star (mE_ok m1)))) ?_
  rw [evE] at ev
  refine one ha K m1 S ev P fun k x v H1 F1 e1 e2 g1 S1 r1 f1 => ?_
  split at e2
  · split at e2
    · rename_i hz
      cases e2
      refine ⟨_, r1.int, ⟨by omega, by omega, by omega, by omega, ?_⟩, fun p n => post_lst P g1 (rg_rps _) n⟩
      have : (2 : Nat) ^ 24 = 16777216 := by decide
      omega
    · cases e2
  · cases e2
/-! ### len(set(..)) -/
theorem ints_list : ∀ {xs : List D} {ns : List Int} {F : Hp} {vs : List V}, intsOf xs = some ns → Rps G.K F vs xs → vs = ns.map V.int
  | [], ns, F, vs, e, r => by
    simp only [intsOf, Option.some.injEq] at e
    subst e
    cases r
    rfl
  | x :: xs, ns, F, vs, e, r => by
    cases x with
    | int i =>
      simp only [intsOf, Option.map_eq_some_iff] at e
      obtain ⟨ms, h1, rfl⟩ := e
      cases r with
      | cons a q =>
        cases a
        rw [ints_list h1 q]
        rfl
    | _ => simp [intsOf] at e
theorem firstMet_fold (ns : List Int) : PyProof.Rows.firstMet (fun i => ns.getD i 0) ns.length = ns.foldl PyProof.Rows.step_dedup [] := by
  unfold PyProof.Rows.firstMet
  congr 1
  apply List.ext_getElem
  · simp
  · intro i h1 h2
    simp at h1
    simp [List.getD_eq_getElem?_getD, h1]
def tLenSetD (K : PySem.W.Frag) (ta : TE) : TE := fun σ H Q => ta σ H fun x H1 => ∃ (l : Addr) (ns : List Int), x = .ref l ∧ SqL K H1 l (ns.map V.int) ∧ ns.length ≤ 4000 ∧ Q (.int ((ns.foldl PyProof.Rows.step_dedup []).length : Nat)) H1
theorem pe_lenSetD {X : Cx} {a : Expr} {ta : TE} {p p2 q pos : Pos} (hg : Gl X "len") (hm : X.mg "len" = none) (hg2 : Gl X "set") (hm2 : X.mg "set" = none) (ha : PE X a ta) (hc : X.calm = true)
    (na : starEach [a] X.env = (false, eval a X.env) :: starEach [] X.env) : PE X (.Call (.Name "len" p) [.Call (.Name "set" p2) [a] [] q] [] pos) (tLenSetD X.K ta) := by
  refine ⟨fun pins s σ H Q I h => ?_⟩
  refine Call_ (ld_blt I hg hm boot_len ?_)
  refine PyProof.Rows.callWith_builtin1 (PyProof.Rows.args_cons ?_ rfl) rfl rfl
  refine Call_ (ld_blt I hg2 hm2 boot_set ?_)
  refine PyProof.Rows.callWith_type1 (PyProof.Rows.args_cons (thn (ha.run pins s σ H _ I h) fun v s1 ⟨x, H1, I1, r1, q1⟩ => PyProof.Rows.args_nil ?_) na) na rfl
  obtain ⟨l, ns, rfl, hq, hl, q1⟩ := q1
  cases r1
  obtain ⟨its, r, pl, hz⟩ := I1.list hq
  have hlen : its.toArray.size = ns.length := by rw [List.size_toArray, ← r.length, List.length_map]
  refine call_set_list (I1.ok.hd hc) pl.isList (by simpa using RZ.intsAre_vals r) (by rw [hlen]; unfold scanBound; omega) fun h' tk hS hk => ?_
  refine PyProof.Rows.args_nil ?_
  rw [hlen, firstMet_fold] at hS
  have hb : (ns.foldl PyProof.Rows.step_dedup []).length ≤ ns.length := by
    rw [← firstMet_fold]
    exact PyProof.Rows.firstMet_length_le _ _
  obtain ⟨o, es, ep, t, ho, hex, hd, _, _, _, hf, hn⟩ := hS
  have I2 : Inv X pins σ H1 { s1 with heap := h', toks := tk } := I1.kept fun b o e => hk b o (Heap.lt_size e) e
  exact call_len_set ho hex hd hf (by rw [hn]; omega) ⟨.int (ns.foldl PyProof.Rows.step_dedup []).length, H1, I2.tok _, ⟨_, by rw [hn]⟩, q1⟩
theorem snd_lset {a : E} (ha : SndE G a) : SndE G (.lset a) := by
  intro X W ex K m F0 H0 F H st σ r Q S ev P
  obtain ⟨g, h, e, p2, pos, rfl, hg, hh, m1⟩ := mE_lset m
  obtain ⟨p3, rfl, hgl, _⟩ := isG_name hg
  obtain ⟨p4, rfl, hhl, _⟩ := isG_name hh
  refine se_of (pe_lenSetD (glB_gl hgl) (K.bl _ (by decide +kernel)) (glB_gl hhl) (K.bl _ (by decide +kernel)) pe_se K.calm (ok_star (mE_ok m1))) ?_
  rw [evE] at ev
  refine one ha K m1 S ev P fun k x v H1 F1 e1 e2 g1 S1 r1 f1 => ?_
  unfold lsetD at e2
  split at e2
  · rename_i xs
    split at e2
    · rename_i ns h1
      split at e2
      · rename_i hl
        cases e2
        obtain ⟨l, vs, rfl, ea, qa⟩ := r1.lst g1.fh
        have hv := ints_list h1 qa
        subst hv
        exact ⟨l, ns, rfl, .inl (.inl ea), hl, post_shr P g1 (.int _)⟩
      · cases e2
    · cases e2
  · cases e2
theorem snd_callAt {fs : List Str} {i : E} {es : List E} (hi : SndE G i) (h : SndAll G es) : SndE G (.callAt fs i es) := by
  intro X W ex K m F0 H0 F H st σ r Q S ev P
  obtain ⟨ns, pl, j, ps, v, vs, pos, rfl, hf, m1, m2, hops⟩ := mE_callAt m
  rw [evE] at ev
  -- the index
  split at ev
  · rename_i kk jj e1
    have e2 := ev
    · split at e2
      · rename_i f ef
        split at e2
        · rename_i xs e3
          split at e2
          · rename_i hc
            obtain ⟨nb, hl, hall⟩ := hc
            obtain ⟨as, hal, hmg⟩ := fs_addr K fs hops hall
            obtain ⟨fa, fd, pp, k1, k2, k3, k4⟩ := K.fn f _ r (by
              obtain ⟨jx, _, hx, _⟩ := L2.atI_get ef
              simpa using List.all_eq_true.mp hops f (List.mem_of_getElem? hx)) e2
            refine se_callV K rfl (mL_star m2) (mL_tail m2) ?_
            refine se_of (pe_ix ix_sem (pe_lst (pa_fs fs ns as hf hal hmg)) pe_se (ok_ix (mE_ok m1))) ?_
            refine ⟨sizeL (by rw [List.length_map, hal]; exact hl), fun p n => ?_⟩
            have g0 := Gr.lay S.fh n (.lst (as.map V.ref))
            refine hi X W j K m1 F0 H0 F _ st σ _ _ (S.mono g0) e1 ?_
            intro u H1 F1 g1 r1 f1
            have S1 := (S.mono g0).mono g1
            obtain ⟨a, ha, hfa⟩ : ∃ a, L2.atI (as.map V.ref) jj = some (.ref a) ∧ X.mg f = some (.ref a) := by
              unfold L2.atI at ef ⊢
              rw [List.length_map, hal]
              cases en : L2.ixN fs.length jj with
              | none => rw [en] at ef; cases ef
              | some mm =>
                rw [en] at ef
                have hm : mm < as.length := by rw [hal]; exact (List.getElem?_eq_some_iff.mp ef).1
                refine ⟨as[mm], ?_, hmg mm f _ ef (List.getElem?_eq_getElem hm)⟩
                show (as.map V.ref)[mm]? = _
                rw [List.getElem?_map, List.getElem?_eq_getElem hm]
                rfl
            rw [k1] at hfa
            cases hfa
            rw [r1.int]
            refine isem_of ix_list ⟨p, _, jj, _, rfl, rfl, .inl (.inl (g1.hh _ _ upd_same)), ha, fa, fd, pp, _, rfl, k2, k3, k4, ?_⟩
            refine args_sa K es (v :: vs) h m2 F0 H0 F1 H1 st σ _ _ S1 e3 fun ws H2 F2 g2 r' => ?_
            have g := (g0.trans g1).trans g2
            refine ⟨G.K.io, F2, _, _, g2.fh, S1.cel.mono g2, r'.plain nb, e2, ?_⟩
            cases r with
            | ok k d => exact fun v' H' F' g' r2 f2 => P v' H' F' (g.trans g') r2 fun e p q => g.hh.none (f2 e p q)
            | ex c => exact fun H' s => P H' (g.hh.trans s)
          · cases e2
        · cases e2
      · cases e2
  · cases ev
end
end Dv

/-! Dv, part G1: what is asked of cells: fields, methods, copies. -/
namespace Dv
open PySem PySem.Spec PyProof.Rows L2

section
variable {X : Cx} {CX : CXT} {k : Nat} {f C : Addr} {fd : FuncData} {ps : List Str} {sp : Sp} {E : L2.St → XK} {m : Str} {pos apos : Pos} {e o : Expr} {es : List Expr} {ta : TE} {t : TA}
/-- o.m(..), exceptions by the slots -/
def tMethS (C : Addr) (m : Str) (sp : Sp) (E : L2.St → XK) (ta : TE) (t : TA) : TE := fun σ H Q => ta σ H fun x H1 => ∃ a dx fs, x = .ref a ∧ H1 a = some (.ins C dx fs) ∧ fs.lookup m = none ∧ t σ H1 fun vs H2 => sp (x :: vs) H2 Q (E σ)
theorem pe_methSl {pl : Sem Bool} (he : PE X o ta) (c : Cls X.K C) (hm : Meth X.K C m f) (F : FnOk X.prog X.w X.K X.mg X.base CX k f fd ps sp) (hr : Room k X.A) (hb : Binds X.K fd ps []) (hx : ∀ σ, PassesAt CX X σ (E σ)) (ha : PA X (e :: es) t)
    (hst : starEach (e :: es) X.env = (false, eval e X.env) :: starEach es X.env) (hpl : (backTo pos (starEach es X.env)).any (·.1) = false)
    (ht : eval (.Call (.Attribute o m apos) (e :: es) [] pos) X.env = (do
      let ov ← eval o X.env
      standAt apos.atName
      let (f, first) ← holding [ov] (getMethod ov m pl)
      callWith pos f first (backTo pos (starEach (e :: es) X.env)) (backToKw pos (keywordEach [] X.env)))) :
    PE X (.Call (.Attribute o m apos) (e :: es) [] pos) (tMethS C m sp E ta t) := by
  refine ⟨fun pins s σ H Q I h => ?_⟩
  refine PySem.W.methodCall_KW (pl := pl) (thn (he.run pins s σ H _ I h) fun u s1 ⟨x, H1, I1, rx, a, dx, fs, ex, ea, l, q⟩ => ?_) ht
  subst ex
  obtain rfl : u = Value.ref a := rx
  refine getmeth_ok I1 ea c hm l ?_
  refine PySem.W.callWith_K (first := [.ref a]) (h₀ := X.base) I.ok.mod.kin hm.kp (thn (ha.run pos pins s1 σ H1 _ I1 q) fun us s2 ⟨vs, H2, I2, r, q2⟩ => ⟨I2.kIn, ?_⟩) hst hpl
  exact run_fnS (us := .ref a :: us) (vs := .ref a :: vs) F hr hb (hx σ) I2 (.cons rfl r) q2
theorem pe_methSl0 {pl : Sem Bool} (he : PE X o ta) (c : Cls X.K C) (hm : Meth X.K C m f) (F : FnOk X.prog X.w X.K X.mg X.base CX k f fd ps sp) (hr : Room k X.A) (hb : Binds X.K fd ps []) (hx : ∀ σ, PassesAt CX X σ (E σ))
    (ht : eval (.Call (.Attribute o m apos) [] [] pos) X.env = (do
      let ov ← eval o X.env
      standAt apos.atName
      let (f, first) ← holding [ov] (getMethod ov m pl)
      callWith pos f first (backTo pos (starEach [] X.env)) (backToKw pos (keywordEach [] X.env)))) :
    PE X (.Call (.Attribute o m apos) [] [] pos) (tMethS C m sp E ta tNil) := by
  refine ⟨fun pins s σ H Q I h => ?_⟩
  refine PySem.W.methodCall_KW (pl := pl) (thn (he.run pins s σ H _ I h) fun u s1 ⟨x, H1, I1, rx, a, dx, fs, ex, ea, l, q⟩ => ?_) ht
  subst ex
  obtain rfl : u = Value.ref a := rx
  refine getmeth_ok I1 ea c hm l ?_
  exact PySem.W.callWith_K0 (first := [.ref a]) I1.kIn hm.kp (run_fnS (us := [.ref a]) (vs := [.ref a]) F hr hb (hx σ) I1 (.cons rfl .nil) q)
theorem base_eval {env : Env} {n : Str} (h : okBase o = true) : attributeBase o n env (eval o env) = eval o env := by
  cases o <;> first | rfl | simp [okBase] at h
theorem recv_eval {env : Env} (h : okRecv o = true) (hl : (apos.endLine == pos.line) = true) (hn : es.length < 20) (hp : (backTo pos (starEach es env)).all (fun x => !x.1) = true) : ∃ pl : Sem Bool, eval (.Call (.Attribute o m apos) es [] pos) env = (do
      let ov ← eval o env
      standAt apos.atName
      let (f, first) ← holding [ov] (getMethod ov m pl)
      callWith pos f first (backTo pos (starEach es env)) (backToKw pos (keywordEach [] env))) := by
  refine ⟨(do return (← importBound o env).getD true), ?_⟩
  have hb : okBase o = true := by cases o <;> first | rfl | simp [okRecv] at h
  have hf : methodCallForm (es.length + ([] : List Keyword).length) (backTo pos (starEach es env)) (backToKw pos (keywordEach [] env)) = true := by
    unfold methodCallForm
    rw [hp]
    have hk : backToKw pos (keywordEach [] env) = [] := rfl
    rw [hk]
    show (true && true && decide (es.length + 0 + 0 < 30)) = true
    rw [decide_eq_true (by omega)]; rfl
  have e : eval (.Call (.Attribute o m apos) es [] pos) env = (do
      let ov ← attributeBase o m env (eval o env)
      standAt apos.atName
      methodCall o m apos pos env ov (es.length + ([] : List Keyword).length) (backTo pos (starEach es env)) (backToKw pos (keywordEach [] env))) := rfl
  rw [e, base_eval hb]
  unfold methodCall calleeOf methodCallPos
  rw [hf, hl]
  rfl
end
section
variable {G : GI}
theorem RV.ref {F H : Hp} {k : Kd} {n : Nat} {v : V} (h : RV G.K F H k (refD n) v) (s : Sub F H) : ∃ a, v = .ref a ∧ G.K.io n = some a := by
  rcases RV.dict (xs := [(.bool false, .int (n : Int))]) h s with ⟨a, ks, _, _, q⟩ | ⟨a, ns, _, h2, _⟩ | ⟨a, ys, r, _, h2, _⟩ | ⟨a, m, h1, h2, h3⟩
  · cases q
  · simp [scrD] at h2
  · simp at h2
  · simp only [refD, PyData.dict.injEq, List.cons.injEq, Prod.mk.injEq, PyData.int.injEq, and_true, true_and] at h2
    have : n = m := by omega
    subst this
    exact ⟨a, h1, h3⟩
theorem Rpf.look {κ : KM} {F : Hp} {f : Str} : ∀ {gs : List (Str × V)} {fs : List (Str × D)}, Rpf κ F gs fs → (∃ v d, gs.lookup f = some v ∧ fs.lookup f = some d ∧ Rp κ F v d) ∨ (gs.lookup f = none ∧ fs.lookup f = none)
  | _, _, .nil => .inr ⟨rfl, rfl⟩
  | _, _, @Rpf.cons _ _ g v d gs fs a r => by
    rw [List.lookup_cons, List.lookup_cons]
    cases h : (f == g) with
    | true => exact .inl ⟨v, d, rfl, rfl, a⟩
    | false => exact r.look
theorem opD_fld {fl : List (Str × Str)} {μ : Mu} {f : Str} {ds : List D} {r : EO} (h : opD fl μ (.fld f) ds = some r) : ∃ n c fs d, ds = [refD n] ∧ μ[n]? = some (.obj c fs) ∧ (c, f) ∈ fl ∧ fs.lookup f = some d ∧ r = .ok .shr d := by
  have go : ∀ n : Int, ds = [.dict [(.bool false, .int n)]] → (match μ[n.toNat]? with
    | some (.obj c fs) => if (c, f) ∈ fl ∧ 0 ≤ n then (fs.lookup f).map fun d => EO.ok .shr d else none
    | _ => none) = some r → ∃ n c fs d, ds = [refD n] ∧ μ[n]? = some (.obj c fs) ∧ (c, f) ∈ fl ∧ fs.lookup f = some d ∧ r = .ok .shr d := by
    intro n hd h
    split at h
    · rename_i c fs e
      split at h
      · rename_i hc
        obtain ⟨d, h1, rfl⟩ := Option.map_eq_some_iff.mp h
        refine ⟨_, c, fs, d, ?_, e, hc.1, h1, rfl⟩
        rw [hd]
        simp only [refD]
        rw [Int.toNat_of_nonneg hc.2]
      · cases h
    · cases h
  match ds, h, go with
  | [.dict [(.bool false, .int n)]], h, go => exact go n rfl h
theorem opD_lst {fl : List (Str × Str)} {μ : Mu} {ds : List D} {r : EO} (h : opD fl μ .lstof ds = some r) : ∃ n xs, ds = [refD n] ∧ μ[n]? = some (.lst xs) ∧ r = .ok .frs (.list xs) := by
  have go : ∀ n : Int, ds = [.dict [(.bool false, .int n)]] → (match μ[n.toNat]? with
    | some (.lst xs) => if 0 ≤ n then some (EO.ok .frs (.list xs)) else none
    | _ => none) = some r → ∃ n xs, ds = [refD n] ∧ μ[n]? = some (.lst xs) ∧ r = .ok .frs (.list xs) := by
    intro n hd h
    split at h
    · rename_i xs e
      split at h
      · rename_i hc
        cases h
        refine ⟨_, xs, ?_, e, rfl⟩
        rw [hd]
        simp only [refD]
        rw [Int.toNat_of_nonneg hc]
      · cases h
    · cases h
  match ds, h, go with
  | [.dict [(.bool false, .int n)]], h, go => exact go n rfl h
theorem rcvD_some {μ : Mu} {c m : Str} {ds : List D} (h : rcvD μ c m ds = true) : ∃ n fs rs, ds = refD n :: rs ∧ μ[n]? = some (.obj c fs) ∧ fs.lookup m = none := by
  unfold rcvD at h
  split at h
  · rename_i n rs
    split at h
    · rename_i c' fs e
      simp only [Bool.and_eq_true, decide_eq_true_eq, Option.isNone_iff_eq_none] at h
      obtain ⟨⟨rfl, h1⟩, h2⟩ := h
      refine ⟨n.toNat, fs, rs, ?_, e, h1⟩
      simp only [refD]
      rw [Int.toNat_of_nonneg h2]
    · cases h
  · cases h
theorem evL_cons {Φ : Str → List D → Option EO} {a : E} {es : List E} {st : Ev} {xs : List (Kd × D)} (h : evL Φ (a :: es) st = some (.ok xs)) : ∃ k d ys, evE Φ a st = some (.ok k d) ∧ evL Φ es st = some (.ok ys) ∧ xs = (k, d) :: ys := by
  rw [evL] at h
  unfold consA at h
  split at h
  · rename_i k d e1
    split at h
    · rename_i ys e2
      cases h
      exact ⟨k, d, ys, e1, e2, rfl⟩
    · cases h
    · cases h
  · cases h
  · cases h
theorem evL_nil {Φ : Str → List D → Option EO} {st : Ev} {xs : List (Kd × D)} (h : evL Φ [] st = some (.ok xs)) : xs = [] := by
  rw [evL] at h
  cases h
  rfl
/-- an object's cell, as it lies -/
theorem obj_at {F H : Hp} {n : Nat} {a : Addr} {c : Str} {fs : List (Str × D)} (hm : HM G.K F H) (e : G.K.io n = some a) (h : G.K.mu[n]? = some (.obj c fs)) : ∃ dx gs, H a = some (.ins (G.K.ca c) dx gs) ∧ H dx = some (.own a) ∧ Rpf G.K F gs fs := by
  obtain ⟨c', h1, _, h2⟩ := hm.of e
  rw [h] at h1
  cases h1
  exact h2
theorem mL_allp {c : Cc} {sc : Scope} {env : Env} {pos : Pos} : ∀ (es : List E) (vs : List Expr), mL c sc es vs = true → (backTo pos (starEach vs env)).all (fun x => !x.1) = true
  | [], vs, m => by cases mL_nil m; rfl
  | e :: es, vs, m => by
    obtain ⟨v, ws, rfl, m1, m2⟩ := mL_cons m
    rw [ok_star (mE_ok m1)]
    show (true && (backTo pos (starEach ws env)).all (fun x => !x.1)) = true
    rw [mL_allp es ws m2]; rfl
theorem snd_cop {o : Cop} {es : List E} (h : SndAll G es) : SndE G (.cop o es) := by
  intro X W ex K m F0 H0 F H st σ r Q S ev P
  rw [evE] at ev
  split at ev
  · rename_i xs e1
    split at ev
    · rename_i nb
      rcases mE_cop m with ⟨f, a, e, pos, rfl, rfl, rfl, hb, m1⟩ | ⟨cl, mn, a, rs, rc, apos, vs, pos, rfl, rfl, rfl, hrc, hln, hvl, m1, m2⟩ | ⟨a, g, e, pos, rfl, rfl, rfl, hg, m1⟩
      · -- a field
        obtain ⟨k, d, ys, ea, e2, rfl⟩ := evL_cons e1
        cases evL_nil e2
        obtain ⟨n, c, fs, d', hd, hn, hf, hl, rfl⟩ := opD_fld (K.op _ _ _ (by intro c m z; cases z) ev)
        simp only [List.map_cons, List.map_nil, List.cons.injEq, and_true] at hd
        subst hd
        refine se_of (pe_fld pe_se (base_eval hb)) ?_
        refine h a (by simp) X W e K m1 F0 H0 F H st σ _ _ S ea fun v H1 F1 g1 r1 f1 => ?_
        obtain ⟨p, rfl, hp⟩ := r1.ref g1.fh
        obtain ⟨dx, gs, h1, h2, h3⟩ := obj_at (S.mono g1).cel hp hn
        obtain ⟨hc, ha⟩ := K.cls _ _ hf
        rcases h3.look (f := f) with ⟨v, d2, l1, l2, l3⟩ | ⟨_, l2⟩
        · rw [hl] at l2
          cases l2
          exact ⟨p, _, dx, gs, v, rfl, h1, hc, ha, l1, post_shr P g1 l3⟩
        · rw [hl] at l2; cases l2
      · -- a method
        obtain ⟨k, d, ys, ea, e2, rfl⟩ := evL_cons e1
        obtain ⟨hrv, fa, fd, ps, hc, hm, hbd, F1⟩ := K.mt _ _ _ _ ev
        obtain ⟨n, fs, rs', hd, hn, hl⟩ := rcvD_some hrv
        simp only [List.map_cons, List.cons.injEq] at hd
        obtain ⟨rfl, _⟩ := hd
        obtain ⟨pl, hev⟩ := recv_eval (m := mn) (apos := apos) (es := vs) (pos := pos) (env := X.env) hrc hln hvl (mL_allp rs vs m2)
        have nb2 : noBrw ys = true := by
          simp only [noBrw, List.all_cons, Bool.and_eq_true] at nb
          exact nb.2
        have fin : ∀ {p : Addr} {ws : List V} {H2 F2 : Hp}, Gr F H F2 H2 → HM G.K F2 H2 → G.K.io n = some p → RVs G F2 H2 ws ys → spOf G.K G.ea (G.Φ (opName (.mth cl mn))) (.ref p :: ws) H2 Q (WE W σ) := fun {p ws H2 F2} g hm2 hp r' => by
          refine ⟨G.K.io, F2, _, _, g.fh, hm2, .cons (.ref hp) (r'.plain nb2), ev, ?_⟩
          cases r with
          | ok k d => exact fun v' H' F' g' r2 f2 => P v' H' F' (g.trans g') r2 fun e p q => g.hh.none (f2 e p q)
          | ex c => exact fun H' s => P H' (g.hh.trans s)
        have sa : ∀ {p : Addr} {H1 F1 : Hp}, Gr F H F1 H1 → G.K.io n = some p → SA X vs σ H1 fun ws H2 => spOf G.K G.ea (G.Φ (opName (.mth cl mn))) (.ref p :: ws) H2 Q (WE W σ) := fun {p H1 F1} g1 hp => by
          refine args_sa K rs vs (fun x hx => h x (by simp [hx])) m2 F0 H0 F1 H1 st σ _ _ (S.mono g1) e2 fun ws H2 F2 g2 r' => ?_
          exact fin (g1.trans g2) ((S.mono g1).mono g2).cel hp r'
        have rcv : ∀ {R : TA}, (∀ p H1 F1, Gr F H F1 H1 → G.K.io n = some p → R σ H1 fun ws H2 => spOf G.K G.ea (G.Φ (opName (.mth cl mn))) (.ref p :: ws) H2 Q (WE W σ)) → tMethS (G.K.ca cl) mn (spOf G.K G.ea (G.Φ (opName (.mth cl mn)))) (WE W) (SE X rc) R σ H Q := fun {R} hR => by
          refine h a (by simp) X W rc K m1 F0 H0 F H st σ _ _ S ea fun v H1 F1 g1 r1 f1 => ?_
          obtain ⟨p, rfl, hp⟩ := r1.ref g1.fh
          obtain ⟨dx, gs, h1, h2, h3⟩ := obj_at (S.mono g1).cel hp hn
          have hno : gs.lookup mn = none := by
            rcases h3.look (f := mn) with ⟨v, d2, l1, l2, l3⟩ | ⟨l1, _⟩
            · rw [hl] at l2; cases l2
            · exact l1
          exact ⟨p, dx, gs, rfl, h1, hno, hR p H1 F1 g1 hp⟩
        cases vs with
        | nil =>
          cases mL_nil_r m2
          refine se_of (pe_methSl0 (pl := pl) pe_se hc hm F1 K.room hbd (fun σ => passAt K.tk σ) hev) ?_
          refine rcv fun p H1 F1' g1 hp => ?_
          cases evL_nil e2
          exact fin g1 (S.mono g1).cel hp .nil
        | cons w ws0 =>
          refine se_of (pe_methSl (pl := pl) pe_se hc hm F1 K.room hbd (fun σ => passAt K.tk σ) pa_sa (mL_star m2) (mL_tail m2) hev) ?_
          exact rcv fun p H1 F1' g1 hp => sa g1 hp
      · -- a copy
        obtain ⟨k, d, ys, ea, e2, rfl⟩ := evL_cons e1
        cases evL_nil e2
        obtain ⟨n, ds, hd, hn, rfl⟩ := opD_lst (K.op _ _ _ (by intro c m z; cases z) ev)
        simp only [List.map_cons, List.map_nil, List.cons.injEq, and_true] at hd
        subst hd
        obtain ⟨p2, rfl, hgl, hpl⟩ := isG_name hg
        obtain ⟨h1, h2, h3⟩ := plain_all hpl
        refine se_of (pe_b1 (f := .lst) rfl (glB_gl hgl) (K.bl _ (b1_in .lst)) (mE_ok m1) h3 h1) ?_
        refine h a (by simp) X W e K m1 F0 H0 F H st σ _ _ S ea fun v H1 F1 g1 r1 f1 => ?_
        obtain ⟨p, rfl, hp⟩ := r1.ref g1.fh
        obtain ⟨c', q1, _, vs, q2, q3⟩ : ∃ c', G.K.mu[n]? = some c' ∧ F1 p = none ∧ ∃ vs, H1 p = some (.lst vs) ∧ Rps G.K F1 vs ds := by
          obtain ⟨c', q1, q2, q3⟩ := (S.mono g1).cel.of hp
          rw [hn] at q1
          cases q1
          exact ⟨_, hn, q2, q3⟩
        exact csem_of call_list_of ⟨p, vs, rfl, .inl (.inl (.inl q2)), fun q n => post_lst P g1 q3 n⟩
    · cases ev
  · cases ev
end
end Dv

/-! Dv, part H: comprehensions; every expression. -/
namespace Dv
open PySem PySem.Spec PyProof.Rows L2

section
variable {G : GI}
/-- a comprehension's tests and element, whatever its block -/
def BT (X : Cx) (scope : Scope) (e : Expr) : TT := fun σ H Q => ∀ (s : Shared) (H' : Hp) (C : Addr) (cl : List (Str × Addr)) (fp : List Addr), ST (X.blk s H' scope (compEnvC scope cl C X.env) fp) e σ H Q
def BE (X : Cx) (scope : Scope) (e : Expr) : TE := fun σ H Q => ∀ (s : Shared) (H' : Hp) (C : Addr) (cl : List (Str × Addr)) (fp : List Addr), SE (X.blk s H' scope (compEnvC scope cl C X.env) fp) e σ H Q
def BTs (X : Cx) (scope : Scope) : List Expr → TT
  | [] => tYes
  | [e] => BT X scope e
  | _ => fun _ _ _ => False
theorem pts_bt {X : Cx} {scope : Scope} (es : List Expr) (s : Shared) (H : Hp) (C : Addr) (cl : List (Str × Addr)) (fp : List Addr) (h : ∃ b : Option Expr, es = b.toList) : PTs (X.blk s H scope (compEnvC scope cl C X.env) fp) es (BTs X scope es) := by
  obtain ⟨b, rfl⟩ := h
  cases b with
  | none => exact pts_nil
  | some e => exact pts_one ⟨fun pins s' σ H' Q I q => q s H C cl fp pins s' I⟩
theorem pe_be {X : Cx} {scope : Scope} {e : Expr} (s : Shared) (H : Hp) (C : Addr) (cl : List (Str × Addr)) (fp : List Addr) : PE (X.blk s H scope (compEnvC scope cl C X.env) fp) e (BE X scope e) :=
  ⟨fun pins s' σ H' Q I q => q s H C cl fp pins s' I⟩
/-- ahead of a turn: the list so far at A, what is left -/
def CI (G : GI) (F1 H1 : Hp) (A : Addr) (tt : D → Option Bool) (te : D → Option D) (res rest : List D) (H : Hp) : Prop :=
  ∃ F' acc ys zs, Gr F1 H1 F' H ∧ H A = some (.lst acc) ∧ F' A = none ∧ Rps G.K F' acc ys ∧ compGo tt te rest = some zs ∧ res = ys ++ zs
theorem comp_turn {W : WX} {X : Cx} {scope : Scope} {x : E} {elt : Expr} {ifs : List E} {cs : List Expr} {i : Nat} (hx : SndE G x) (hs : SntAll G ifs) (K : CK G W X) (m1 : mE (cc G X) (relS scope X.env.scope) x elt = true) (m2 : mL (cc G X) (relS scope X.env.scope) ifs cs = true)
    {F0 H0 F1 H1 H : Hp} {st : Ev} {σ : L2.St} (S : StOK G.K F0 H0 F1 H1 st σ) {A : Addr} (nA : H1 A = none) {res rest : List D} {d : D} {v : V} (hres : res.length ≤ lim) (rv : Rp G.K F1 v d) {σ2 : L2.St} (h2 : σ2 = σ.set i (some v))
    (I : CI G F1 H1 A (fun d => tests (evB G.Φ ifs (st.set i (some (false, d))))) (fun d => asD (evE G.Φ x (st.set i (some (false, d))))) res (d :: rest) H) :
    BTs X scope cs σ2 H fun b H3 => if b = true then BE X scope elt σ2 H3 fun y H4 => ∃ acc, H4 A = some (.lst acc) ∧ acc.length < sizeLine ∧
        CI G F1 H1 A (fun d => tests (evB G.Φ ifs (st.set i (some (false, d))))) (fun d => asD (evE G.Φ x (st.set i (some (false, d))))) res rest (upd H4 A (.lst (acc ++ [y])))
      else CI G F1 H1 A (fun d => tests (evB G.Φ ifs (st.set i (some (false, d))))) (fun d => asD (evE G.Φ x (st.set i (some (false, d))))) res rest H3 := by
  subst h2
  obtain ⟨F', acc, ys, zs, g, hA, nF, q, e, er⟩ := I
  have S2 : StOK G.K F0 H0 F' H (st.set i (some (false, d))) (σ.set i (some v)) := (S.mono g).setS i (rv.to g.ff)
  rw [compGo] at e
  -- what the test answers
  have hb : ∃ b, tests (evB G.Φ ifs (st.set i (some (false, d)))) = some b := by
    cases q : tests (evB G.Φ ifs (st.set i (some (false, d)))) with
    | none => rw [q] at e; cases e
    | some b => exact ⟨b, rfl⟩
  obtain ⟨b, hb⟩ := hb
  have main : ∀ (F3 H3 : Hp), Gr F' H F3 H3 → (if b = true then BE X scope elt (σ.set i (some v)) H3 fun y H4 => ∃ acc, H4 A = some (.lst acc) ∧ acc.length < sizeLine ∧
        CI G F1 H1 A (fun d => tests (evB G.Φ ifs (st.set i (some (false, d))))) (fun d => asD (evE G.Φ x (st.set i (some (false, d))))) res rest (upd H4 A (.lst (acc ++ [y])))
      else CI G F1 H1 A (fun d => tests (evB G.Φ ifs (st.set i (some (false, d))))) (fun d => asD (evE G.Φ x (st.set i (some (false, d))))) res rest H3) := fun F3 H3 g3 => by
    rw [hb] at e
    cases b with
    | false =>
      rw [if_neg Bool.false_ne_true]
      exact ⟨F3, acc, ys, zs, g.trans g3, g3.hh _ _ hA, g3.out hA nF, q.to g3.ff, e, er⟩
    | true =>
      rw [if_pos rfl]
      intro s' H' C cl fp
      simp only at e
      cases ee : evE G.Φ x (st.set i (some (false, d))) with
      | none => rw [ee] at e; simp [asD] at e
      | some r =>
        cases r with
        | ex c => rw [ee] at e; simp [asD] at e
        | ok k y =>
          have hk : k ≠ .brw ∧ asD (some (EO.ok k y)) = some y := by
            cases k with
            | brw => rw [ee] at e; simp [asD] at e
            | shr => exact ⟨by decide, rfl⟩
            | frs => exact ⟨by decide, rfl⟩
          rw [ee, hk.2] at e
          simp only at e
          cases e3 : compGo (fun d => tests (evB G.Φ ifs (st.set i (some (false, d))))) (fun d => asD (evE G.Φ x (st.set i (some (false, d))))) rest with
          | none => rw [e3] at e; cases e
          | some zs' =>
            rw [e3] at e
            cases e
            refine hx _ _ elt (K.blk s' H' scope C cl fp) m1 F0 H0 F3 H3 (st.set i (some (false, d))) (σ.set i (some v)) _ _ (S2.mono g3) ee fun w H4 F4 g4 r4 f4 => ?_
            obtain ⟨F5, g5, r5⟩ := shareA g4 r4 f4
            have hw : Rp G.K F5 w y := by
              cases k with
              | brw => exact absurd rfl hk.1
              | shr => exact r5
              | frs => exact r5
            have hA4 := g5.hh _ _ (g3.hh _ _ hA)
            have nF5 := g5.out (g3.hh _ _ hA) (g3.out hA nF)
            have gg := (g.trans g3).trans g5
            have hl := q.length
            refine ⟨acc, hA4, ?_, F5, acc ++ [w], ys ++ [y], zs', ⟨gg.ff, fun a o z => ?_, fun a o z => ?_, gg.nw⟩, upd_same, nF5, (q.to (g3.ff.trans g5.ff)).append (.cons hw .nil), e3, by rw [er, List.append_assoc]; rfl⟩
            · have : acc.length ≤ lim := by rw [hl]; rw [er, List.length_append] at hres; omega
              exact Nat.lt_of_le_of_lt this (by rw [sizeLine_eq]; decide)
            · rw [upd_ne (ne_of_none z nF5)]
              exact gg.fh _ _ z
            · rw [upd_ne (ne_of_none z nA)]
              exact gg.hh _ _ z
  cases ifs with
  | nil =>
    cases mL_nil m2
    rw [evB, tests] at hb
    cases hb
    exact main F' H (Gr.refl g.fh)
  | cons c1 ifs =>
    obtain ⟨e1, ws, rfl, m3, m4⟩ := mL_cons m2
    cases ifs with
    | cons c2 ifs => simp [evB, tests] at hb
    | nil =>
      cases mL_nil m4
      rw [evB, evB, tests] at hb
      have ec : evE G.Φ c1 (st.set i (some (false, d))) = some (.ok .shr (.bool b)) := by
        unfold asB at hb
        split at hb
        · rename_i b' e'
          cases hb
          exact e'
        · cases hb
      intro s' H' C cl fp
      exact hs c1 (by simp) _ _ e1 (K.blk s' H' scope C cl fp) m3 F0 H0 F' H (st.set i (some (false, d))) (σ.set i (some v)) _ _ S2 ec fun H3 F3 g3 => main F3 H3 g3
theorem ci_start {F1 H1 : Hp} {A : Addr} (h : Sub F1 H1) (n : H1 A = none) {tt : D → Option Bool} {te : D → Option D} {res ds : List D} (e : compGo tt te ds = some res) : CI G F1 H1 A tt te res ds (upd H1 A (.lst [])) :=
  ⟨F1, [], [], res, Gr.lay h n _, upd_same, h.none n, .nil, e, rfl⟩
theorem ci_end {W : WX} {σ : L2.St} {F H F1 H1 H2 : Hp} {A : Addr} {tt : D → Option Bool} {te : D → Option D} {res : List D} {Q : VK} (P : PostE G W σ F H (.ok .frs (.list res)) Q) (g : Gr F H F1 H1) (n : H1 A = none) (I : CI G F1 H1 A tt te res [] H2) : Q (.ref A) H2 := by
  obtain ⟨F', acc, ys, zs, g2, hA, nF, q, e, er⟩ := I
  rw [compGo] at e
  cases e
  rw [List.append_nil] at er
  subst er
  exact P _ _ F' (g.trans g2) ⟨A, rfl, nF, ⟨acc, hA, q⟩, fun e => nomatch e⟩ fun _ p z => by cases z; exact g.hh.none n
theorem drop_cons {α : Type} {ds : List α} {j : Nat} {d : α} (h : ds[j]? = some d) : ds.drop j = d :: ds.drop (j + 1) := by
  obtain ⟨hl, e⟩ := List.getElem?_eq_some_iff.mp h
  rw [List.drop_eq_getElem_cons hl, e]
theorem blk_own {N : List Str} {sc scope : Scope} {y : Str} {i : Nat} (h : blkC N sc scope [(y, i)] = true) : N[i]? = some y := (blkOk_by h).ix (y, i) (by simp)
theorem pg_blk {W : WX} {X : Cx} {scope : Scope} {y : Str} {p : Pos} {i : Nat} (K : CK G W X) (hb : blkC X.N X.env.scope scope [(y, i)] = true) (hl : locB scope y = true) (s : Shared) (H : Hp) (C : Addr) (cl : List (Str × Addr)) (fp : List Addr) :
    PG (X.blk s H scope (compEnvC scope cl C X.env) fp) (.Name y p) (gName i) := by
  have h := locB_all hl
  have up : ∀ {k : NameKind}, k ≠ .free → scope.names.lookup y = some k → (compEnvC scope cl C X.env).scope.names.lookup y = some k := fun hk e => lookup_relS_keep (sc := X.env.scope) hk e
  rcases h with h | h
  · exact pg_name K.nd (blk_own hb) (.inl (up (by decide) h)) (.inr (up (by decide) h))
  · refine pg_name K.nd (blk_own hb) (.inr (up (by decide) h)) (.inl ?_)
    show (scope.names.lookup y == some .cell) = true
    rw [h]
    rfl
theorem set_wipe (σ : L2.St) (i : Nat) (v : V) : (wipe σ [i]).set i (some v) = σ.set i (some v) ∧ wipe (σ.set i (some v)) [i] = wipe σ [i] := by
  constructor
  · show (σ.set i none).set i (some v) = _
    rw [List.set_set]
  · show (σ.set i (some v)).set i none = σ.set i none
    rw [List.set_set]
theorem ifs_ok {tt : List (Option EO)} {b : Bool} (h : tests tt = some b) : tt.length ≤ 1 := by
  unfold tests at h
  split at h <;> simp_all
theorem evB_length (ifs : List E) (st : Ev) : (evB G.Φ ifs st).length = ifs.length := by
  induction ifs with
  | nil => rw [evB]; rfl
  | cons c ifs ih => rw [evB, List.length_cons, List.length_cons, ih]
theorem mL_length {c : Cc} {sc : Scope} : ∀ {es : List E} {vs : List Expr}, mL c sc es vs = true → es.length = vs.length
  | [], vs, m => by cases mL_nil m; rfl
  | e :: es, vs, m => by
    obtain ⟨v, ws, rfl, m1, m2⟩ := mL_cons m
    rw [List.length_cons, List.length_cons, mL_length m2]
/-- the tests are none or one, or there is no turn -/
theorem opt_list {α : Type} {l : List α} (h : l.length ≤ 1) : ∃ b : Option α, l = b.toList := by
  match l, h with
  | [], _ => exact ⟨none, rfl⟩
  | [a], _ => exact ⟨some a, rfl⟩
/-- all that a comprehension's rules ask -/
def LcPack (X : Cx) (elt tg iter : Expr) (cs : List Expr) (scope : Scope) : TE := fun σ H Q => ∃ (own : List (Str × Nat)) (wi : TI) (g : TG) (tt : TT) (te : TE), PI X tg iter wi ∧ BlkOk X.N X.env.scope scope own ∧
  (∀ (s : Shared) (H : Hp) (C : Addr) (cl : List (Str × Addr)) (fp : List Addr), PG (X.blk s H scope (compEnvC scope cl C X.env) fp) tg g) ∧ (∀ (s : Shared) (H : Hp) (C : Addr) (cl : List (Str × Addr)) (fp : List Addr), PTs (X.blk s H scope (compEnvC scope cl C X.env) fp) cs tt) ∧
  (∀ (s : Shared) (H : Hp) (C : Addr) (cl : List (Str × Addr)) (fp : List Addr), PE (X.blk s H scope (compEnvC scope cl C X.env) fp) elt te) ∧ (∀ x, foldedSetIterable iter X.env x = pure x) ∧ tLc wi g tt te (own.map (·.2)) σ H Q
theorem pack_se {W : WX} {X : Cx} (K : CK G W X) {elt tg iter : Expr} {cs : List Expr} {scope : Scope} {pos : Pos} {σ : L2.St} {H : Hp} {Q : VK} (h : LcPack X elt tg iter cs scope σ H Q) : SE X (.ListComp elt [⟨tg, iter, cs, 0⟩] scope pos) σ H Q := by
  obtain ⟨own, wi, g, tt, te, h1, h2, h3, h4, h5, h6, h7⟩ := h
  exact se_of (pe_lc K.calm K.nd h1 h2 h3 h4 h5 h6) h7
theorem read_cmpL {x src : E} {i : Nat} {ifs : List E} (hx : SndE G x) (hsr : SndE G src) (hs : SntAll G ifs) {W : WX} {X : Cx} (K : CK G W X) {elt it : Expr} {y : Str} {p1 : Pos} {cs : List Expr} {scope : Scope}
    (m1 : mE (cc G X) X.env.scope src it = true) (hb : blkC X.N X.env.scope scope [(y, i)] = true) (hl : locB scope y = true) (m2 : mE (cc G X) (relS scope X.env.scope) x elt = true) (m3 : mL (cc G X) (relS scope X.env.scope) ifs cs = true) (hz : ifs.length ≤ 1)
    {F0 H0 F H : Hp} {st : Ev} {σ : L2.St} {r : EO} {Q : VK} (S : StOK G.K F0 H0 F H st σ) (ev : evE G.Φ (.cmpL x i src ifs) st = some r) (P : PostE G W σ F H r Q) : LcPack X elt (.Name y p1) it cs scope σ H Q := by
  rw [evE] at ev
  have hcs := opt_list (l := cs) (by rw [← mL_length m3]; exact hz)
  -- the source: a list or a tuple
  rcases bindV_some ev with ⟨k, d, e1, e2⟩ | ⟨c, e1, rfl⟩
  · cases e3 : itemsD d with
    | none => rw [e3] at e2; cases e2
    | some ds =>
      rw [e3] at e2
      simp only at e2
      cases e4 : compGo (fun d => tests (evB G.Φ ifs (st.set i (some (false, d))))) (fun d => asD (evE G.Φ x (st.set i (some (false, d))))) ds with
      | none => rw [e4] at e2; simp [sized] at e2
      | some res =>
        rw [e4] at e2
        simp only [sized] at e2
        split at e2
        · rename_i hres
          cases e2
          cases d with
          | list xs =>
            cases e3
            refine ⟨[(y, i)], _, gName i, BTs X scope cs, BE X scope elt, pi_list pe_se, blkOk_by hb, (fun s H C cl fp => pg_blk K hb hl s H C cl fp), (fun s H C cl fp => pts_bt cs s H C cl fp hcs), (fun s H C cl fp => pe_be s H C cl fp), (ok_set (mE_ok m1)), ?_⟩
            refine hsr X W it K m1 F0 H0 F H st σ _ _ S e1 fun v H1 F1 g1 r1 f1 => ?_
            obtain ⟨a, vs, rfl, ea, qa⟩ := r1.lst g1.fh
            have S1 := S.mono g1
            refine ⟨a, rfl, ⟨vs, .inl (.inl ea)⟩, fun A nA => ?_⟩
            refine lc_list (xs := vs) (fun j H' => CI G F1 H1 A (fun d => tests (evB G.Φ ifs (st.set i (some (false, d))))) (fun d => asD (evE G.Φ x (st.set i (some (false, d))))) res (ds.drop j) H') ?_ (fun j H' _ I => ?_) (fun j v H' hv I => ?_) fun H' I => ?_
            · exact ci_start g1.fh nA e4
            · obtain ⟨F', _, _, _, g, _⟩ := I
              exact .inl (.inl (g.hh _ _ ea))
            · obtain ⟨d, hd, rd⟩ := qa.getV hv
              rw [drop_cons hd] at I
              obtain ⟨w1, w2⟩ := set_wipe σ i v
              exact ⟨by show wipe ((wipe σ [i]).set i (some v)) [i] = wipe σ [i]; rw [w1]; exact w2, comp_turn hx hs K m2 m3 S1 nA hres rd w1 I⟩
            · rw [qa.length, List.drop_length] at I
              exact ci_end P g1 nA I
          | tuple xs =>
            cases e3
            refine ⟨[(y, i)], _, gName i, BTs X scope cs, BE X scope elt, pi_tup pe_se, blkOk_by hb, (fun s H C cl fp => pg_blk K hb hl s H C cl fp), (fun s H C cl fp => pts_bt cs s H C cl fp hcs), (fun s H C cl fp => pe_be s H C cl fp), (ok_set (mE_ok m1)), ?_⟩
            refine hsr X W it K m1 F0 H0 F H st σ _ _ S e1 fun v H1 F1 g1 r1 f1 => ?_
            obtain ⟨a, vs, rfl, ea, qa⟩ := r1.tup
            have S1 := S.mono g1
            refine ⟨a, rfl, ⟨vs, SqT.of (g1.fh _ _ ea)⟩, fun A nA => ?_⟩
            refine lc_tup (xs := vs) (fun j H' => CI G F1 H1 A (fun d => tests (evB G.Φ ifs (st.set i (some (false, d))))) (fun d => asD (evE G.Φ x (st.set i (some (false, d))))) res (ds.drop j) H') ?_ (fun j H' _ I => ?_) (fun j v H' hv I => ?_) fun H' I => ?_
            · exact ci_start g1.fh nA e4
            · obtain ⟨F', _, _, _, g, _⟩ := I
              exact SqT.of (g.hh _ _ (g1.fh _ _ ea))
            · obtain ⟨d, hd, rd⟩ := qa.getV hv
              rw [drop_cons hd] at I
              obtain ⟨w1, w2⟩ := set_wipe σ i v
              exact ⟨by show wipe ((wipe σ [i]).set i (some v)) [i] = wipe σ [i]; rw [w1]; exact w2, comp_turn hx hs K m2 m3 S1 nA hres rd w1 I⟩
            · rw [qa.length, List.drop_length] at I
              exact ci_end P g1 nA I
          | _ => cases e3
        · cases e2
  · refine ⟨[(y, i)], _, gName i, BTs X scope cs, BE X scope elt, pi_list pe_se, blkOk_by hb, (fun s H C cl fp => pg_blk K hb hl s H C cl fp), (fun s H C cl fp => pts_bt cs s H C cl fp hcs), (fun s H C cl fp => pe_be s H C cl fp), (ok_set (mE_ok m1)), ?_⟩
    exact hsr X W it K m1 F0 H0 F H st σ _ _ S e1 P
theorem read_cmpR {x n : E} {i : Nat} {ifs : List E} (hx : SndE G x) (hn : SndE G n) (hs : SntAll G ifs) {W : WX} {X : Cx} (K : CK G W X) {elt it : Expr} {y : Str} {p1 p2 p3 : Pos} {cs : List Expr} {scope : Scope}
    (hgl : glB X.env.scope "range" = true) (m1 : mE (cc G X) X.env.scope n it = true) (hb : blkC X.N X.env.scope scope [(y, i)] = true) (hl : locB scope y = true) (m2 : mE (cc G X) (relS scope X.env.scope) x elt = true) (m3 : mL (cc G X) (relS scope X.env.scope) ifs cs = true) (hz : ifs.length ≤ 1)
    {F0 H0 F H : Hp} {st : Ev} {σ : L2.St} {r : EO} {Q : VK} (S : StOK G.K F0 H0 F H st σ) (ev : evE G.Φ (.cmpR x i n ifs) st = some r) (P : PostE G W σ F H r Q) : LcPack X elt (.Name y p1) (.Call (.Name "range" p3) [it] [] p2) cs scope σ H Q := by
  rw [evE] at ev
  have hcs := opt_list (l := cs) (by rw [← mL_length m3]; exact hz)
  refine ⟨[(y, i)], _, gName i, BTs X scope cs, BE X scope elt, pi_range1 (glB_gl hgl) (K.bl _ (by decide +kernel)) (arg1 (mE_ok m1)) (ok_star (mE_ok m1)), blkOk_by hb, (fun s H C cl fp => pg_blk K hb hl s H C cl fp), (fun s H C cl fp => pts_bt cs s H C cl fp hcs), (fun s H C cl fp => pe_be s H C cl fp), (fun _ => rfl), ?_⟩
  rcases bindV_some ev with ⟨k, d, e1, e2⟩ | ⟨c, e1, rfl⟩
  · refine hn X W it K m1 F0 H0 F H st σ _ _ S e1 fun v H1 F1 g1 r1 f1 => ?_
    split at e2
    · rename_i nn
      split at e2
      · rename_i hnn
        cases e4 : compGo (fun d => tests (evB G.Φ ifs (st.set i (some (false, d))))) (fun d => asD (evE G.Φ x (st.set i (some (false, d))))) (rngD nn.toNat) with
        | none => rw [e4] at e2; simp [sized] at e2
        | some res =>
          rw [e4] at e2
          simp only [sized] at e2
          split at e2
          · rename_i hres
            cases e2
            have S1 := S.mono g1
            refine ⟨nn, by rw [r1.int], by omega, by omega, fun A nA => ?_⟩
            refine lc_range (lo := 0) (n := nn.toNat) (fun j H' => CI G F1 H1 A (fun d => tests (evB G.Φ ifs (st.set i (some (false, d))))) (fun d => asD (evE G.Φ x (st.set i (some (false, d))))) res ((rngD nn.toNat).drop j) H') ?_ (fun j H' hj I => ?_) fun H' I => ?_
            · exact ci_start g1.fh nA e4
            · have hd : (rngD nn.toNat)[j]? = some (.int (j : Int)) := by
                unfold rngD
                rw [List.getElem?_map, List.getElem?_range hj]
                rfl
              rw [drop_cons hd] at I
              obtain ⟨w1, w2⟩ := set_wipe σ i (.int (0 + (j : Int)))
              have rj : Rp G.K F1 (.int (0 + (j : Int))) (.int (j : Int)) := by rw [Int.zero_add]; exact .int _
              exact ⟨by show wipe ((wipe σ [i]).set i (some (.int (0 + (j : Int))))) [i] = wipe σ [i]; rw [w1]; exact w2, comp_turn hx hs K m2 m3 S1 nA hres rj w1 I⟩
            · have hlen : (rngD nn.toNat).length = nn.toNat := by unfold rngD; rw [List.length_map, List.length_range]
              rw [List.drop_of_length_le (Nat.le_of_eq hlen)] at I
              exact ci_end P g1 nA I
          · cases e2
      · cases e2
    · cases e2
  · exact hn X W it K m1 F0 H0 F H st σ _ _ S e1 P
theorem snd_cmpL {x src : E} {i : Nat} {ifs : List E} (hx : SndE G x) (hsr : SndE G src) (hs : SntAll G ifs) : SndE G (.cmpL x i src ifs) := by
  intro X W ex K m F0 H0 F H st σ r Q S ev P
  obtain ⟨elt, y, p1, it, cs, scope, pos, rfl, m1, hb, hl, m2, m3, hz⟩ := mE_cmpL m
  exact pack_se K (read_cmpL hx hsr hs K m1 hb hl m2 m3 hz S ev P)
theorem snd_cmpR {x n : E} {i : Nat} {ifs : List E} (hx : SndE G x) (hn : SndE G n) (hs : SntAll G ifs) : SndE G (.cmpR x i n ifs) := by
  intro X W ex K m F0 H0 F H st σ r Q S ev P
  obtain ⟨elt, y, p1, g, it, p2, cs, scope, pos, rfl, hg, m1, hb, hl, m2, m3, hz⟩ := mE_cmpR m
  obtain ⟨p3, rfl, hgl, hpl⟩ := isG_name hg
  exact pack_se K (read_cmpR hx hn hs K hgl m1 hb hl m2 m3 hz S ev P)
end
end Dv

/-! Dv, part I: every expression. -/
namespace Dv
open PySem PySem.Spec PyProof.Rows L2

section
variable {G : GI}
theorem snt_ife {d a b : E} (hd : SndT G d) (ha : SndT G a) (hb : SndT G b) : SndT G (.ife d a b) := by
  intro X W ex K m F0 H0 F H st σ r Q S ev P
  obtain ⟨e, f, g, pos, rfl, m1, m2, m3⟩ := mE_ife m
  rw [evE] at ev
  have main : ST X e σ H fun t H1 => if t = true then ST X f σ H1 Q else ST X g σ H1 Q := by
    rcases boolV_some ev with ⟨b, e1, e3⟩ | ⟨c, e1, rfl⟩
    · refine hd X W e K m1 F0 H0 F H st σ _ _ S e1 fun H1 F1 g1 => ?_
      cases b with
      | true =>
        rw [if_pos rfl] at e3 ⊢
        exact ha X W f K m2 F0 H0 F1 H1 st σ r Q (S.mono g1) e3 (P.gr g1)
      | false =>
        rw [if_neg Bool.false_ne_true] at e3 ⊢
        exact hb X W g K m3 F0 H0 F1 H1 st σ r Q (S.mono g1) e3 (P.gr g1)
    · exact hd X W e K m1 F0 H0 F H st σ _ _ S e1 P
  intro pins s I
  show wpAny _ _ (do if ← isTrue e X.env (eval e X.env) then isTrue f X.env (eval f X.env) else isTrue g X.env (eval g X.env)) _ _ _
  refine wpAny_bind (thn (main pins s I) fun t s1 ⟨H1, I1, q⟩ => ?_)
  cases t with
  | true => rw [if_pos rfl] at q ⊢; exact q pins s1 I1
  | false => rw [if_neg Bool.false_ne_true] at q ⊢; exact q pins s1 I1
def plainT (e : E) : Prop := ∀ (c : Cc) (sc : Scope) (ex : Expr), mE c sc e ex = true → ∀ (env : Env) (whole : Sem Value), isTrue ex env whole = (do let v ← whole; standAt ex.pos; holding [v] (truthy v))
theorem both {e : E} (h : SndE G e) (p : plainT e) : SndE G e ∧ SndT G e := ⟨h, snt_val h p⟩
theorem cons_all {e : E} {es : List E} (h : SndE G e ∧ SndT G e) (hs : SndAll G es ∧ SntAll G es) : SndAll G (e :: es) ∧ SntAll G (e :: es) :=
  ⟨fun x m => by
    rcases List.mem_cons.mp m with rfl | m
    · exact h.1
    · exact hs.1 x m, fun x m => by
    rcases List.mem_cons.mp m with rfl | m
    · exact h.2
    · exact hs.2 x m⟩
mutual
theorem sndE : ∀ e : E, SndE G e ∧ SndT G e
  | .var i => both (snd_var i) fun _ _ _ m => by obtain ⟨_, _, rfl, _⟩ := mE_var m; exact fun _ _ => rfl
  | .non => both snd_non fun _ _ _ m => by obtain ⟨_, _, rfl⟩ := mE_non m; exact fun _ _ => rfl
  | .bl b => both (snd_bl b) fun _ _ _ m => by obtain ⟨_, _, rfl⟩ := mE_bl m; exact fun _ _ => rfl
  | .int i => both (snd_int i) fun _ _ _ m => by obtain ⟨_, _, rfl⟩ := mE_int m; exact fun _ _ => rfl
  | .str x => both (snd_str x) fun _ _ _ m => by obtain ⟨_, _, rfl⟩ := mE_str m; exact fun _ _ => rfl
  | .glb x i => both (snd_glb x i) fun _ _ _ m => by obtain ⟨_, rfl, _⟩ := mE_glb m; exact fun _ _ => rfl
  | .bin op a b => both (snd_bin (sndE a).1 (sndE b).1) fun _ _ _ m => by obtain ⟨_, _, _, _, rfl, _⟩ := mE_bin m; exact fun _ _ => rfl
  | .neg a => both (snd_neg (sndE a).1) fun _ _ _ m => by obtain ⟨_, _, rfl, _⟩ := mE_neg m; exact fun _ _ => rfl
  | .cmp op a b => ⟨snd_cmp (sndE a).1 (sndE b).1, snt_cmp (sndE a).1 (sndE b).1⟩
  | .chn o p a b c => ⟨snd_chn (sndE a).1 (sndE b).1 (sndE c).1, snt_chn (sndE a).1 (sndE b).1 (sndE c).1⟩
  | .and es => ⟨snd_and (sndL es).1, snt_and (sndL es).2⟩
  | .or es => ⟨snd_or (sndL es).1, snt_or (sndL es).2⟩
  | .not a => ⟨snd_not (sndE a).1, snt_not (sndE a).2⟩
  | .ife c a b => ⟨snd_ife (sndE c).2 (sndE a).1 (sndE b).1, snt_ife (sndE c).2 (sndE a).2 (sndE b).2⟩
  | .idx a i => both (snd_idx (sndE a).1 (sndE i).1) fun _ _ _ m => by obtain ⟨_, _, _, rfl, _⟩ := mE_idx m; exact fun _ _ => rfl
  | .slc a lo hi => both (snd_slc (sndE a).1 (sndO lo) (sndO hi)) fun _ _ _ m => by obtain ⟨_, _, _, _, _, rfl, _⟩ := mE_slc m; exact fun _ _ => rfl
  | .tup es => both (snd_tup (sndL es).1) fun _ _ _ m => by obtain ⟨_, _, _, rfl, _⟩ := mE_tup m; exact fun _ _ => rfl
  | .lst es => both (snd_lst (sndL es).1) fun _ _ _ m => by obtain ⟨_, _, rfl, _⟩ := mE_lst m; exact fun _ _ => rfl
  | .dic => both snd_dic fun _ _ _ m => by obtain ⟨_, rfl⟩ := mE_dic m; exact fun _ _ => rfl
  | .dicT => both snd_dicT fun _ _ _ m => by obtain ⟨_, rfl⟩ := mE_dicT m; exact fun _ _ => rfl
  | .lset a => both (snd_lset (sndE a).1) fun _ _ _ m => by obtain ⟨_, _, _, _, _, rfl, _⟩ := mE_lset m; exact fun _ _ => rfl
  | .fn f a => both (snd_fn (sndE a).1) fun _ _ _ m => by obtain ⟨_, _, _, rfl, _⟩ := mE_fn m; exact fun _ _ => rfl
  | .isi a t => both (snd_isi (sndE a).1) fun _ _ _ m => by obtain ⟨_, _, _, _, rfl, _⟩ := mE_isi m; exact fun _ _ => rfl
  | .isis a ts => both (snd_isis (sndE a).1) fun _ _ _ m => by obtain ⟨_, _, _, _, _, _, rfl, _⟩ := mE_isis m; exact fun _ _ => rfl
  | .lrg a => both (snd_lrg (sndE a).1) fun _ _ _ m => by obtain ⟨_, _, _, _, _, rfl, _⟩ := mE_lrg m; exact fun _ _ => rfl
  | .cop o es => both (snd_cop (sndL es).1) fun _ _ _ m => by rcases mE_cop m with ⟨_, _, _, _, _, _, rfl, _⟩ | ⟨_, _, _, _, _, _, _, _, _, _, rfl, _⟩ | ⟨_, _, _, _, _, _, rfl, _⟩ <;> exact fun _ _ => rfl
  | .call f es => both (snd_call (sndL es).1) fun _ _ _ m => by obtain ⟨_, _, _, _, rfl, _⟩ := mE_call m; exact fun _ _ => rfl
  | .callAt fs i es => both (snd_callAt (sndE i).1 (sndL es).1) fun _ _ _ m => by obtain ⟨_, _, _, _, _, _, _, rfl, _⟩ := mE_callAt m; exact fun _ _ => rfl
  | .cmpL x i src ifs => both (snd_cmpL (sndE x).1 (sndE src).1 (sndL ifs).2) fun _ _ _ m => by obtain ⟨_, _, _, _, _, _, _, rfl, _⟩ := mE_cmpL m; exact fun _ _ => rfl
  | .cmpR x i n ifs => both (snd_cmpR (sndE x).1 (sndE n).1 (sndL ifs).2) fun _ _ _ m => by obtain ⟨_, _, _, _, _, _, _, _, _, rfl, _⟩ := mE_cmpR m; exact fun _ _ => rfl
theorem sndL : ∀ es : List E, SndAll G es ∧ SntAll G es
  | [] => ⟨fun _ h => (nomatch h), fun _ h => (nomatch h)⟩
  | e :: es => cons_all (sndE e) (sndL es)
theorem sndO : ∀ o : Option E, SndO G o
  | none => trivial
  | some e => (sndE e).1
end
end
end Dv

/-! Dv, part J: statements. -/
namespace Dv
open PySem PySem.Spec PyProof.Rows L2

/-! ### the checker read backwards -/
section
variable {c : Cc} {sc : Scope} {s : Stmt}
theorem mS_set {i : Nat} {e : E} (m : mS c sc (.set i e) s = true) : ∃ x px v pos, s = .Assign [.Name x px] v pos ∧ wrB c.N sc x i = true ∧ mE c sc e v = true ∧ (noComp v = true ∨
    ∃ elt gs scope vp, v = .ListComp elt gs scope vp ∧ sc.names.lookup x = some .local ∧ (px.line == vp.line) = true ∧ (scope.names.any fun (n, k) => n == x && (k == .local || k == .cell)) = false) := by
  unfold mS at m
  split at m <;> first | contradiction | skip
  rename_i h
  cases h
  simp only [Bool.and_eq_true, Bool.or_eq_true] at m
  refine ⟨_, _, _, _, rfl, m.1.1, m.1.2, ?_⟩
  rcases m.2 with h | h
  · exact .inl h
  · split at h
    · simp only [Bool.and_eq_true, decide_eq_true_eq, Bool.not_eq_true'] at h
      exact .inr ⟨_, _, _, _, rfl, h.1.1, h.1.2, h.2⟩
    · cases h
theorem mS_setT {is : List Nat} {e : E} (m : mS c sc (.setT is e) s = true) : ∃ ts k p v pos, s = .Assign [.Tuple ts k p] v pos ∧ namesB c.N sc is ts = true ∧ mE c sc e v = true ∧ noTup v = true := by
  unfold mS at m
  split at m <;> first | contradiction | skip
  rename_i h
  cases h
  simp only [Bool.and_eq_true] at m
  exact ⟨_, _, _, _, _, rfl, m.1.1, m.1.2, m.2⟩
theorem mS_setI {i : Nat} {k e : E} (m : mS c sc (.setI i k e) s = true) : ∃ x px j p v pos, s = .Assign [.Subscript (.Name x px) j p] v pos ∧ rdB c.N sc x i = true ∧ mE c sc k j = true ∧ mE c sc e v = true ∧ noComp v = true := by
  unfold mS at m
  split at m <;> first | contradiction | skip
  rename_i h
  cases h
  simp only [Bool.and_eq_true] at m
  exact ⟨_, _, _, _, _, _, rfl, m.1.1.1, m.1.1.2, m.1.2, m.2⟩
theorem mS_dput {i : Nat} {k e : E} (m : mS c sc (.dput i k e) s = true) : ∃ x px j p v pos, s = .Assign [.Subscript (.Name x px) j p] v pos ∧ rdB c.N sc x i = true ∧ mE c sc k j = true ∧ mE c sc e v = true ∧ noComp v = true := by
  unfold mS at m
  split at m <;> first | contradiction | skip
  rename_i h
  cases h
  simp only [Bool.and_eq_true] at m
  exact ⟨_, _, _, _, _, _, rfl, m.1.1.1, m.1.1.2, m.1.2, m.2⟩
theorem recv_all {i : Nat} {m : Str} {f : Expr} {p : Pos} (h : recv c sc i m f p = true) : ∃ x px apos, f = .Attribute (.Name x px) m apos ∧ rdB c.N sc x i = true ∧ (apos.endLine == p.line) = true := by
  unfold recv at h
  split at h
  · simp only [Bool.and_eq_true, decide_eq_true_eq] at h
    obtain ⟨⟨h1, rfl⟩, h2⟩ := h
    exact ⟨_, _, _, rfl, h1, h2⟩
  · cases h
theorem mS_app {i : Nat} {e : E} (m : mS c sc (.app i e) s = true) : ∃ f a p pos, s = .Expr (.Call f [a] [] p) pos ∧ recv c sc i "append" f p = true ∧ mE c sc e a = true := by
  unfold mS at m
  split at m <;> first | contradiction | skip
  rename_i h
  cases h
  simp only [Bool.and_eq_true] at m
  exact ⟨_, _, _, _, rfl, m.1, m.2⟩
theorem mS_ext {i : Nat} {e : E} (m : mS c sc (.ext i e) s = true) : ∃ f a p pos, s = .Expr (.Call f [a] [] p) pos ∧ recv c sc i "extend" f p = true ∧ mE c sc e a = true := by
  unfold mS at m
  split at m <;> first | contradiction | skip
  rename_i h
  cases h
  simp only [Bool.and_eq_true] at m
  exact ⟨_, _, _, _, rfl, m.1, m.2⟩
theorem mS_ins {i : Nat} {k e : E} (m : mS c sc (.ins i k e) s = true) : ∃ f b a p pos, s = .Expr (.Call f [b, a] [] p) pos ∧ recv c sc i "insert" f p = true ∧ mE c sc k b = true ∧ mE c sc e a = true := by
  unfold mS at m
  split at m <;> first | contradiction | skip
  rename_i h
  cases h
  simp only [Bool.and_eq_true] at m
  exact ⟨_, _, _, _, _, rfl, m.1.1, m.1.2, m.2⟩
theorem mS_clr {i : Nat} (m : mS c sc (.clr i) s = true) : ∃ f p pos, s = .Expr (.Call f [] [] p) pos ∧ recv c sc i "clear" f p = true := by
  unfold mS at m
  split at m <;> first | contradiction | skip
  rename_i h
  cases h
  exact ⟨_, _, _, rfl, m⟩
theorem mS_ite {d : E} {a b : List S} (m : mS c sc (.ite d a b) s = true) : ∃ t x y pos, s = .If t x y pos ∧ mE c sc d t = true ∧ mSs c sc a x = true ∧ mSs c sc b y = true := by
  unfold mS at m
  split at m <;> first | contradiction | skip
  rename_i h
  cases h
  simp only [Bool.and_eq_true] at m
  exact ⟨_, _, _, _, rfl, m.1.1, m.1.2, m.2⟩
theorem mS_for {i : Nat} {src : E} {b : List S} (m : mS c sc (.for i src b) s = true) : ∃ x px it body pos, s = .For (.Name x px) it body [] pos ∧ wrB c.N sc x i = true ∧ mE c sc src it = true ∧ mSs c sc b body = true := by
  unfold mS at m
  split at m <;> first | contradiction | skip
  rename_i h
  cases h
  simp only [Bool.and_eq_true] at m
  exact ⟨_, _, _, _, _, rfl, m.1.1, m.1.2, m.2⟩
theorem mS_forR {i : Nat} {n : E} {b : List S} (m : mS c sc (.forR i n b) s = true) : ∃ x px g it p body pos, s = .For (.Name x px) (.Call g [it] [] p) body [] pos ∧ wrB c.N sc x i = true ∧ isG sc g "range" = true ∧ mE c sc n it = true ∧ mSs c sc b body = true := by
  unfold mS at m
  split at m <;> first | contradiction | skip
  rename_i h
  cases h
  simp only [Bool.and_eq_true] at m
  exact ⟨_, _, _, _, _, _, _, rfl, m.1.1.1, m.1.1.2, m.1.2, m.2⟩
theorem mS_forT {is : List Nat} {src : E} {b : List S} (m : mS c sc (.forT is src b) s = true) : ∃ ts k p it body pos, s = .For (.Tuple ts k p) it body [] pos ∧ namesB c.N sc is ts = true ∧ mE c sc src it = true ∧ mSs c sc b body = true := by
  unfold mS at m
  split at m <;> first | contradiction | skip
  rename_i h
  cases h
  simp only [Bool.and_eq_true] at m
  exact ⟨_, _, _, _, _, _, rfl, m.1.1, m.1.2, m.2⟩
theorem mS_whl {d : E} {b : List S} (m : mS c sc (.whl d b) s = true) : ∃ t body pos, s = .While t body [] pos ∧ mE c sc d t = true ∧ mSs c sc b body = true := by
  unfold mS at m
  split at m <;> first | contradiction | skip
  rename_i h
  cases h
  simp only [Bool.and_eq_true] at m
  exact ⟨_, _, _, rfl, m.1, m.2⟩
theorem mS_ret {e : E} (m : mS c sc (.ret e) s = true) : ∃ v pos, s = .Return (some v) pos ∧ mE c sc e v = true := by
  unfold mS at m
  split at m <;> first | contradiction | skip
  rename_i h
  cases h
  exact ⟨_, _, rfl, m⟩
theorem mS_retN (m : mS c sc .retN s = true) : ∃ pos, s = .Return none pos := by
  unfold mS at m
  split at m <;> first | contradiction | (rename_i h; cases h; done) | exact ⟨_, rfl⟩
theorem mS_exp {e : E} (m : mS c sc (.exp e) s = true) : ∃ v pos, s = .Expr v pos ∧ mE c sc e v = true ∧ noComp v = true := by
  unfold mS at m
  split at m <;> first | contradiction | skip
  rename_i h
  cases h
  simp only [Bool.and_eq_true] at m
  exact ⟨_, _, rfl, m.1, m.2⟩
theorem mS_rai {x : Str} (m : mS c sc (.rai x) s = true) : ∃ f t k p2 p pos, s = .Raise (some (.Call f [.Constant (.str t) k p2] [] p)) none pos ∧ isG sc f x = true := by
  unfold mS at m
  split at m <;> first | contradiction | skip
  rename_i h
  cases h
  exact ⟨_, _, _, _, _, _, rfl, m⟩
theorem noComp_sw {e : Expr} (h : noComp e = true) (t : Option Expr) (l : Nat) (env : Env) : swapsWith e t l env = pure false := by
  cases e <;> first | rfl | (simp [noComp] at h)
theorem noTup_sw {e : Expr} (h : noTup e = true) (tg : List Expr) (env : Env) : swappedStores tg e env = pure none := by
  cases e <;> first | (unfold swappedStores; split <;> first | rfl | (rename_i h'; split at h' <;> first | contradiction | (cases h'))) | (simp [noTup] at h)
theorem noTup_comp {e : Expr} (h : noTup e = true) : noComp e = true := by
  cases e <;> first | rfl | (simp [noTup, noComp] at h)
end
end Dv

/-! Dv, part K: what is wanted behind a statement; the small statements. -/
namespace Dv
open PySem PySem.Spec PyProof.Rows L2

/-- what a suite asks of an exception of the class c -/
structure HotOK (K : PySem.W.Frag) (ea : Str → Addr) (c : Str) (ht : List Str) : Prop where
  ec : ExcC K (ea c)
  one : ∀ d ∈ ht, PySem.W.kitOne K (.ref (ea c)) (.ref (ea d)) = some (isSub c d)
  v : PySem.W.kitOne K (.ref (ea c)) (.type "ValueError") = some true
  ex : PySem.W.exmOne K (.ref (ea c)) (.ref (ea "SwapError")) = some true
structure CKS (G : GI) (es : List Str) (W : WX) (X : Cx) : Prop extends CK G W X where
  hot : ∀ c ∈ G.hc, HotOK X.K G.ea c G.ht
  hg : ∀ d ∈ G.ht, X.mg d = some (.ref (G.ea d))
  stk : X.stack = X.env :: X.outer
  frm : X.env.frame = some X.env.locals
  po : PassesOwn (model X.prog X.w) X.A X.env X.xe
  fnT : ∀ x, X.fn x = true
  kd : X.env.scope.kind = .function
  rs : ∀ c ∈ es, Gl X c → plainName c = true → ∀ (m : Str) (j : Nat) (p p2 pos : Pos), PMk X (.Call (.Name c p) [.Constant (.str m) j p2] [] pos) (fun _ H Q => Q (.ref (G.ea c)) none H)
/-- what is handed out is no cell -/
def NF (κ : KM) (k : Kd) (v : V) : Prop := k = .frs → ∀ p, v = .ref p → ∀ n, κ.io n ≠ some p
def PostS (G : GI) (W : WX) (F0 H0 F : Hp) (r : SO) (Z : Ends) : Prop :=
  match r with
  | .nx st => ∀ σ' H' F', StOK G.K F0 H0 F' H' st σ' → Sub F F' → Z.nx σ' H'
  | .rt k d => ∀ v H' F', Gr F0 H0 F' H' → HM G.K F' H' → RV G.K F' H' k d v → Fresh H0 k v → NF G.K k v → Z.rt v H'
  | .ex c => ∀ σ' H' F', Gr F0 H0 F' H' → HM G.K F' H' → W (.ref (G.ea c)) none σ' H'
/- the classes that a statement raises -/
mutual
def raises : S → List Str
  | .rai c => [c]
  | .ite _ a b => raisesL a ++ raisesL b
  | .for _ _ b => raisesL b
  | .forR _ _ b => raisesL b
  | .forT _ _ b => raisesL b
  | .whl _ b => raisesL b
  | _ => []
def raisesL : List S → List Str
  | [] => []
  | s :: ss => raises s ++ raisesL ss
end
def SndS (G : GI) (fu : Nat) (s : S) : Prop := ∀ (X : Cx) (es : List Str) (W : WX) (sx : Stmt), CKS G es W X → (∀ c ∈ raises s, c ∈ es) → mS (cc G X) X.env.scope s sx = true →
  ∀ (F0 H0 F H : Hp) (st : Ev) (σ : L2.St) (r : SO) (Z : Ends), StOK G.K F0 H0 F H st σ → evS G.Φ fu s st = some r → PostS G W F0 H0 F r Z → SS X sx Z σ H
def SndSs (G : GI) (fu : Nat) (ss : List S) : Prop := ∀ (X : Cx) (es : List Str) (W : WX) (sx : List Stmt), CKS G es W X → (∀ c ∈ raisesL ss, c ∈ es) → mSs (cc G X) X.env.scope ss sx = true →
  ∀ (F0 H0 F H : Hp) (st : Ev) (σ : L2.St) (r : SO) (Z : Ends), StOK G.K F0 H0 F H st σ → evSs G.Φ fu ss st = some r → PostS G W F0 H0 F r Z → SSs X sx Z σ H
section
variable {G : GI} {fu : Nat} {es : List Str} {W : WX} {X : Cx} {F0 H0 F H F1 H1 : Hp} {st : Ev} {σ : L2.St} {r : SO} {Z : Ends}
theorem PostS.sub (P : PostS G W F0 H0 F r Z) (s : Sub F F1) : PostS G W F0 H0 F1 r Z := by
  cases r with
  | nx st => exact fun σ' H' F' S z => P σ' H' F' S (s.trans z)
  | rt k d => exact P
  | ex c => exact P
theorem onV_some {q : Option EO} {f : Kd → D → Option SO} (h : onV q f = some r) : (∃ k d, q = some (.ok k d) ∧ f k d = some r) ∨ ∃ c, q = some (.ex c) ∧ r = .ex c := by
  unfold onV at h
  split at h
  · exact .inl ⟨_, _, rfl, h⟩
  · cases h; exact .inr ⟨_, rfl, rfl⟩
  · cases h
theorem onB_some {q : Option EO} {f : Bool → Option SO} (h : onB q f = some r) : (∃ b, q = some (.ok .shr (.bool b)) ∧ f b = some r) ∨ ∃ c, q = some (.ex c) ∧ r = .ex c := by
  unfold onB at h
  split at h
  · exact .inl ⟨_, rfl, h⟩
  · cases h; exact .inr ⟨_, rfl, rfl⟩
  · cases h
theorem ex_ok {c : Str} (P : PostS G W F0 H0 F (.ex c) Z) (S : StOK G.K F0 H0 F H st σ) {Q : VK} : PostE G W σ F H (.ex c) Q := fun H' s => P σ H' F (S.gr.trans ⟨Sub.refl F, S.fh.trans s, s, fun _ _ e => .inl e⟩) (S.cel.mono ⟨Sub.refl F, S.fh.trans s, s, fun _ _ e => .inl e⟩)
theorem ex_okT {c : Str} (P : PostS G W F0 H0 F (.ex c) Z) (S : StOK G.K F0 H0 F H st σ) {Q : Bool → Hp → Prop} : PostT G W σ F H (.ex c) Q := fun H' s => P σ H' F (S.gr.trans ⟨Sub.refl F, S.fh.trans s, s, fun _ _ e => .inl e⟩) (S.cel.mono ⟨Sub.refl F, S.fh.trans s, s, fun _ _ e => .inl e⟩)
/-- one value, then what follows -/
theorem oneS {a : E} {e : Expr} (K : CKS G es W X) (m : mE (cc G X) X.env.scope a e = true) (S : StOK G.K F0 H0 F H st σ) {g : Kd → D → Option SO} (ev : onV (evE G.Φ a st) g = some r) (P : PostS G W F0 H0 F r Z)
    {R : VK} (hk : ∀ k x v H1 F1, evE G.Φ a st = some (.ok k x) → g k x = some r → Gr F H F1 H1 → StOK G.K F0 H0 F1 H1 st σ → RV G.K F1 H1 k x v → Fresh H k v → R v H1) : SE X e σ H R := by
  rcases onV_some ev with ⟨k, d, e1, e2⟩ | ⟨c, e1, rfl⟩
  · exact (sndE a).1 X W e K.toCK m F0 H0 F H st σ _ _ S e1 fun v H1 F1 g1 r1 f1 => hk k d v H1 F1 e1 e2 g1 (S.mono g1) r1 f1
  · exact (sndE a).1 X W e K.toCK m F0 H0 F H st σ _ _ S e1 (ex_ok P S)
/-- a value goes into a slot -/
theorem set_slot {i : Nat} {k : Kd} {d : D} {v : V} (S : StOK G.K F0 H0 F H st σ) (g : Gr F H F1 H1) (r1 : RV G.K F1 H1 k d v) (f1 : Fresh H k v) (e : setV st i k d = some r) (P : PostS G W F0 H0 F r Z) : Z.nx (σ.set i (some v)) H1 := by
  unfold setV at e
  split at e
  · cases e
    exact P _ _ F1 ((S.mono g).setS i r1) g.ff
  · cases e
    obtain ⟨p, rfl, n, t, _⟩ := r1
    have np := f1 rfl p rfl
    refine P _ _ F1 ((S.mono g).setO i (S.cel.new np) n (S.gr.hh.none np) t fun j dj hj ej hp => ?_) g.ff
    obtain ⟨q, h1, h2, h3, h4⟩ := S.own j dj ej
    rw [hp] at h1
    cases h1
    obtain ⟨o, ho⟩ := h4.has
    rw [np] at ho
    cases ho
  · cases e
theorem sns_set {i : Nat} {e : E} : SndS G fu (.set i e) := by
  intro X es W sx K hr m F0 H0 F H st σ r Z S ev P
  obtain ⟨x, px, v, pos, rfl, hw, m1, hc⟩ := mS_set m
  obtain ⟨hN, hl⟩ := wrB_all hw
  rw [evS] at ev
  have main : SE X v σ H fun y H1 => Z.nx (σ.set i (some y)) H1 := oneS K m1 S ev P fun k d y H1 F1 _ e2 g S1 r1 f1 => set_slot S g r1 f1 e2 P
  rcases hc with hc | ⟨elt, gs, scope, vp, rfl, hloc, hline, hno⟩
  · exact ss_of (ps_set K.nd hN hl pe_se (noComp_sw hc _ _ _) (.inl (K.fnT x))) main
  · -- a comprehension: its value is swapped in
    have pk : ∃ tg iter cs, gs = [⟨tg, iter, cs, 0⟩] ∧ LcPack X elt tg iter cs scope σ H fun y H1 => Z.nx (σ.set i (some y)) H1 := by
      rcases onV_some ev with ⟨k, d, e1, e2⟩ | ⟨c, e1, rfl⟩
      · have PE1 : PostE G W σ F H (.ok k d) fun y H1 => Z.nx (σ.set i (some y)) H1 := fun y H1 F1 g r1 f1 => set_slot S g r1 f1 e2 P
        cases e with
        | cmpL a j src ifs =>
          obtain ⟨elt, y, p1, it, cs, scope, pos, ee, n1, hb, hl, m2, m3, hz⟩ := mE_cmpL m1
          cases ee
          exact ⟨_, _, _, rfl, read_cmpL (sndE a).1 (sndE src).1 (sndL ifs).2 K.toCK n1 hb hl m2 m3 hz S e1 PE1⟩
        | cmpR a j n ifs =>
          obtain ⟨elt, y, p1, g, it, p2, cs, scope, pos, ee, hg, n1, hb, hl, m2, m3, hz⟩ := mE_cmpR m1
          obtain ⟨p3, rfl, hgl, hpl⟩ := isG_name hg
          cases ee
          exact ⟨_, _, _, rfl, read_cmpR (sndE a).1 (sndE n).1 (sndL ifs).2 K.toCK hgl n1 hb hl m2 m3 hz S e1 PE1⟩
        | _ => simp [mE] at m1
      · have PE1 : PostE G W σ F H (.ex c) fun y H1 => Z.nx (σ.set i (some y)) H1 := ex_ok P S
        cases e with
        | cmpL a j src ifs =>
          obtain ⟨elt, y, p1, it, cs, scope, pos, ee, n1, hb, hl, m2, m3, hz⟩ := mE_cmpL m1
          cases ee
          exact ⟨_, _, _, rfl, read_cmpL (sndE a).1 (sndE src).1 (sndL ifs).2 K.toCK n1 hb hl m2 m3 hz S e1 PE1⟩
        | cmpR a j n ifs =>
          obtain ⟨elt, y, p1, g, it, p2, cs, scope, pos, ee, hg, n1, hb, hl, m2, m3, hz⟩ := mE_cmpR m1
          obtain ⟨p3, rfl, hgl, hpl⟩ := isG_name hg
          cases ee
          exact ⟨_, _, _, rfl, read_cmpR (sndE a).1 (sndE n).1 (sndL ifs).2 K.toCK hgl n1 hb hl m2 m3 hz S e1 PE1⟩
        | _ => simp [mE] at m1
    obtain ⟨tg, iter, cs, rfl, own, wi, g, tt, te, h1, h2, h3, h4, h5, h6, h7⟩ := pk
    exact ss_of (ps_setLc (pos := vp) (spos := pos) K.calm K.nd hN hloc (sw_true K.kd hloc hline hno) h1 h2 h3 h4 h5 h6) h7
end
end Dv

/-! Dv, part L: stores, methods of own lists, returns, raises. -/
namespace Dv
open PySem PySem.Spec PyProof.Rows L2

section
variable {G : GI} {fu : Nat} {es : List Str} {W : WX} {X : Cx} {F0 H0 F H F1 H1 : Hp} {st : Ev} {σ : L2.St} {r : SO} {Z : Ends}
/-! ### several names -/
def gNames : List Nat → TGs
  | [] => gNil
  | i :: is => gCons (gName i) (gNames is)
theorem pgs_names (K : CKS G es W X) : ∀ (is : List Nat) (ts : List Expr), namesB X.N X.env.scope is ts = true → PGs X ts (gNames is) ∧ (assignEach ts X.env).length = is.length ∧ (assignEach ts X.env).findIdx? (·.1) = none
  | [], [], _ => ⟨pgs_nil, rfl, rfl⟩
  | [], _ :: _, h => by simp [namesB] at h
  | i :: is, [], h => by simp [namesB] at h
  | i :: is, t :: ts, h => by
    cases t with
    | Name x p =>
      simp only [namesB, Bool.and_eq_true] at h
      obtain ⟨hN, hl⟩ := wrB_all h.1
      obtain ⟨h1, h2, h3⟩ := pgs_names K is ts h.2
      refine ⟨pgs_cons (pg_name K.nd hN hl (.inl (K.fnT x))) h1 rfl, ?_, ?_⟩
      · show (assignEach ts X.env).length + 1 = is.length + 1
        rw [h2]
      · show List.findIdx? (·.1) ((false, assign (.Name x p) X.env) :: assignEach ts X.env) = none
        rw [List.findIdx?_cons]
        simp only [h3]
        rfl
    | _ => simp [namesB] at h
theorem names_read {Q : L2.St → Hp → Prop} : ∀ (is : List Nat) (ds : List D) (xs : List V) (st st' : Ev) (σ : L2.St), setAll is ds st = some st' → Rps G.K F xs ds → StOK G.K F0 H0 F H st σ → (∀ σ', StOK G.K F0 H0 F H st' σ' → Q σ' H) → gNames is xs σ H Q
  | [], [], xs, st, st', σ, e, q, S, h => by
    cases q
    simp only [setAll] at e
    cases e
    exact ⟨rfl, h σ S⟩
  | [], _ :: _, xs, st, st', σ, e, q, S, h => by simp [setAll] at e
  | _ :: _, [], xs, st, st', σ, e, q, S, h => by simp [setAll] at e
  | i :: is, d :: ds, xs, st, st', σ, e, q, S, h => by
    cases q with
    | cons a q =>
      simp only [setAll] at e
      exact ⟨_, _, rfl, names_read is ds _ _ st' _ e q (S.setS i a) h⟩
theorem setAll_length : ∀ {is : List Nat} {ds : List D} {st st' : Ev}, setAll is ds st = some st' → is.length = ds.length
  | [], [], _, _, _ => rfl
  | [], _ :: _, _, _, e => by simp [setAll] at e
  | _ :: _, [], _, _, e => by simp [setAll] at e
  | i :: is, d :: ds, st, st', e => by
    simp only [setAll] at e
    rw [List.length_cons, List.length_cons, setAll_length e]
theorem pg_names (K : CKS G es W X) {is : List Nat} {ts : List Expr} {k : Nat} {p : Pos} (h : namesB X.N X.env.scope is ts = true) : PG X (.Tuple ts k p) (gTup X.K is.length (gNames is)) := by
  obtain ⟨h1, h2, h3⟩ := pgs_names K is ts h
  exact pg_tup K.calm h1 h2 h3
theorem sole_sw {t e : Expr} {l : Nat} {env : Env} (h : noComp e = true) : swapsWithSole [t] e l env = pure false := noComp_sw h (some t) l env
theorem sns_setT {is : List Nat} {e : E} : SndS G fu (.setT is e) := by
  intro X es W sx K hr m F0 H0 F H st σ r Z S ev P
  obtain ⟨ts, k, p, v, pos, rfl, hn, m1, ht⟩ := mS_setT m
  refine ss_of (ps_asg pe_se (pg_names K hn) (sole_sw (noTup_comp ht)) (noTup_sw ht _ _) rfl) ?_
  rw [evS] at ev
  refine oneS K m1 S ev P fun k d v H1 F1 e1 e2 g S1 r1 f1 => ?_
  split at e2
  · rename_i ds
    cases e3 : setAll is ds st with
    | none => rw [e3] at e2; cases e2
    | some st' =>
      rw [e3] at e2
      cases e2
      obtain ⟨a, vs, rfl, ea, qa⟩ := r1.tup
      refine ⟨a, vs, rfl, SqT.of (g.fh _ _ ea), by rw [qa.length, setAll_length e3], ?_⟩
      exact names_read is ds vs st st' σ e3 qa S1 fun σ' S' => P σ' H1 F1 S' g.ff
  · cases e2
/-! ### own lists -/
theorem onOwn_some {i : Nat} {f : List D → Option (List D)} (e : onOwn st i f = some r) : ∃ ds ys, st[i]? = some (some (true, .list ds)) ∧ f ds = some ys ∧ r = .nx (st.set i (some (true, .list ys))) := by
  unfold onOwn at e
  split at e
  · rename_i ds h
    cases e2 : f ds with
    | none => rw [e2] at e; cases e
    | some ys =>
      rw [e2] at e
      cases e
      exact ⟨_, _, h, e2, rfl⟩
  · cases e
theorem own_lst (S : StOK G.K F0 H0 F H st σ) {i : Nat} {ds : List D} (e : st[i]? = some (some (true, .list ds))) : ∃ p vs, σ[i]? = some (some (.ref p)) ∧ F p = none ∧ H0 p = none ∧ H p = some (.lst vs) ∧ Rps G.K F vs ds := by
  obtain ⟨p, h1, h2, h3, vs, h4, h5⟩ := S.own i _ e
  exact ⟨p, vs, h1, h2, h3, h4, h5⟩
/-- a slot's own list is changed -/
theorem chg_own (S : StOK G.K F0 H0 F H st σ) {i : Nat} {ds ys : List D} {p : Addr} {ws : List V} (e : st[i]? = some (some (true, .list ds))) (hp : σ[i]? = some (some (.ref p))) (q : Rps G.K F ws ys) : StOK G.K F0 H0 F (upd H p (.lst ws)) (st.set i (some (true, .list ys))) σ :=
  S.chg e hp ⟨ws, upd_same, q⟩
theorem pv_of {x : Str} {i : Nat} {pos : Pos} (hb : rdB X.N X.env.scope x i = true) : PE X (.Name x pos) (tVar i) := by
  obtain ⟨hN, hv, hp⟩ := rdB_all hb
  obtain ⟨h1, h2, h3⟩ := plain_all hp
  exact pe_var hN hv h1 h2
theorem share {k : Kd} {d : D} {v : V} (g : Gr F H F1 H1) (r1 : RV G.K F1 H1 k d v) (f1 : Fresh H k v) (hk : k ≠ .brw) : ∃ F2, Gr F H F2 H1 ∧ Rp G.K F2 v d := by
  obtain ⟨F2, g2, r2⟩ := shareA g r1 f1
  refine ⟨F2, g2, ?_⟩
  cases k with
  | brw => exact absurd rfl hk
  | shr => exact r2
  | frs => exact r2
theorem guard_some {i : Nat} {q : Option SO} (S : StOK G.K F0 H0 F H st σ) (h : guardO st i q = some r) : ∃ p, σ[i]? = some (some (.ref p)) ∧ q = some r := by
  unfold guardO at h
  split at h
  · rename_i ds e
    obtain ⟨p, vs, h1, _⟩ := own_lst S e
    exact ⟨p, h1, h⟩
  · cases h
theorem guard_own {i : Nat} {q : Option SO} (h : guardO st i q = some r) : ∃ ds, st[i]? = some (some (true, .list ds)) := by
  unfold guardO at h
  split at h
  · exact ⟨_, by assumption⟩
  · cases h
theorem sizeLt {n : Nat} (h : n ≤ lim) : n < sizeLine := Nat.lt_of_le_of_lt h (by rw [sizeLine_eq]; decide)
theorem ix_sub {o j : Expr} {pos : Pos} {env : Env} (h : okEx j = true) (v : Value) : assign (.Subscript o j pos) env v = (do
      let ov ← holding [v] (eval o env)
      let iv ← holding [v, ov] (eval j env)
      standAt pos
      holding [v, ov, iv] (setItem ov iv v)
      release [v, ov, iv] []) := by
  cases j <;> first | rfl | (simp [okEx] at h)
theorem sub_sw {o j e : Expr} {pos : Pos} {env : Env} : swappedStores [.Subscript o j pos] e env = pure none := rfl
theorem sns_setI {i : Nat} {k e : E} : SndS G fu (.setI i k e) := by
  intro X es W sx K hr m F0 H0 F H st σ r Z S ev P
  obtain ⟨x, px, j, p, v, pos, rfl, hb, m1, m2, hc⟩ := mS_setI m
  refine ss_of (ps_asg pe_se (pg_sub (pv_of hb) pe_se set_list (ix_sub (mE_ok m1))) (sole_sw hc) sub_sw rfl) ?_
  rw [evS] at ev
  obtain ⟨w, hw, ev⟩ := guard_some S ev
  refine oneS K m2 S ev P fun ke d v H1 F1 e1 e2 g1 S1 r1 f1 => ?_
  split at e2
  · cases e2
  · rename_i hk
    obtain ⟨F2, g2, rv⟩ := share g1 r1 f1 hk
    have S2 := S.mono g2
    refine ⟨_, hw, ?_⟩
    refine oneS K m1 S2 e2 (P.sub g2.ff) fun kk jd u H3 F3 e3 e4 g3 S3 r3 f3 => ?_
    split at e4
    · rename_i jj
      obtain ⟨ds, ys, h1, h2, rfl⟩ := onOwn_some e4
      obtain ⟨q, vs, h4, n, n0, hq, qv⟩ := own_lst S3 h1
      rw [hw] at h4
      cases h4
      cases e5 : ixN ds.length jj with
      | none => rw [e5] at h2; cases h2
      | some mm =>
        rw [e5] at h2
        cases h2
        refine ⟨_, vs, jj, mm, rfl, r3.int, hq, by rw [qv.length]; exact e5, ?_⟩
        exact P _ _ F3 (chg_own S3 h1 hw (qv.set (rv.to g3.ff) mm)) (g2.ff.trans g3.ff)
    · cases e4
theorem sns_dput {i : Nat} {k e : E} : SndS G fu (.dput i k e) := by
  intro X es W sx K hr m F0 H0 F H st σ r Z S ev P
  obtain ⟨x, px, j, p, v, pos, rfl, hb, m1, m2, hc⟩ := mS_dput m
  have hu := K.hu
  rw [evS] at ev
  unfold guardD at ev
  split at ev
  · rename_i kvs0 hd
    obtain ⟨q, hq, n, n0, t0⟩ := S.own i _ hd
    by_cases hk : ∃ r0, kvs0 = (.bool true, .none) :: r0
    · refine ss_of (ps_tput hu (pv_of hb) pe_se pe_se (noComp_sw hc _ _ _)) ?_
      refine oneS K m2 S ev P fun ke d v H1 F1 e1 e2 g1 S1 r1 f1 => ?_
      split at e2
      · cases e2
      · rename_i hkb
        obtain ⟨F2, g2, rv⟩ := share g1 r1 f1 hkb
        have S2 := S.mono g2
        refine ⟨_, hq, ?_⟩
        refine oneS K m1 S2 e2 (P.sub g2.ff) fun kk jd u H3 F3 e3 e4 g3 S3 r3 f3 => ?_
        have rv3 := rv.to g3.ff
        rw [hd] at e4
        split at e4
        · rename_i jj kvs hh
          cases hh
          obtain ⟨r0, rfl⟩ := hk
          split at e4
          · rename_i hl
            exact absurd hl.2 (by simp [realD, isIntD])
          · cases e4
        · rename_i xs kvs hh
          cases hh
          obtain ⟨r0, rfl⟩ := hk
          split at e4
          · rename_i r' nk h1 h2
            cases (tkOf_eq h1)
            split at e4
            · rename_i hl
              cases e4
              obtain ⟨q', h5, h6, h7, t3⟩ := S3.own i _ hd
              rw [hq] at h5
              cases h5
              rcases t3 with ⟨ks, _, z⟩ | ⟨ys, r1', z0, z1, z2⟩
              · cases z
              · cases z0
                obtain ⟨b, ws, rfl, eb, qb⟩ := r3.tup
                obtain ⟨h8, h9⟩ := tkey_all h2
                refine ⟨_, G.K, F3, ys, _, _, nk, d, rfl, ⟨S3.fh, z1, z2, h8, h9, .tup eb qb, ⟨b, rfl⟩⟩, sizeLt (Nat.le_of_lt hl), rv3, fun xs' z4 => ?_⟩
                exact P _ _ F3 (S3.chg hd hq (.inr ⟨_, _, rfl, upd_same, z4⟩)) (g2.ff.trans g3.ff)
            · cases e4
          · cases e4
        · cases e4
    · refine ss_of (ps_dput (by omega) (pv_of hb) pe_se pe_se (noComp_sw hc _ _ _)) ?_
      refine oneS K m2 S ev P fun ke d v H1 F1 e1 e2 g1 S1 r1 f1 => ?_
      split at e2
      · cases e2
      · rename_i hkb
        obtain ⟨F2, g2, rv⟩ := share g1 r1 f1 hkb
        have S2 := S.mono g2
        refine ⟨_, hq, ?_⟩
        refine oneS K m1 S2 e2 (P.sub g2.ff) fun kk jd u H3 F3 e3 e4 g3 S3 r3 f3 => ?_
        have rv3 := rv.to g3.ff
        rw [hd] at e4
        split at e4
        · rename_i jj kvs hh
          cases hh
          split at e4
          · rename_i hl
            cases e4
            obtain ⟨q', h1, h2, h3, t3⟩ := S3.own i _ hd
            rw [hq] at h1
            cases h1
            rcases t3 with ⟨ks, h4, h5⟩ | ⟨ys, r1', z0, z1, z2⟩
            · refine ⟨_, _, rfl, by rw [r3.int]; exact DPut.k (k := Sum.inl jj) h4 (sizeLt (by rw [h5.length]; exact Nat.le_of_lt hl.1)), ?_⟩
              exact P _ _ F3 (S3.chg hd hq (.inl ⟨_, upd_same, h5.put rv3⟩)) (g2.ff.trans g3.ff)
            · exact absurd ⟨_, z0⟩ hk
          · cases e4
        · rename_i xs kvs hh
          cases hh
          split at e4
          · rename_i r' nk h1 h2
            exact absurd ⟨_, tkOf_eq h1⟩ hk
          · cases e4
        · cases e4
  · cases ev
/-! ### methods -/
theorem ty_lst {p : Addr} {vs : List V} (h : H p = some (.lst vs)) : tyV X.K "list" (.ref p) H := .inl ⟨rfl, _, .inl (.inl h)⟩
theorem sns_app {i : Nat} {e : E} : SndS G fu (.app i e) := by
  intro X es W sx K hr m F0 H0 F H st σ r Z S ev P
  obtain ⟨f, a, p, pos, rfl, hf, m1⟩ := mS_app m
  obtain ⟨x, px, apos, rfl, hb, hl⟩ := recv_all hf
  have ok := mE_ok m1
  refine ss_of (ps_expr (pe_bm PySem.F.plainAttrs_list PySem.F.slot_list_append PySem.F.type_list_append mt_append (pv_of hb) (arg1 ok) rfl (by rw [ok_star ok]; rfl) hl (ok_star ok) rfl) rfl) ?_
  rw [evS] at ev
  obtain ⟨ds, hd⟩ := guard_own ev
  obtain ⟨q, hq, ev⟩ := guard_some S ev
  obtain ⟨q', vs, h1, n, n0, hl', qv⟩ := own_lst S hd
  rw [hq] at h1
  cases h1
  refine ⟨_, hq, ty_lst hl', ?_⟩
  refine oneS K m1 S ev P fun k d v H1 F1 e1 e2 g1 S1 r1 f1 => ?_
  split at e2
  · cases e2
  · rename_i hk
    obtain ⟨F2, g2, rv⟩ := share g1 r1 f1 hk
    have S2 := S.mono g2
    obtain ⟨ds', ys, k1, k2, rfl⟩ := onOwn_some e2
    obtain ⟨q', vs', h4, n', n0', hq', qv'⟩ := own_lst S2 k1
    rw [hq] at h4
    cases h4
    split at k2
    · rename_i hz
      cases k2
      refine ⟨q, vs', v, rfl, rfl, hq', sizeLt (by rw [qv'.length]; exact Nat.le_of_lt hz), ?_⟩
      exact P _ _ F2 (chg_own S2 k1 hq (qv'.append (.cons rv .nil))) g2.ff
    · cases k2
theorem sns_ext {i : Nat} {e : E} : SndS G fu (.ext i e) := by
  intro X es W sx K hr m F0 H0 F H st σ r Z S ev P
  obtain ⟨f, a, p, pos, rfl, hf, m1⟩ := mS_ext m
  obtain ⟨x, px, apos, rfl, hb, hl⟩ := recv_all hf
  have ok := mE_ok m1
  refine ss_of (ps_expr (pe_bm PySem.F.plainAttrs_list PySem.F.slot_list_extend PySem.F.type_list_extend mt_extend (pv_of hb) (arg1 ok) rfl (by rw [ok_star ok]; rfl) hl (ok_star ok) rfl) rfl) ?_
  rw [evS] at ev
  obtain ⟨ds, hd⟩ := guard_own ev
  obtain ⟨q, hq, ev⟩ := guard_some S ev
  obtain ⟨q', vs, h1, n, n0, hl', qv⟩ := own_lst S hd
  rw [hq] at h1
  cases h1
  refine ⟨_, hq, ty_lst hl', ?_⟩
  refine oneS K m1 S ev P fun k d v H1 F1 e1 e2 g1 S1 r1 f1 => ?_
  split at e2
  · cases e2
  · rename_i hk
    obtain ⟨F2, g2, rv⟩ := share g1 r1 f1 hk
    have S2 := S.mono g2
    split at e2
    · rename_i zs
      obtain ⟨ds', ys, k1, k2, rfl⟩ := onOwn_some e2
      obtain ⟨q', vs', h4, n', n0', hq', qv'⟩ := own_lst S2 k1
      rw [hq] at h4
      cases h4
      obtain ⟨b, ws, rfl, eb, qb⟩ := (show RV G.K F2 H1 .shr (.list zs) v from rv).lst g2.fh
      split at k2
      · rename_i hz
        cases k2
        refine ⟨q, b, vs', ws, rfl, rfl, hq', eb, sizeL (by rw [qv'.length, qb.length]; exact hz), ?_⟩
        exact P _ _ F2 (chg_own S2 k1 hq (qv'.append qb)) g2.ff
      · cases k2
    · cases e2
theorem arg2 {X : Cx} {e f : Expr} (h : okEx e = true) (h' : okEx f = true) : PA X [e, f] (tCons (SE X e) (tCons (SE X f) tNil)) := pa_cons pe_se (arg1 h') (ok_star h)
theorem sns_ins {i : Nat} {k e : E} : SndS G fu (.ins i k e) := by
  intro X es W sx K hr m F0 H0 F H st σ r Z S ev P
  obtain ⟨f, b, a, p, pos, rfl, hf, m0, m1⟩ := mS_ins m
  obtain ⟨x, px, apos, rfl, hb, hl⟩ := recv_all hf
  have ok0 := mE_ok m0
  have ok := mE_ok m1
  refine ss_of (ps_expr (pe_bm PySem.F.plainAttrs_list PySem.F.slot_list_insert PySem.F.type_list_insert mt_insert (pv_of hb) (arg2 ok0 ok) rfl (by rw [ok_star ok0, ok_star ok]; rfl) hl (ok_star ok0) (by rw [ok_star ok]; rfl)) rfl) ?_
  rw [evS] at ev
  obtain ⟨ds, hd⟩ := guard_own ev
  obtain ⟨q, hq, ev⟩ := guard_some S ev
  obtain ⟨q', vs, h1, n, n0, hl', qv⟩ := own_lst S hd
  rw [hq] at h1
  cases h1
  refine ⟨_, hq, ty_lst hl', ?_⟩
  refine oneS K m0 S ev P fun k0 j u H0' F0' e0 e1 g0 S0 r0 f0 => ?_
  refine oneS K m1 S0 e1 (P.sub g0.ff) fun k d v H1 F1 e1 e2 g1 S1 r1 f1 => ?_
  split at e2
  · cases e2
  · rename_i hk
    obtain ⟨F2, g2, rv⟩ := share g1 r1 f1 hk
    have S2 := S0.mono g2
    split at e2
    · rename_i jj
      split at e2
      · rename_i hj
        obtain ⟨ds', ys, k1, k2, rfl⟩ := onOwn_some e2
        obtain ⟨q', vs', h4, n', n0', hq', qv'⟩ := own_lst S2 k1
        rw [hq] at h4
        cases h4
        split at k2
        · rename_i hz
          cases k2
          refine ⟨q, vs', jj, v, rfl, by rw [r0.int], hq', sizeLt (by rw [qv'.length]; exact Nat.le_of_lt hz), hj.1, by omega, ?_⟩
          exact P _ _ F2 (chg_own S2 k1 hq (((qv'.take _).append (.cons rv .nil)).append (qv'.drop _))) (g0.ff.trans g2.ff)
        · cases k2
      · cases e2
    · cases e2
theorem sns_clr {i : Nat} : SndS G fu (.clr i) := by
  intro X es W sx K hr m F0 H0 F H st σ r Z S ev P
  obtain ⟨f, p, pos, rfl, hf⟩ := mS_clr m
  obtain ⟨x, px, apos, rfl, hb, hl⟩ := recv_all hf
  refine ss_of (ps_expr (pe_bm0 PySem.F.plainAttrs_list PySem.F.slot_list_clear PySem.F.type_list_clear mt_clear (pv_of hb) rfl hl) rfl) ?_
  rw [evS] at ev
  obtain ⟨ds, ys, k1, k2, rfl⟩ := onOwn_some ev
  cases k2
  obtain ⟨q, vs, h1, n, n0, hl', qv⟩ := own_lst S k1
  exact ⟨_, h1, ty_lst hl', q, vs, rfl, rfl, hl', P _ _ F (chg_own S k1 h1 .nil) (Sub.refl F)⟩
/-! ### returns, dropped values, raises -/
theorem sns_ret {e : E} : SndS G fu (.ret e) := by
  intro X es W sx K hr m F0 H0 F H st σ r Z S ev P
  obtain ⟨v, pos, rfl, m1⟩ := mS_ret m
  refine ss_of (ps_ret pe_se) ?_
  rw [evS] at ev
  by_cases hb : ∃ i d, e = .var i ∧ st[i]? = some (some (true, d))
  · obtain ⟨i, d, rfl, hd⟩ := hb
    obtain ⟨x, p, rfl, hx⟩ := mE_var m1
    obtain ⟨q, h1, n, n0, t⟩ := S.own i d hd
    simp only [evE, hd, onV, if_pos] at ev
    cases ev
    exact se_of (pv_of hx) ⟨_, h1, P _ H F S.gr S.cel ⟨q, rfl, n, t, fun e => nomatch e⟩ (fun _ p z => by cases z; exact n0) fun _ p z => by cases z; exact S.ocl i d q hd h1⟩
  · refine oneS K m1 S ev P fun k d w H1 F1 e1 e2 g1 S1 r1 f1 => ?_
    split at e2
    · rename_i hk
      subst hk
      split at e2
      · rename_i i
        rw [evE] at e1
        split at e1
        · rename_i d' q
          exact absurd ⟨i, d', rfl, q⟩ hb
        · cases e1
        · cases e1
      · cases e2
    · rename_i hk
      cases e2
      exact P w H1 F1 S1.gr S1.cel r1 (fun e p q => S.gr.hh.none (f1 e p q)) fun e p q => S.cel.new (f1 e p q)
theorem sns_retN : SndS G fu .retN := by
  intro X es W sx K hr m F0 H0 F H st σ r Z S ev P
  obtain ⟨pos, rfl⟩ := mS_retN m
  rw [evS] at ev
  cases ev
  exact ss_of ps_retN (P _ H F S.gr S.cel (show Rp G.K _ _ _ from .non) (fun e => nomatch e) fun e => nomatch e)
theorem sns_exp {e : E} : SndS G fu (.exp e) := by
  intro X es W sx K hr m F0 H0 F H st σ r Z S ev P
  obtain ⟨v, pos, rfl, m1, hc⟩ := mS_exp m
  refine ss_of (ps_expr pe_se (noComp_sw hc _ _ _)) ?_
  rw [evS] at ev
  refine oneS K m1 S ev P fun k d w H1 F1 e1 e2 g1 S1 r1 f1 => ?_
  cases e2
  exact P _ _ F1 S1 g1.ff
theorem sns_rai {c : Str} : SndS G fu (.rai c) := by
  intro X es W sx K hr m F0 H0 F H st σ r Z S ev P
  obtain ⟨f, t, k, p2, p, pos, rfl, hg⟩ := mS_rai m
  obtain ⟨p3, rfl, hgl, hpl⟩ := isG_name hg
  rw [evS] at ev
  cases ev
  exact ss_of (ps_raise K.calm K.tk (K.rs c (hr c (by simp [raises])) (glB_gl hgl) hpl t k p3 p2 p)) (P σ H F S.gr S.cel)
end
end Dv

/-! Dv, part Lh: the suite of an except clause. -/
namespace Dv
open PySem PySem.Spec PyProof.Rows L2

/-- isinstance(e, (c1, ..)), e the exception that the suite holds, the tuple laid for it -/
def rIsEs (K : PySem.W.Frag) (D a : Addr) : List V → Hp → VK → Prop := fun xs H Q => ∃ (tp : Addr) (cs : List V) (us : List Value) (b : Bool), xs = [.ref a, .ref tp] ∧ H tp = some (.tup cs) ∧ Paired ClsV cs us ∧ PySem.W.kitAny K (.ref D) us = some b ∧ Q (.bl b) H
theorem call_isEs {X : Cx} {a D : Addr} {oe : Obj} {pn : List (Addr × Obj)} (C : ExcC X.K D) (hz : Zc (.ref D) none oe) (hf : ∃ vs, oe.data = .fields vs) : CallR (X.suite a ((a, oe) :: pn)) (.builtin "isinstance") (rIsEs X.K D a) := by
  intro pins s σ H xs us Q I r h
  obtain ⟨tp, cs, ws, b, rfl, hT, k, e, q⟩ := h
  obtain ⟨u1, u2, rfl, r1, r2⟩ := vals2 r
  cases (show u1 = Value.ref a from r1)
  cases (show u2 = Value.ref tp from r2)
  have J : PySem.W.InstAt s.heap a oe D none := by
    have hg := (I.pin (a, oe) (List.mem_append.mpr (.inl List.mem_cons_self))).1
    obtain ⟨vs, hv⟩ := hf
    obtain ⟨oc, od, oda, osl⟩ := oe
    simp only [Zc] at hz
    dsimp only at hv
    obtain ⟨z1, z2⟩ := hz
    subst z1 z2 hv
    exact ⟨hg, rfl, rfl, trivial⟩
  obtain ⟨_, its, rv, o, h1, h2, n, h3⟩ := (show ObjOk X.prog X.w H s.heap tp (.tup cs) from I.hok tp _ hT)
  have e3 := ClsV.all k rv
  subst e3
  obtain ⟨o1, o2, o3, o4⟩ := o
  dsimp only at h2 h3
  subst h2 h3
  exact PySem.W.kia_tup (PySem.W.handS_kitx_exc C.hg C.hk C.hs C.hd C.ha C.hn C.ht C.hm) I.kIn J h1 e (fun z => nomatch z) fun tk => ⟨.bl b, H, I.kept (t' := tk) fun _ _ z => z, rfl, q⟩

/-- a value of the suite -/
def hvR (Hs H : Hp) : HV → V → Prop
  | .b x, v => v = .bl x
  | .l xs, v => ∃ p, v = .ref p ∧ H p = some (.lst (xs.map V.str)) ∧ Hs p = none
theorem hvR.sub {Hs H H' : Hp} {x : HV} {v : V} (r : hvR Hs H x v) (s : Sub H H') : hvR Hs H' x v := by
  cases x with
  | b x => exact r
  | l xs => obtain ⟨p, e, h, n⟩ := r; exact ⟨p, e, s _ _ h, n⟩
def hotσ (Hs H : Hp) (σ : L2.St) (env : List (Nat × HV)) : Prop := ∀ j x, env.lookup j = some x → ∃ v, σ[j]? = some (some v) ∧ hvR Hs H x v
theorem hotσ.sub {Hs H H' : Hp} {σ : L2.St} {env : List (Nat × HV)} (r : hotσ Hs H σ env) (s : Sub H H') : hotσ Hs H' σ env := fun j x e => by
  obtain ⟨v, h1, h2⟩ := r j x e
  exact ⟨v, h1, h2.sub s⟩
section
variable {G : GI} {W : WX} {es : List Str} {X : Cx} {a : Addr} {oe : Obj} {pn : List (Addr × Obj)} {c : Str} {i : Nat}
theorem isN_name {sc : Scope} {d : Str} {e : Expr} {C : Cc} (m : isN C sc d e = true) : ∃ p, e = .Name d p ∧ glB sc d = true ∧ plainName d = true ∧ d ∈ C.ht := by
  unfold isN at m
  split at m
  · simp only [Bool.and_eq_true, decide_eq_true_eq] at m
    obtain ⟨⟨⟨rfl, h1⟩, h2⟩, h3⟩ := m
    exact ⟨_, rfl, h1, h2, h3⟩
  · cases m
theorem pe_cls (K : CKS G es W X) (ho : HotOK X.K G.ea c G.ht) {d : Str} {e : Expr} (m : isN (cc G X) X.env.scope d e = true) : PE (X.suite a ((a, oe) :: pn)) e (tC (.ref (G.ea d))) := by
  obtain ⟨p, rfl, h1, h2, h3⟩ := isN_name m
  exact pe_glob (X := X.suite a ((a, oe) :: pn)) (glB_gl h1) (K.hg d h3) rfl (plain_all h2).1
theorem pa_cls (K : CKS G es W X) (ho : HotOK X.K G.ea c G.ht) : ∀ (ds : List Str) (fs : List Expr), isNs (cc G X) X.env.scope ds fs = true → PA (X.suite a ((a, oe) :: pn)) fs (fun σ H Q => Q (ds.map fun d => .ref (G.ea d)) H)
  | [], [], _ => pa_nil
  | d :: ds, f :: fs, h => by
    simp only [isNs, Bool.and_eq_true] at h
    obtain ⟨p, rfl, _⟩ := isN_name h.1
    have q := pa_cons (pe_cls (a := a) (oe := oe) (pn := pn) K ho h.1) (pa_cls K ho ds fs h.2) rfl
    exact ⟨fun pos pins s σ H Q I hq => q.run pos pins s σ H Q I hq⟩
  | [], _ :: _, h => by simp [isNs] at h
  | _ :: _, [], h => by simp [isNs] at h
theorem paired_cls : ∀ ds : List Str, Paired ClsV (ds.map fun d => V.ref (G.ea d)) (ds.map fun d => Value.ref (G.ea d))
  | [] => .nil
  | d :: ds => .cons (.own _) (paired_cls ds)
theorem kit_cls (ho : HotOK X.K G.ea c G.ht) : ∀ ds : List Str, (∀ d ∈ ds, d ∈ G.ht) → PySem.W.kitAny X.K (.ref (G.ea c)) (ds.map fun d => Value.ref (G.ea d)) = some (ds.any (isSub c))
  | [], _ => kitAny_nil
  | d :: ds, h => by
    rw [List.map_cons, List.any_cons]
    refine kitAny_cons (ho.one d (h d (by simp))) (fun z => ?_) fun z => ?_
    · rw [z, Bool.false_or]; exact kit_cls ho ds fun x hx => h x (by simp [hx])
    · rw [z, Bool.true_or]
theorem isNs_mem {C : Cc} {sc : Scope} : ∀ (ds : List Str) (fs : List Expr), isNs C sc ds fs = true → ∀ d ∈ ds, d ∈ C.ht
  | [], _, _, d, hd => by simp at hd
  | d :: ds, f :: fs, h, x, hx => by
    simp only [isNs, Bool.and_eq_true] at h
    rcases List.mem_cons.mp hx with rfl | hx
    · obtain ⟨_, _, _, _, z⟩ := isN_name h.1
      exact z
    · exact isNs_mem ds fs h.2 x hx
  | _ :: _, [], h, _, _ => by simp [isNs] at h
theorem snd_H (K : CKS G es W X) (ho : HotOK X.K G.ea c G.ht) (hz : Zc (.ref (G.ea c)) none oe) (hf : ∃ vs, oe.data = .fields vs) {Hs : Hp} : ∀ (h : HX) (ex : Expr), mH (cc G X) X.env.scope i h ex = true → ∀ (σ : L2.St) (H : Hp) (env : List (Nat × HV)) (x : HV) (Q : VK), σ[i]? = some (some (.ref a)) → hotσ Hs H σ env → Sub Hs H → evH c env h = some x →
    (∀ v H', Sub H H' → hvR Hs H' x v → Q v H') → SE (X.suite a ((a, oe) :: pn)) ex σ H Q := by
  intro h
  induction h with
  | isE d =>
    intro ex m σ H env x Q hi hσ hs ev P
    unfold mH at m
    split at m <;> first | contradiction | skip
    rename_i h
    cases h
    simp only [Bool.and_eq_true] at m
    obtain ⟨⟨hg, hx⟩, hk⟩ := m
    obtain ⟨p2, rfl, hgl, hpl⟩ := isG_name hg
    obtain ⟨h1, h2, h3⟩ := plain_all hpl
    have hk' := hk
    obtain ⟨p3, rfl, _, _, hd⟩ := isN_name hk
    rw [evH] at ev
    cases ev
    refine se_of (pe_callB (call_isE ho.ec hz hf) (glB_gl hgl) (K.bl _ (by decide +kernel)) (by decide +kernel) (pa_cons (pv_of hx) (pa_cons (pe_cls K ho hk') pa_nil rfl) rfl) h3 h1 rfl) ?_
    exact ⟨_, hi, _, _, _, rfl, fun u r => r, ho.one d hd, P _ _ (Sub.refl H) rfl⟩
  | isV =>
    intro ex m σ H env x Q hi hσ hs ev P
    unfold mH at m
    split at m <;> first | contradiction | skip
    rename_i h
    cases h
    simp only [Bool.and_eq_true] at m
    obtain ⟨⟨hg, hx⟩, hk⟩ := m
    obtain ⟨p2, rfl, hgl, hpl⟩ := isG_name hg
    obtain ⟨h1, h2, h3⟩ := plain_all hpl
    obtain ⟨p3, rfl, hkl, hkp⟩ := isG_name hk
    obtain ⟨h4, h5, h6⟩ := plain_all hkp
    rw [evH] at ev
    cases ev
    refine se_of (pe_callB (call_isE ho.ec hz hf) (glB_gl hgl) (K.bl _ (by decide +kernel)) (by decide +kernel) (pa_cons (pv_of hx) (pa_cons (pe_bltn (v := .ty "ValueError") (glB_gl hkl) (K.bl _ (by decide +kernel)) (by decide +kernel) rfl h6 h4) pa_nil rfl) rfl) h3 h1 rfl) ?_
    exact ⟨_, hi, _, _, _, rfl, fun u r => r, ho.v, P _ _ (Sub.refl H) rfl⟩
  | isEs ds =>
    intro ex m σ H env x Q hi hσ hs ev P
    unfold mH at m
    split at m <;> first | contradiction | skip
    rename_i h
    cases h
    simp only [Bool.and_eq_true, decide_eq_true_eq] at m
    obtain ⟨⟨⟨hg, hx⟩, hk⟩, hl⟩ := m
    obtain ⟨p2, rfl, hgl, hpl⟩ := isG_name hg
    obtain ⟨h1, h2, h3⟩ := plain_all hpl
    rw [evH] at ev
    cases ev
    refine se_of (pe_callB (call_isEs ho.ec hz hf) (glB_gl hgl) (K.bl _ (by decide +kernel)) (by decide +kernel) (pa_cons (pv_of hx) (pa_cons (pe_tup (pa_cls K ho ds _ hk)) pa_nil rfl) rfl) h3 h1 rfl) ?_
    refine ⟨_, hi, sizeL (by rw [List.length_map]; exact Nat.le_trans hl (by decide)), fun p n => ⟨p, _, _, _, rfl, upd_same, paired_cls ds, kit_cls ho ds (isNs_mem ds _ hk), P _ _ (fun a o e => ?_) rfl⟩⟩
    rw [upd_ne (ne_of_none e n)]; exact e
  | var j =>
    intro ex m σ H env x Q hi hσ hs ev P
    unfold mH at m
    split at m <;> first | contradiction | skip
    rename_i h
    cases h
    rw [evH] at ev
    obtain ⟨v, h1, h2⟩ := hσ _ _ ev
    exact se_of (pv_of m) ⟨v, h1, P v H (Sub.refl H) h2⟩
  | not b ih =>
    intro ex m σ H env x Q hi hσ hs ev P
    unfold mH at m
    split at m <;> first | contradiction | skip
    rename_i h
    cases h
    rw [evH] at ev
    split at ev
    · rename_i y e1
      cases ev
      exact se_of (pe_not pe_se) (ih _ m σ H env _ _ hi hσ hs e1 fun v H' s r => ⟨y, r, P _ _ s rfl⟩)
    · cases ev
  | and3 b1 b2 b3 ih1 ih2 ih3 =>
    intro ex m σ H env x Q hi hσ hs ev P
    unfold mH at m
    split at m <;> first | contradiction | skip
    rename_i h
    cases h
    simp only [Bool.and_eq_true] at m
    obtain ⟨⟨m1, m2⟩, m3⟩ := m
    rw [evH] at ev
    split at ev
    · rename_i p q r e1 e2 e3
      cases ev
      refine se_of (pe_and pe_se pe_se) (ih1 _ m1 σ H env _ _ hi hσ hs e1 fun v H1 s1 r1 => ⟨p, r1, ?_⟩)
      cases p with
      | false => exact P _ _ s1 rfl
      | true =>
        refine se_of (pe_and pe_se (pe_one pe_se)) (ih2 _ m2 σ H1 env _ _ hi (hσ.sub s1) (hs.trans s1) e2 fun v H2 s2 r2 => ⟨q, r2, ?_⟩)
        cases q with
        | false => exact P _ _ (s1.trans s2) rfl
        | true => exact ih3 _ m3 σ H2 env _ _ hi (hσ.sub (s1.trans s2)) (hs.trans (s1.trans s2)) e3 fun v H3 s3 r3 => P _ _ (s1.trans (s2.trans s3)) r3
    · cases ev
  | rep t b ih =>
    intro ex m σ H env x Q hi hσ hs ev P
    unfold mH at m
    split at m <;> first | contradiction | skip
    rename_i h
    cases h
    simp only [Bool.and_eq_true, decide_eq_true_eq] at m
    obtain ⟨⟨rfl, hg⟩, m1⟩ := m
    obtain ⟨p2, rfl, hgl, hpl⟩ := isG_name hg
    obtain ⟨h1, h2, h3⟩ := plain_all hpl
    rw [evH] at ev
    split at ev
    · rename_i y e1
      cases ev
      have star : ∀ e : Expr, mH (cc G X) X.env.scope i b e = true → starEach [e] X.env = (false, eval e X.env) :: starEach [] X.env := fun e m => by
        cases e <;> first | rfl | (unfold mH at m; split at m <;> contradiction)
      refine se_of (pe_op op_rep (pe_lst (pa_cons pe_str pa_nil rfl)) (pe_callTy call_int1 (glB_gl hgl) (K.bl _ (by decide +kernel)) (by decide +kernel) (pa_cons pe_se pa_nil (star _ m1)) h3 h1 (star _ m1))) ?_
      refine ⟨sizeL (by show 1 ≤ lim; decide), fun p n => ?_⟩
      have s0 : Sub H (upd H p (.lst [.str t])) := fun a o e => by rw [upd_ne (ne_of_none e n)]; exact e
      refine ih _ m1 σ _ env _ _ hi (hσ.sub s0) (hs.trans s0) e1 fun v H1 s1 r1 => .inr ⟨y, by rw [r1], ?_⟩
      refine ⟨p, _, _, rfl, rfl, s1 _ _ upd_same, ?_, ?_, ?_, fun p' n' => ?_⟩
      · cases y <;> decide
      · cases y <;> decide
      · cases y <;> exact sizeL (Nat.le_trans (Nat.mul_le_mul_left 1 (by decide : _ ≤ 1)) (by decide))
      · have s2 : ∀ o, Sub H1 (upd H1 p' o) := fun o a u e => by rw [upd_ne (ne_of_none e n')]; exact e
        refine P _ _ (s0.trans (s1.trans (s2 _))) ⟨p', rfl, ?_, (hs.trans (s0.trans s1)).none n'⟩
        rw [upd_same]
        cases y <;> rfl
    · cases ev
  | add b1 b2 ih1 ih2 =>
    intro ex m σ H env x Q hi hσ hs ev P
    unfold mH at m
    split at m <;> first | contradiction | skip
    rename_i h
    cases h
    simp only [Bool.and_eq_true] at m
    obtain ⟨m1, m2⟩ := m
    rw [evH] at ev
    split at ev
    · rename_i xs ys e1 e2
      split at ev
      · rename_i hl
        cases ev
        refine se_of (pe_op op_cat pe_se pe_se) (ih1 _ m1 σ H env _ _ hi hσ hs e1 fun v H1 s1 r1 => ih2 _ m2 σ H1 env _ _ hi (hσ.sub s1) (hs.trans s1) e2 fun u H2 s2 r2 => ?_)
        obtain ⟨p, rfl, hp, _⟩ := r1
        obtain ⟨q, rfl, hq, _⟩ := r2
        refine ⟨p, q, _, _, rfl, rfl, s2 _ _ hp, hq, sizeL (by rw [List.length_map, List.length_map]; exact Nat.le_trans hl (by decide)), fun p' n' => ?_⟩
        have s3 : ∀ o, Sub H2 (upd H2 p' o) := fun o a u e => by rw [upd_ne (ne_of_none e n')]; exact e
        exact P _ _ (s1.trans (s2.trans (s3 _))) ⟨p', rfl, by rw [upd_same, List.map_append], (hs.trans (s1.trans s2)).none n'⟩
      · cases ev
    · cases ev
theorem snd_Hs (K : CKS G es W X) (ho : HotOK X.K G.ea c G.ht) (hz : Zc (.ref (G.ea c)) none oe) (hf : ∃ vs, oe.data = .fields vs) {Hs : Hp} : ∀ (hs : List (Nat × HX)) (r : HX) (sx : List Stmt), mHs (cc G X) X.env.scope i hs r sx = true → ∀ (σ : L2.St) (H : Hp) (env : List (Nat × HV)) (x : HV) (Z : Ends), σ.length = X.N.length → σ[i]? = some (some (.ref a)) → hotσ Hs H σ env → Sub Hs H →
    evHs c env hs r = some x → (∀ v H', Sub H H' → hvR Hs H' x v → Z.rt v H') → SSs (X.suite a ((a, oe) :: pn)) sx Z σ H := by
  intro hs
  induction hs with
  | nil =>
    intro r sx m σ H env x Z hl hi hσ hs ev P
    unfold mHs at m
    split at m <;> first | contradiction | skip
    · rename_i h1 h2
      rw [evHs] at ev
      exact sss_of (pss_one (ps_ret pe_se)) (snd_H K ho hz hf _ _ m σ H env x _ hi hσ hs ev P)
  | cons q hs ih =>
    intro r sx m σ H env x Z hl hi hσ hs' ev P
    unfold mHs at m
    split at m <;> first | contradiction | skip
    · rename_i r0 _ _ _ j h hs1 y py v pos ss hh
      cases hh
      simp only [Bool.and_eq_true, decide_eq_true_eq] at m
      obtain ⟨⟨⟨⟨hw, hne⟩, hc⟩, m1⟩, m2⟩ := m
      obtain ⟨hN, hlo⟩ := wrB_all hw
      have hj : j < σ.length := by rw [hl]; exact (List.getElem?_eq_some_iff.mp hN).1
      rw [evHs] at ev
      split at ev
      · rename_i w e1
        refine sss_of (pss_cons (ps_set K.nd hN hlo pe_se (noComp_sw hc _ _ _) (.inl (K.fnT y))) pss_sss) ?_
        refine snd_H K ho hz hf _ _ m1 σ H env w _ hi hσ hs' e1 fun u H1 s1 r1 => ?_
        refine ih r0 ss m2 (σ.set j (some u)) H1 _ x Z (by rw [List.length_set]; exact hl) ?_ ?_ (hs'.trans s1) ev fun v H2 s2 r2 => P v H2 (s1.trans s2) r2
        · rw [List.getElem?_set_ne hne]; exact hi
        · intro k z e
          by_cases hk : k = j
          · subst hk
            have : w = z := by simpa [List.lookup] using e
            subst this
            exact ⟨u, List.getElem?_set_self hj, r1⟩
          · rw [List.lookup, show (k == j) = false by simpa using hk] at e
            obtain ⟨v2, q1, q2⟩ := hσ k z e
            exact ⟨v2, by rw [List.getElem?_set_ne (Ne.symm hk)]; exact q1, q2.sub s1⟩
      · cases ev
theorem mS_try {C : Cc} {sc : Scope} {sx : Stmt} {e : E} {cs : List Str} {hs : List (Nat × HX)} {r : HX} (m : mS C sc (.tryC i e cs hs r) sx = true) : ∃ v pe py n suite pos' pos, sx = .Try [.Expr v pe] [.ExceptHandler (some (.Name "SwapError" py)) (some n) suite pos'] [] [] pos ∧
    mE C sc e v = true ∧ noComp v = true ∧ glB sc "SwapError" = true ∧ ("SwapError" : Str) ∈ C.ht ∧ C.N[i]? = some n ∧ sc.names.lookup n = some .local ∧ (∀ d ∈ cs, d ∈ C.hc) ∧ mHs C sc i hs r suite = true := by
  unfold mS at m
  split at m <;> first | contradiction | skip
  rename_i h
  cases h
  simp only [Bool.and_eq_true, decide_eq_true_eq, List.all_eq_true] at m
  obtain ⟨⟨⟨⟨⟨⟨⟨⟨m1, m2⟩, rfl⟩, m4⟩, m5⟩, m6⟩, m7⟩, m8⟩, m9⟩ := m
  exact ⟨_, _, _, _, _, _, _, rfl, m1, m2, m4, m5, m6, m7, m8, m9⟩
theorem mHs_cons {C : Cc} {sc : Scope} : ∀ {hs : List (Nat × HX)} {r : HX} {sx : List Stmt}, mHs C sc i hs r sx = true → ∃ b ss, sx = b :: ss
  | [], r, [], m => by simp [mHs] at m
  | _ :: _, r, [], m => by simp [mHs] at m
  | _, r, b :: ss, m => ⟨b, ss, rfl⟩
theorem sns_try {fu : Nat} {e : E} {cs : List Str} {hs : List (Nat × HX)} {r : HX} : SndS G fu (.tryC i e cs hs r) := by
  intro X es W sx K hr m F0 H0 F H st σ o Z S ev P
  obtain ⟨v, pe, py, n, suite, pos', pos, rfl, m1, hc, hg, ht, hN, hlo, hcs, m2⟩ := mS_try m
  obtain ⟨b0, ss, rfl⟩ := mHs_cons m2
  intro pins s I
  have hlen : σ.length = X.N.length := I.len
  rw [evS] at ev
  have hot : ∀ c ∈ cs, HotOK X.K G.ea c G.ht := fun c h => K.hot c (hcs c h)
  refine (ss_of (ps_try_as K.stk K.frm K.nd hN hlo (c := .ref (G.ea "SwapError")) ⟨glB_gl hg, by decide +kernel, .inl (K.hg _ ht)⟩ K.tk (tb := fun W' D σ H => ∀ pn xe, Takes (X.tr pn xe) W' → PassesOwn (model X.prog X.w) X.A X.env xe → SSs (X.tr pn xe) [.Expr v pe] D σ H)
    (ts := fun a cls d D σ H => ∀ oe pn, Zc cls d oe → (∃ vs, oe.data = .fields vs) → SSs (X.suite a ((a, oe) :: pn)) (b0 :: ss) D σ H) (fun W' pn xe tk po => ⟨fun pins s σ H D I h => h pn xe tk po pins s I⟩) (fun a oe cls d pn hz hf => ⟨fun pins s σ H D I h => h oe pn hz hf pins s I⟩)) ?_) pins s I
  intro pn xe tk po
  refine sss_of (pss_one (ps_expr pe_se (noComp_sw hc _ _ _))) ?_
  have K' : CK G (wAs X.K (.ref (G.ea "SwapError")) i (fun a cls d D σ H => ∀ oe pn, Zc cls d oe → (∃ vs, oe.data = .fields vs) → SSs (X.suite a ((a, oe) :: pn)) (b0 :: ss) D σ H) W Z) (X.tr pn xe) := ⟨K.kk, K.nd, K.calm, K.room, K.bl, K.fn, K.gl, tk, K.op, K.cls, K.mt⟩
  cases e1 : evE G.Φ e st with
  | none => rw [e1] at ev; cases ev
  | some q =>
    rw [e1] at ev
    cases q with
    | ok k d =>
      cases ev
      exact (sndE e).1 (X.tr pn xe) _ v K' m1 F0 H0 F H st σ _ _ S e1 fun y H1 F1 g r1 f1 => P σ H1 F1 (S.mono g) g.ff
    | ex c =>
      simp only at ev
      split at ev
      · rename_i hcm
        have ho := hot c hcm
        cases e2 : evHs c [] hs r with
        | none => rw [e2] at ev; cases ev
        | some x =>
          rw [e2] at ev
          cases ev
          refine (sndE e).1 (X.tr pn xe) _ v K' m1 F0 H0 F H st σ _ _ S e1 ?_
          intro H1 s1
          refine ⟨true, ho.ex, fun _ a na => ?_, fun z => nomatch z⟩
          intro oe pn' hz hf
          have hi : i < σ.length := by rw [hlen]; exact (List.getElem?_eq_some_iff.mp hN).1
          refine snd_Hs K ho hz hf hs r _ m2 _ H1 [] x _ (by rw [List.length_set]; exact hlen) (List.getElem?_set_self hi) (fun j z h => by simp at h) (Sub.refl H1) e2 ?_
          intro w H2 s2 r2
          have g : Gr F H F H2 := ⟨Sub.refl F, (S.fh.trans s1).trans s2, s1.trans s2, fun _ _ e => .inl e⟩
          cases x with
          | b y => exact P w H2 F (S.gr.trans g) (S.cel.mono g) (by rw [show w = .bl y from r2]; exact .bl y) (fun z => nomatch z) fun z => nomatch z
          | l xs =>
            obtain ⟨p, rfl, hp, hn⟩ := r2
            refine P _ H2 F (S.gr.trans g) (S.cel.mono g) ⟨p, rfl, (S.fh.trans s1).none hn, ⟨xs.map V.str, hp, ?_⟩, fun e => nomatch e⟩ (fun _ q z => ?_) fun _ q z => ?_
            · clear hp e2 P
              induction xs with
              | nil => exact .nil
              | cons y ys ih => exact .cons (.str y) ih
            · cases z
              exact (S.gr.hh.trans s1).none hn
            · cases z
              exact S.cel.new (s1.none hn)
      · cases ev
end
end Dv

/-! Dv, part M: ifs, loops, blocks; every statement. -/
namespace Dv
open PySem PySem.Spec PyProof.Rows L2

section
variable {G : GI} {fu : Nat} {es : List Str} {W : WX} {X : Cx} {F0 H0 F H F1 H1 : Hp} {st : Ev} {σ : L2.St} {r : SO} {Z : Ends}
theorem mem_l {a b : List Str} {es : List Str} (h : ∀ c ∈ a ++ b, c ∈ es) : (∀ c ∈ a, c ∈ es) ∧ ∀ c ∈ b, c ∈ es :=
  ⟨fun c m => h c (List.mem_append_left _ m), fun c m => h c (List.mem_append_right _ m)⟩
theorem sns_ite {d : E} {a b : List S} (ha : SndSs G fu a) (hb : SndSs G fu b) : SndS G fu (.ite d a b) := by
  intro X es W sx K hr m F0 H0 F H st σ r Z S ev P
  obtain ⟨t, x, y, pos, rfl, m1, m2, m3⟩ := mS_ite m
  rw [raises] at hr
  obtain ⟨hr1, hr2⟩ := mem_l hr
  refine ss_of (ps_if pt_st pss_sss pss_sss) ?_
  rw [evS] at ev
  rcases onB_some ev with ⟨b, e1, e2⟩ | ⟨c, e1, rfl⟩
  · refine (sndE d).2 X W t K.toCK m1 F0 H0 F H st σ _ _ S e1 fun H1 F1 g1 => ?_
    cases b with
    | true =>
      rw [if_pos rfl] at e2 ⊢
      exact ha X es W x K hr1 m2 F0 H0 F1 H1 st σ r Z (S.mono g1) e2 (P.sub g1.ff)
    | false =>
      rw [if_neg Bool.false_ne_true] at e2 ⊢
      exact hb X es W y K hr2 m3 F0 H0 F1 H1 st σ r Z (S.mono g1) e2 (P.sub g1.ff)
  · exact (sndE d).2 X W t K.toCK m1 F0 H0 F H st σ _ _ S e1 (ex_okT P S)

/-! ### loops -/
/-- ahead of a turn -/
def FI (G : GI) (F0 H0 F1 : Hp) (f : D → Ev → Option SO) (r : SO) (rest : List D) (σ : L2.St) (H : Hp) : Prop :=
  ∃ st F, StOK G.K F0 H0 F H st σ ∧ Sub F1 F ∧ forGo f rest st = some r
/-- one turn of a loop over data: the body's own end, by what is left -/
theorem turn_post {f : D → Ev → Option SO} {d : D} {rest : List D} {N : L2.St → Hp → Prop} (P : PostS G W F0 H0 F1 r Z) (s : Sub F1 F) (e : forGo f (d :: rest) st = some r)
    (hN : ∀ σ H, FI G F0 H0 F1 f r rest σ H → N σ H) : ∃ q, f d st = some q ∧ PostS G W F0 H0 F q { Z with nx := N, ct := N, bk := Z.nx } := by
  rw [forGo] at e
  unfold thenS at e
  split at e
  · rename_i st' h
    exact ⟨_, h, fun σ' H' F' S' z => hN σ' H' ⟨st', F', S', s.trans z, e⟩⟩
  · rename_i h
    cases q : f d st with
    | none => rw [q] at e; cases e
    | some q' =>
      rw [q] at e
      cases e
      refine ⟨_, rfl, ?_⟩
      cases r with
      | nx st' => exact absurd q (h st')
      | rt k d => exact P
      | ex c => exact P
theorem sns_for {i : Nat} {src : E} {b : List S} (hb : SndSs G fu b) : SndS G fu (.for i src b) := by
  intro X es W sx K hr m F0 H0 F H st σ r Z S ev P
  obtain ⟨x, px, it, body, pos, rfl, hw, m1, m2⟩ := mS_for m
  obtain ⟨hN, hl⟩ := wrB_all hw
  rw [raises] at hr
  rw [evS] at ev
  have go : ∀ {vs : List V} {ds : List D} {F1 H1 F2 : Hp}, Gr F H F2 H1 → Rps G.K F2 vs ds → forGo (fun d st => evSs G.Φ fu b (st.set i (some (false, d)))) ds st = some r →
      (FI G F0 H0 F2 (fun d st => evSs G.Φ fu b (st.set i (some (false, d)))) r (ds.drop 0) σ H1) ∧
      (∀ (j : Nat) (v : V) (σ' : L2.St) (H' : Hp), vs[j]? = some v → FI G F0 H0 F2 (fun d st => evSs G.Φ fu b (st.set i (some (false, d)))) r (ds.drop j) σ' H' →
        gName i v σ' H' fun σ2 H2 => SSs X body { Z with nx := FI G F0 H0 F2 (fun d st => evSs G.Φ fu b (st.set i (some (false, d)))) r (ds.drop (j + 1)), ct := FI G F0 H0 F2 (fun d st => evSs G.Φ fu b (st.set i (some (false, d)))) r (ds.drop (j + 1)), bk := Z.nx } σ2 H2) ∧
      (∀ (σ' : L2.St) (H' : Hp), FI G F0 H0 F2 (fun d st => evSs G.Φ fu b (st.set i (some (false, d)))) r (ds.drop vs.length) σ' H' → Z.nx σ' H') := fun {vs ds F1 H1 F2} g q e => by
    refine ⟨⟨st, F2, S.mono g, Sub.refl _, e⟩, fun j v σ' H' hv I => ?_, fun σ' H' I => ?_⟩
    · obtain ⟨d, hd, rd⟩ := q.getV hv
      rw [drop_cons hd] at I
      obtain ⟨st', F', S', s', e'⟩ := I
      obtain ⟨o, e2, P2⟩ := turn_post (P.sub g.ff) s' e' fun _ _ h => h
      exact hb X es W body K hr m2 F0 H0 F' H' _ _ o _ (S'.setS i (rd.to s')) e2 P2
    · rw [q.length, List.drop_length] at I
      obtain ⟨st', F', S', s', e'⟩ := I
      rw [forGo] at e'
      cases e'
      exact P σ' H' F' S' (g.ff.trans s')
  have exc : ∀ (c : Str), evE G.Φ src st = some (.ex c) → r = .ex c → SS X (.For (.Name x px) it body [] pos) Z σ H := fun c e1 er => by
    subst er
    refine ss_of (ps_for K.po K.calm (pi_list pe_se) (pg_name K.nd hN hl (.inl (K.fnT x))) pss_sss (ok_set (mE_ok m1))) ?_
    exact (sndE src).1 X W it K.toCK m1 F0 H0 F H st σ _ _ S e1 (ex_ok P S)
  rcases onV_some ev with ⟨k, d, e1, e2⟩ | ⟨c, e1, er⟩
  · split at e2
    · cases e2
    · rename_i hk
      cases e3 : itemsD d with
      | none => rw [e3] at e2; cases e2
      | some ds =>
        rw [e3] at e2
        simp only at e2
        cases d with
        | list xs =>
          cases e3
          refine ss_of (ps_for K.po K.calm (pi_list pe_se) (pg_name K.nd hN hl (.inl (K.fnT x))) pss_sss (ok_set (mE_ok m1))) ?_
          refine (sndE src).1 X W it K.toCK m1 F0 H0 F H st σ _ _ S e1 fun v H1 F1 g1 r1 f1 => ?_
          obtain ⟨F2, g2, rv⟩ := share g1 r1 f1 hk
          cases rv with
          | lst ea qa =>
            rename_i a vs
            obtain ⟨i1, i2, i3⟩ := go (F1 := F1) g2 qa e2
            refine ⟨a, rfl, ⟨vs, .inl (.inl (g2.fh _ _ ea))⟩, ?_⟩
            exact for_list (xs := vs) (fun j => FI G F0 H0 F2 _ r (ds.drop j)) i1 (fun j σ' H' _ I => by
              obtain ⟨st', F', S', s', _⟩ := I
              exact .inl (.inl ((s'.trans S'.fh) _ _ ea))) i2 i3
        | tuple xs =>
          cases e3
          refine ss_of (ps_for K.po K.calm (pi_tup pe_se) (pg_name K.nd hN hl (.inl (K.fnT x))) pss_sss (ok_set (mE_ok m1))) ?_
          refine (sndE src).1 X W it K.toCK m1 F0 H0 F H st σ _ _ S e1 fun v H1 F1 g1 r1 f1 => ?_
          obtain ⟨F2, g2, rv⟩ := share g1 r1 f1 hk
          cases rv with
          | tup ea qa =>
            rename_i a vs
            obtain ⟨i1, i2, i3⟩ := go (F1 := F1) g2 qa e2
            refine ⟨a, rfl, ⟨vs, SqT.of (g2.fh _ _ ea)⟩, ?_⟩
            exact for_tup (xs := vs) (fun j => FI G F0 H0 F2 _ r (ds.drop j)) i1 (fun j σ' H' _ I => by
              obtain ⟨st', F', S', s', _⟩ := I
              exact SqT.of ((s'.trans S'.fh) _ _ ea)) i2 i3
        | _ => cases e3
  · exact exc c e1 er
theorem sns_forT {is : List Nat} {src : E} {b : List S} (hb : SndSs G fu b) : SndS G fu (.forT is src b) := by
  intro X es W sx K hr m F0 H0 F H st σ r Z S ev P
  obtain ⟨ts, kk, p, it, body, pos, rfl, hn, m1, m2⟩ := mS_forT m
  rw [raises] at hr
  rw [evS] at ev
  generalize hf : (fun (d : D) (st : Ev) => match d with
      | .tuple xs => match setAll is xs st with
        | some st => evSs G.Φ fu b st
        | none => none
      | _ => none) = f at ev
  have go : ∀ {vs : List V} {ds : List D} {F1 H1 F2 : Hp}, Gr F H F2 H1 → Rps G.K F2 vs ds → forGo f ds st = some r →
      (FI G F0 H0 F2 f r (ds.drop 0) σ H1) ∧
      (∀ (j : Nat) (v : V) (σ' : L2.St) (H' : Hp), vs[j]? = some v → FI G F0 H0 F2 f r (ds.drop j) σ' H' →
        gTup X.K is.length (gNames is) v σ' H' fun σ2 H2 => SSs X body { Z with nx := FI G F0 H0 F2 f r (ds.drop (j + 1)), ct := FI G F0 H0 F2 f r (ds.drop (j + 1)), bk := Z.nx } σ2 H2) ∧
      (∀ (σ' : L2.St) (H' : Hp), FI G F0 H0 F2 f r (ds.drop vs.length) σ' H' → Z.nx σ' H') := fun {vs ds F1 H1 F2} g q e => by
    refine ⟨⟨st, F2, S.mono g, Sub.refl _, e⟩, fun j v σ' H' hv I => ?_, fun σ' H' I => ?_⟩
    · obtain ⟨d, hd, rd⟩ := q.getV hv
      rw [drop_cons hd] at I
      obtain ⟨st', F', S', s', e'⟩ := I
      obtain ⟨o, e2, P2⟩ := turn_post (P.sub g.ff) s' e' fun _ _ h => h
      rw [← hf] at e2
      simp only at e2
      split at e2
      · rename_i xs
        split at e2
        · rename_i st2 e4
          cases rd with
          | tup ea qa =>
            rename_i a ws
            refine ⟨a, ws, rfl, SqT.of (S'.fh _ _ (s' _ _ ea)), by rw [qa.length, setAll_length e4], ?_⟩
            exact names_read is xs ws st' st2 σ' e4 (qa.to s') S' fun σ2 S2 => hb X es W body K hr m2 F0 H0 F' H' _ _ o _ S2 e2 P2
        · cases e2
      · cases e2
    · rw [q.length, List.drop_length] at I
      obtain ⟨st', F', S', s', e'⟩ := I
      rw [forGo] at e'
      cases e'
      exact P σ' H' F' S' (g.ff.trans s')
  have exc : ∀ (c : Str), evE G.Φ src st = some (.ex c) → r = .ex c → SS X (.For (.Tuple ts kk p) it body [] pos) Z σ H := fun c e1 er => by
    subst er
    refine ss_of (ps_for K.po K.calm (pi_list pe_se) (pg_names K hn) pss_sss (ok_set (mE_ok m1))) ?_
    exact (sndE src).1 X W it K.toCK m1 F0 H0 F H st σ _ _ S e1 (ex_ok P S)
  rcases onV_some ev with ⟨k, d, e1, e2⟩ | ⟨c, e1, er⟩
  · split at e2
    · cases e2
    · rename_i hk
      cases e3 : itemsD d with
      | none => rw [e3] at e2; cases e2
      | some ds =>
        rw [e3] at e2
        simp only at e2
        cases d with
        | list xs =>
          cases e3
          refine ss_of (ps_for K.po K.calm (pi_list pe_se) (pg_names K hn) pss_sss (ok_set (mE_ok m1))) ?_
          refine (sndE src).1 X W it K.toCK m1 F0 H0 F H st σ _ _ S e1 fun v H1 F1 g1 r1 f1 => ?_
          obtain ⟨F2, g2, rv⟩ := share g1 r1 f1 hk
          cases rv with
          | lst ea qa =>
            rename_i a vs
            obtain ⟨i1, i2, i3⟩ := go (F1 := F1) g2 qa e2
            refine ⟨a, rfl, ⟨vs, .inl (.inl (g2.fh _ _ ea))⟩, ?_⟩
            exact for_list (xs := vs) (fun j => FI G F0 H0 F2 f r (ds.drop j)) i1 (fun j σ' H' _ I => by
              obtain ⟨st', F', S', s', _⟩ := I
              exact .inl (.inl ((s'.trans S'.fh) _ _ ea))) i2 i3
        | tuple xs =>
          cases e3
          refine ss_of (ps_for K.po K.calm (pi_tup pe_se) (pg_names K hn) pss_sss (ok_set (mE_ok m1))) ?_
          refine (sndE src).1 X W it K.toCK m1 F0 H0 F H st σ _ _ S e1 fun v H1 F1 g1 r1 f1 => ?_
          obtain ⟨F2, g2, rv⟩ := share g1 r1 f1 hk
          cases rv with
          | tup ea qa =>
            rename_i a vs
            obtain ⟨i1, i2, i3⟩ := go (F1 := F1) g2 qa e2
            refine ⟨a, rfl, ⟨vs, SqT.of (g2.fh _ _ ea)⟩, ?_⟩
            exact for_tup (xs := vs) (fun j => FI G F0 H0 F2 f r (ds.drop j)) i1 (fun j σ' H' _ I => by
              obtain ⟨st', F', S', s', _⟩ := I
              exact SqT.of ((s'.trans S'.fh) _ _ ea)) i2 i3
        | _ => cases e3
  · exact exc c e1 er
theorem sns_forR {i : Nat} {n : E} {b : List S} (hb : SndSs G fu b) : SndS G fu (.forR i n b) := by
  intro X es W sx K hr m F0 H0 F H st σ r Z S ev P
  obtain ⟨x, px, g0, it, p, body, pos, rfl, hw, hg, m1, m2⟩ := mS_forR m
  obtain ⟨hN, hl⟩ := wrB_all hw
  obtain ⟨p3, rfl, hgl, hpl⟩ := isG_name hg
  rw [raises] at hr
  rw [evS] at ev
  refine ss_of (ps_for K.po K.calm (pi_range1 (glB_gl hgl) (K.bl _ (by decide +kernel)) (arg1 (mE_ok m1)) (ok_star (mE_ok m1))) (pg_name K.nd hN hl (.inl (K.fnT x))) pss_sss (fun _ => rfl)) ?_
  refine oneS (R := fun v H1 => ∃ j : Int, [v] = [V.int j] ∧ -(2 ^ 62) ≤ j ∧ j < 2 ^ 62 ∧ _) K m1 S ev P fun k d v H1 F1 e1 e2 g1 S1 r1 f1 => ?_
  split at e2
  · rename_i nn
    split at e2
    · rename_i hnn
      refine ⟨nn, by rw [r1.int], by omega, by omega, ?_⟩
      generalize hf : (fun (d : D) (st : Ev) => evSs G.Φ fu b (st.set i (some (false, d)))) = f at e2
      refine for_range (lo := 0) (n := nn.toNat) (fun j => FI G F0 H0 F1 f r ((rngD nn.toNat).drop j)) ⟨st, F1, S1, Sub.refl _, e2⟩ (fun j σ' H' hj I => ?_) fun σ' H' I => ?_
      · have hd : (rngD nn.toNat)[j]? = some (.int (j : Int)) := by
          unfold rngD
          rw [List.getElem?_map, List.getElem?_range hj]
          rfl
        rw [drop_cons hd] at I
        obtain ⟨st', F', S', s', e'⟩ := I
        obtain ⟨o, e3, P2⟩ := turn_post (P.sub g1.ff) s' e' fun _ _ h => h
        rw [← hf] at e3
        have rj : Rp G.K F' (.int (0 + (j : Int))) (.int (j : Int)) := by rw [Int.zero_add]; exact .int _
        exact hb X es W body K hr m2 F0 H0 F' H' _ _ o _ (S'.setS i rj) e3 P2
      · have hlen : (rngD nn.toNat).length = nn.toNat := by unfold rngD; rw [List.length_map, List.length_range]
        rw [List.drop_of_length_le (Nat.le_of_eq hlen)] at I
        obtain ⟨st', F', S', s', e'⟩ := I
        rw [forGo] at e'
        cases e'
        exact P σ' H' F' S' (g1.ff.trans s')
    · cases e2
  · cases e2
theorem sns_whl {d : E} {b : List S} (hb : SndSs G fu b) : SndS G fu (.whl d b) := by
  intro X es W sx K hr m F0 H0 F H st σ r Z S ev P
  obtain ⟨t, body, pos, rfl, m1, m2⟩ := mS_whl m
  rw [raises] at hr
  rw [evS] at ev
  refine ss_of (ps_while K.po pt_st pss_sss) ?_
  refine ⟨fun n σ' H' => ∃ st' F', StOK G.K F0 H0 F' H' st' σ' ∧ Sub F F' ∧ whlGo (evE G.Φ d) (evSs G.Φ fu b) n st' = some r, ⟨fu, st, F, S, Sub.refl F, ev⟩, ?_⟩
  rintro n σ' H' ⟨st', F', S', s', e⟩
  cases n with
  | zero => rw [whlGo] at e; cases e
  | succ n =>
    rw [whlGo] at e
    rcases onB_some e with ⟨b', e1, e2⟩ | ⟨c, e1, rfl⟩
    · refine (sndE d).2 X W t K.toCK m1 F0 H0 F' H' st' σ' _ _ S' e1 fun H1 F1 g1 => ?_
      cases b' with
      | true =>
        rw [if_pos rfl] at e2 ⊢
        refine ⟨fun σ2 H2 => ∃ st2 F2, StOK G.K F0 H0 F2 H2 st2 σ2 ∧ Sub F F2 ∧ whlGo (evE G.Φ d) (evSs G.Φ fu b) n st2 = some r, fun σ2 H2 h => ⟨n, Nat.lt_succ_self n, h⟩, ?_⟩
        unfold thenS at e2
        split at e2
        · rename_i st2 h2
          exact hb X es W body K hr m2 F0 H0 F1 H1 st' σ' _ _ (S'.mono g1) h2 fun σ2 H2 F2 S2 z => ⟨st2, F2, S2, (s'.trans g1.ff).trans z, e2⟩
        · rename_i h
          cases q : evSs G.Φ fu b st' with
          | none => rw [q] at e2; cases e2
          | some q' =>
            rw [q] at e2
            cases e2
            refine hb X es W body K hr m2 F0 H0 F1 H1 st' σ' _ _ (S'.mono g1) q ?_
            cases r with
            | nx st2 => exact absurd q (h st2)
            | rt k d => exact P
            | ex c => exact P
      | false =>
        rw [if_neg Bool.false_ne_true] at e2 ⊢
        cases e2
        exact P σ' H1 F1 (S'.mono g1) (s'.trans g1.ff)
    · exact (sndE d).2 X W t K.toCK m1 F0 H0 F' H' st' σ' _ _ S' e1 (ex_okT (P.sub s') S')

/-! ### blocks -/
theorem mSs_nil {c : Cc} {sc : Scope} {sx : List Stmt} (m : mSs c sc [] sx = true) : sx = [] := by
  cases sx with
  | nil => rfl
  | cons s sx => simp [mSs] at m
def isFrz : S → Bool
  | .frz _ => true
  | _ => false
theorem mSs_cons {c : Cc} {sc : Scope} {s : S} {ss : List S} {sx : List Stmt} (h : isFrz s = false) (m : mSs c sc (s :: ss) sx = true) : ∃ x xs, sx = x :: xs ∧ mS c sc s x = true ∧ mSs c sc ss xs = true := by
  cases sx with
  | nil => cases s <;> simp_all [mSs, isFrz]
  | cons x xs =>
    refine ⟨x, xs, rfl, ?_⟩
    cases s <;> simp_all [mSs, isFrz]
theorem sss_nil : SndSs G fu [] := by
  intro X es W sx K hr m F0 H0 F H st σ r Z S ev P
  cases mSs_nil m
  rw [evSs] at ev
  cases ev
  exact sss_of pss_nil (P σ H F S (Sub.refl F))
theorem sss_frz {i : Nat} {ss : List S} (hs : SndSs G fu ss) : SndSs G fu (.frz i :: ss) := by
  intro X es W sx K hr m F0 H0 F H st σ r Z S ev P
  rw [mSs] at m
  rw [raisesL] at hr
  rw [evSs, evS] at ev
  split at ev
  · rename_i b d hd
    simp only [thenS] at ev
    cases b with
    | true =>
      obtain ⟨F', f, S'⟩ := S.frz hd
      exact hs X es W sx K (mem_l hr).2 m F0 H0 F' H _ _ r Z S' ev (P.sub f)
    | false =>
      obtain ⟨v, h1, h2⟩ := S.shr i d hd
      have e : σ.set i (some v) = σ := by
        obtain ⟨hl, q⟩ := List.getElem?_eq_some_iff.mp h1
        rw [← q]
        exact List.set_getElem_self hl
      have S' := S.setS i h2
      rw [e] at S'
      exact hs X es W sx K (mem_l hr).2 m F0 H0 F H _ _ r Z S' ev P
  · simp [thenS] at ev
theorem sss_cons {s : S} {ss : List S} (h : isFrz s = false) (h1 : SndS G fu s) (hs : SndSs G fu ss) : SndSs G fu (s :: ss) := by
  intro X es W sx K hr m F0 H0 F H st σ r Z S ev P
  obtain ⟨x, xs, rfl, m1, m2⟩ := mSs_cons h m
  rw [raisesL] at hr
  obtain ⟨hr1, hr2⟩ := mem_l hr
  rw [evSs] at ev
  refine sss_of (pss_cons ps_ss pss_sss) ?_
  unfold thenS at ev
  split at ev
  · rename_i st' e
    exact h1 X es W x K hr1 m1 F0 H0 F H st σ _ _ S e fun σ' H' F' S' z => hs X es W xs K hr2 m2 F0 H0 F' H' st' σ' r Z S' ev (P.sub z)
  · rename_i h
    cases q : evS G.Φ fu s st with
    | none => rw [q] at ev; cases ev
    | some q' =>
      rw [q] at ev
      cases ev
      refine h1 X es W x K hr1 m1 F0 H0 F H st σ _ _ S q ?_
      cases r with
      | nx st2 => exact absurd q (h st2)
      | rt k d => exact P
      | ex c => exact P
theorem snd_frz {i : Nat} : SndS G fu (.frz i) := by
  intro X es W sx K hr m
  exfalso
  unfold mS at m
  cases m
mutual
theorem sndS : ∀ s : S, SndS G fu s
  | .set i e => sns_set
  | .setT is e => sns_setT
  | .setI i k e => sns_setI
  | .dput i k e => sns_dput
  | .app i e => sns_app
  | .ins i k e => sns_ins
  | .ext i e => sns_ext
  | .clr i => sns_clr
  | .frz i => snd_frz
  | .ite c a b => sns_ite (sndSs a) (sndSs b)
  | .for i src b => sns_for (sndSs b)
  | .forR i n b => sns_forR (sndSs b)
  | .forT is src b => sns_forT (sndSs b)
  | .whl c b => sns_whl (sndSs b)
  | .ret e => sns_ret
  | .retN => sns_retN
  | .exp e => sns_exp
  | .rai c => sns_rai
  | .tryC _ _ _ _ _ => sns_try
theorem sndSs : ∀ ss : List S, SndSs G fu ss
  | [] => sss_nil
  | .frz i :: ss => sss_frz (sndSs ss)
  | s :: ss => if h : isFrz s = false then sss_cons h (sndS s) (sndSs ss) else by
      cases s <;> first | (simp [isFrz] at h; done) | exact sss_frz (sndSs ss)
end
end
end Dv

/-! Dv, part N: defs. -/
namespace Dv
open PySem PySem.Spec PyProof.Rows L2

/-- an own error class over ValueError, as it stands behind the top -/
structure ExcOK (K : PySem.W.Frag) (mg : Str → Option Value) (c : Str) (C : Addr) : Prop where
  g : mg c = some (.ref C)
  q : PySem.W.excIn K C [.type "ValueError", .type "Exception", .type "BaseException", .type "object"] "ValueError.__new__" = true
  k : PySem.W.keepIn K (.ref C) = true
  b : PySem.W.subIn K (.ref C) (.type "BaseException") = some true
  t : PySem.W.typeIn K (.ref C) = some (.type "type")
theorem kit_own {K : PySem.W.Frag} {C D : Addr} {b : Bool} (i : PySem.W.isClsIn K D = true) (t : PySem.W.typeIn K (.ref D) = some (.type "type")) (sd : PySem.W.subIn K (.ref D) (.ref D) = some true) (s : PySem.W.subIn K (.ref C) (.ref D) = some b) : PySem.W.kitOne K (.ref C) (.ref D) = some b := by
  unfold PySem.W.kitOne
  split
  · rename_i h
    have e : C = D := by simpa using h
    subst e
    rw [sd] at s
    exact s
  · have i' : (PySem.W.clsIn K D).isSome = true := i
    show (if ((PySem.W.clsIn K D).isSome && PySem.W.typeIn K (.ref D) == some (.type "type")) = true then PySem.W.subIn K (.ref C) (.ref D) else none) = some b
    rw [i', t, if_pos (by rfl)]
    exact s
theorem kit_val {K : PySem.W.Frag} {C : Addr} {T : String} {b : Bool} (m : PySem.W.kitMeta T = true) (s : PySem.W.subIn K (.ref C) (.type T) = some b) : PySem.W.kitOne K (.ref C) (.type T) = some b := by
  show (if PySem.W.kitMeta T = true then PySem.W.subIn K (.ref C) (.type T) else none) = some b
  rw [if_pos m]
  exact s
theorem exm_own {K : PySem.W.Frag} {C D : Addr} {b : Bool} (h : PySem.W.subIn K (.ref D) (.type "BaseException") = some true) (i : PySem.W.isClsIn K D = true) (t : PySem.W.typeIn K (.ref D) = some (.type "type")) (s : PySem.W.subIn K (.ref C) (.ref D) = some b) : PySem.W.exmOne K (.ref C) (.ref D) = some b := by
  have i' : (PySem.W.clsIn K D).isSome = true := i
  show (if (PySem.W.subIn K (.ref D) (.type "BaseException") == some true) = true then (if ((PySem.W.clsIn K D).isSome && PySem.W.typeIn K (.ref D) == some (.type "type")) = true then PySem.W.subIn K (.ref C) (.ref D) else none) else none) = some b
  rw [h, if_pos (by rfl), i', t, if_pos (by rfl)]
  exact s
/-- the top's facts -/
structure TopOK (K : PySem.W.Frag) (mg : Str → Option Value) (cs : List (Str × Int)) (hc ht es : List Str) (ea : Str → Addr) : Prop where
  bl : ∀ x ∈ bnames, mg x = none
  gl : ∀ x i, (x, i) ∈ cs → ∃ t, mg x = some (.int i t)
  ex : ∀ c ∈ es, ExcOK K mg c (ea c)
  hot : ∀ c ∈ hc, HotOK K ea c ht
  hg : ∀ d ∈ ht, mg d = some (.ref (ea d))
/-- a def, as it stands behind the top, held against its reading -/
structure DefAt0 (K : PySem.W.Frag) (cs : List (Str × Int)) (hc ht es : List Str) (x qn : Str) (d : DefI) (fa : Addr) (fd : FuncData) (st : Stmt) : Prop where
  fn : Fun K x qn st fa fd
  ba : ∀ us : List Value, us.length = (d.nm.take d.np).length → bindArgs fd ⟨us, []⟩ = pure ((d.nm.take d.np).zip us)
  sc : FnScope d.nm (d.nm.take d.np) (defScope st)
  bd : mSs ⟨d.nm, cs, hc, ht⟩ (defScope st) d.body (defBody st) = true
  rs : ∀ c ∈ raisesL d.body, c ∈ es
  np : d.np ≤ d.nm.length
structure DefAt (K : PySem.W.Frag) (mg : Str → Option Value) (cs : List (Str × Int)) (hc ht es : List Str) (f : Str) (d : DefI) (fa : Addr) (fd : FuncData) (st : Stmt) : Prop extends DefAt0 K cs hc ht es f f d fa fd st where
  g : mg f = some (.ref fa)
section
variable {P : Program} {w : World} {K : PySem.W.Frag} {μ : Mu} {ca : Str → Addr} {mg : Str → Option Value} {base : Heap} {cs : List (Str × Int)} {hc ht es : List Str} {ea : Str → Addr}
theorem start_ok {κ : KM} {F H0 H : Hp} {vs : List V} {ds : List D} {d : DefI} (s : Sub F H) (s0 : Sub H0 H) (hm : HM κ F H) (q : Rps κ F vs ds) (hl : ds.length = d.np) (hn : d.np ≤ d.nm.length) : StOK κ F H0 F H (Dv.start d ds) (L2.start d.nm vs) := by
  have hv := q.length
  have get : ∀ (i : Nat) (b : Bool) (e : D), (Dv.start d ds)[i]? = some (some (b, e)) → b = false ∧ ds[i]? = some e := fun i b e h => by
    unfold Dv.start at h
    by_cases hi : i < ds.length
    · rw [List.getElem?_append_left (by simpa using hi), List.getElem?_map] at h
      cases q : ds[i]? with
      | none => rw [q] at h; cases h
      | some x => rw [q] at h; cases h; exact ⟨rfl, rfl⟩
    · rw [List.getElem?_append_right (by simpa using hi), List.getElem?_replicate] at h
      split at h <;> cases h
  refine ⟨⟨Sub.refl F, s, s0, fun _ _ e => .inl e⟩, ?_, fun i e h => ?_, fun i e h => ?_, fun i j p di dj h => ?_, hm, fun i e p h => ?_⟩
  rotate_right
  · have := (get i true e h).1
    cases this
  · unfold Dv.start L2.start
    rw [List.length_append, List.length_append, List.length_map, List.length_map, List.length_replicate, List.length_replicate, hv]
  · obtain ⟨_, h2⟩ := get i false e h
    obtain ⟨v, h3, h4⟩ := q.get h2
    refine ⟨v, ?_, h4⟩
    unfold L2.start
    rw [List.getElem?_append_left (by simpa using (List.getElem?_eq_some_iff.mp h3).1), List.getElem?_map, h3]
    rfl
  · have := (get i true e h).1
    cases this
  · have := (get i true di h).1
    cases this
theorem sp_len {κ : KM} {φ : List D → Option EO} {n : Nat} (h : ∀ ds r, φ ds = some r → ds.length = n) : ∀ vs H Q E, spOf κ ea φ vs H Q E → vs.length = n := fun vs H Q E ⟨_, F, ds, r, _, _, q, e, _⟩ => by
  rw [q.length]
  exact h ds r e
theorem RV.boolV {κ : KM} {F H : Hp} {k : Kd} {b : Bool} {v : V} (h : RV κ F H k (.bool b) v) : v = .bl b := by
  cases k with
  | shr => cases (show Rp κ F v (.bool b) from h); rfl
  | brw => obtain ⟨p, _, _, t, _⟩ := h; exact False.elim t
  | frs => obtain ⟨p, _, _, t, _⟩ := h; exact False.elim t
theorem runD_len {Φ : Str → List D → Option EO} {fu : Nat} {d : DefI} {ds : List D} {r : EO} (h : runD Φ fu d ds = some r) : ds.length = d.np := by
  unfold runD at h
  split at h
  · assumption
  · cases h
/-- a def whose callees keep their promises keeps its own -/
theorem fn_at {Φ : Str → List D → Option EO} {n fu : Nat} {x qn : Str} {d : DefI} {fa : Addr} {fd : FuncData} {st : Stmt} (T : TopOK K mg cs hc ht es ea) (A : DefAt0 K cs hc ht es x qn d fa fd st)
    {fl : List (Str × Str)} (hop : ∀ o ds r, (∀ c m, o ≠ .mth c m) → Φ (opName o) ds = some r → opD fl μ o ds = some r) (hcl : ∀ c f, (c, f) ∈ fl → Cls K (ca c) ∧ NoAttr K (ca c) f)
    (hmt : ∀ c m ds r, Φ (opName (.mth c m)) ds = some r → rcvD μ c m ds = true ∧ ∃ fa fd ps, Cls K (ca c) ∧ Meth K (ca c) m fa ∧ Binds K fd ps [] ∧ FnOk P w K mg base (L2.CX P w) n fa fd ps (spOf ⟨K, fun _ => none, μ, ca⟩ ea (Φ (opName (.mth c m)))))
    (ih : ∀ f ds r, isOp f = false → Φ f ds = some r → ∃ fa fd ps, mg f = some (.ref fa) ∧ PySem.W.keepIn K (.ref fa) = true ∧ Binds K fd ps [] ∧ FnOk P w K mg base (L2.CX P w) n fa fd ps (spOf ⟨K, fun _ => none, μ, ca⟩ ea (Φ f))) :
    FnOk P w K mg base (L2.CX P w) (n + 1) fa fd (d.nm.take d.np) (spOf ⟨K, fun _ => none, μ, ca⟩ ea (runD Φ fu d)) := by
  have hlen : (d.nm.take d.np).length = d.np := by rw [List.length_take]; exact Nat.min_eq_left A.np
  refine A.fn.okX A.sc (fun vs H Q E h => ?_) fun cdv Ar outer s H vs Q E hr h => ?_
  · rw [hlen]
    exact sp_len (fun ds r e => runD_len e) vs H Q E h
  · obtain ⟨io, F, ds, r, hs, hm, q, e, p⟩ := h
    have hdl := runD_len e
    unfold runD at e
    rw [if_pos hdl] at e
    cases eb : evSs Φ fu d.body (Dv.start d ds) with
    | none => rw [eb] at e; cases e
    | some o =>
      rw [eb] at e
      have KS : CKS ⟨fl, ⟨K, io, μ, ca⟩, Φ, ea, n, cs, hc, ht⟩ es (fun cls dd _ H => E cls dd H) (cxOf (L2.CX P w) P w K mg base d.nm qn (defScope st) fa cdv Ar outer s H E) :=
        { kk := rfl, nd := A.sc.nd, calm := rfl, room := hr, bl := T.bl, fn := ih, op := hop, cls := hcl, mt := hmt, gl := T.gl, tk := takes_of rfl rfl rfl rfl, po := passes_of rfl, fnT := fun _ => rfl, kd := A.sc.kind, hot := T.hot, hg := T.hg, stk := rfl, frm := rfl,
          rs := fun c hc hg hp m j p p2 pos => by
            have X := T.ex c hc
            exact pmk_own PySem.F.excBase_ValueError X.q X.g X.k (raises_own X.b X.t) hg (plain_all hp).1 }
      refine ⟨_, pss_sss, ?_⟩
      refine sndSs d.body _ es _ _ KS A.rs A.bd F H F H _ _ o _ (start_ok hs (Sub.refl H) hm q hdl A.np) eb ?_
      cases o with
      | nx st2 =>
        cases e
        exact fun σ' H' F' S' z => p _ H' F' S'.gr (show Rp _ _ _ _ from .non) fun e => nomatch e
      | rt k dd =>
        cases k with
        | brw => cases e
        | shr => cases e; exact fun v H' F' g _ r f _ => p v H' F' g r f
        | frs => cases e; exact fun v H' F' g _ r f _ => p v H' F' g r f
      | ex c =>
        cases e
        exact fun σ' H' F' g _ => p H' g.hh
theorem run_eq {tab : List (Str × DefI)} {fu n : Nat} {f : Str} {d : DefI} (h : tab.lookup f = some d) : run tab fu (n + 1) f = runD (run tab fu n) fu d := by
  funext ds
  rw [run, h]
/-- no def has an op's name -/
def noOps (tab : List (Str × DefI)) : Bool := tab.all fun p => !isOp p.1
theorem run_op {tab : List (Str × DefI)} {fu : Nat} (h : noOps tab = true) (o : Cop) : ∀ (n : Nat) (ds : List D) (r : EO), run tab fu n (opName o) ds = some r → False
  | 0, ds, r, e => by rw [run] at e; cases e
  | n + 1, ds, r, e => by
    rw [run] at e
    split at e
    · rename_i d q
      have hm := PySem.mem_of_lookup q
      have := List.all_eq_true.mp h _ hm
      rw [opName_is] at this
      cases this
    · cases e
theorem all_ok {tab : List (Str × DefI)} {fu : Nat} (no : noOps tab = true) (T : TopOK K mg cs hc ht es ea) (DA : ∀ p ∈ tab, ∃ fa fd st, DefAt K mg cs hc ht es p.1 p.2 fa fd st) : ∀ (n : Nat) (f : Str) (ds : List D) (r : EO), run tab fu n f ds = some r →
    ∃ fa fd ps, mg f = some (.ref fa) ∧ PySem.W.keepIn K (.ref fa) = true ∧ Binds K fd ps [] ∧ FnOk P w K mg base (L2.CX P w) n fa fd ps (spOf ⟨K, fun _ => none, μ, ca⟩ ea (run tab fu n f))
  | 0, f, ds, r, h => by rw [run] at h; cases h
  | n + 1, f, ds, r, h => by
    cases e : tab.lookup f with
    | none => rw [run, e] at h; cases h
    | some d =>
      obtain ⟨fa, fd, st, A⟩ := DA (f, d) (PySem.mem_of_lookup e)
      have F := fn_at (Φ := run tab fu n) (P := P) (w := w) (base := base) (μ := μ) (ca := ca) (fu := fu) T A.toDefAt0 (fl := []) (fun o ds r _ e => (run_op no o _ _ _ e).elim) (fun _ _ m => absurd m List.not_mem_nil) (fun c m ds r e => (run_op no _ _ _ _ e).elim) fun f ds r _ => all_ok no T DA n f ds r
      rw [run_eq e]
      exact ⟨fa, fd, _, A.g, A.fn.kp, Binds.all A.ba, F⟩
/-- the law's promise: it tells True -/
def spLaw (K : PySem.W.Frag) (φ : List D → Option EO) : Sp := fun vs H Q _ => ∃ F ds k, Sub F H ∧ Rps ⟨K, fun _ => none, [], fun _ => 0⟩ F vs ds ∧ φ ds = some (.ok k (.bool true)) ∧ ∀ H', Q (.bl true) H'
theorem law_ok {tab : List (Str × DefI)} (no : noOps tab = true) {fu n : Nat} {d : DefI} {f : Str} {fa : Addr} {fd : FuncData} {st : Stmt} (T : TopOK K mg cs hc ht es ea) (DA : ∀ p ∈ tab, ∃ fa fd st, DefAt K mg cs hc ht es p.1 p.2 fa fd st) (A : DefAt K mg cs hc ht es f d fa fd st) (h : tab.lookup f = some d) :
    FnOk P w K mg base (L2.CX P w) (n + 1) fa fd (d.nm.take d.np) (spLaw K (run tab fu (n + 1) f)) := by
  have F := fn_at (Φ := run tab fu n) (P := P) (w := w) (base := base) (μ := []) (ca := fun _ => 0) (fu := fu) (n := n) T A.toDefAt0 (fl := []) (fun o ds r _ e => (run_op no o _ _ _ e).elim) (fun _ _ m => absurd m List.not_mem_nil) (fun c m ds r e => (run_op no _ _ _ _ e).elim) fun f ds r _ => all_ok no T DA n f ds r
  rw [run_eq h]
  refine F.imp fun vs H Q E ⟨F', ds, k, h1, h2, h3, h4⟩ => ⟨fun _ => none, F', ds, _, h1, ⟨fun n c e => by simp [KM.at] at e, fun n m a e => by simp [KM.at] at e, fun n a e => by simp [KM.at] at e⟩, h2, h3, ?_⟩
  exact fun v H' F2 g r f => by rw [r.boolV]; exact h4 H'
end
/-- what is fixed in the text itself -/
structure DefS (cs : List (Str × Int)) (hc ht es : List Str) (f : Str) (d : DefI) (st : Stmt) : Prop where
  sc : FnScope d.nm (d.nm.take d.np) (defScope st)
  bd : mSs ⟨d.nm, cs, hc, ht⟩ (defScope st) d.body (defBody st) = true
  rs : ∀ c ∈ raisesL d.body, c ∈ es
  np : d.np ≤ d.nm.length
  ba : ∀ (kV doc pm : Value) (an : Option Addr) (cdv ct : Value) (us : List Value), us.length = (d.nm.take d.np).length → bindArgs (PySem.W.fnOf f f (defArgs st) (defBody st) (defScope st) .none kV doc pm an cdv ct) ⟨us, []⟩ = pure ((d.nm.take d.np).zip us)
theorem DefS.at {K : PySem.W.Frag} {h : Heap} {mg : Str → Option Value} {cs : List (Str × Int)} {hc ht es : List Str} {f : Str} {d : DefI} {st : Stmt} {fa : Addr} {oc : Value} {od an : Option Addr} {osl : Array (Option Value)} {kV doc pm cdv ct : Value} (S : DefS cs hc ht es f d st) (X : K.In h) (G : h.Ns mainGlobals mg)
    (a : PySem.W.nsIn K mainGlobals f = some (some (.ref fa))) (l : K.lookup fa = some ⟨oc, od, .func (PySem.W.fnOf f f (defArgs st) (defBody st) (defScope st) .none kV doc pm an cdv ct), osl⟩) (c : PySem.W.codeIn K cdv f = true) (k : PySem.W.keepIn K (.ref fa) = true) :
    DefAt K mg cs hc ht es f d fa (PySem.W.fnOf f f (defArgs st) (defBody st) (defScope st) .none kV doc pm an cdv ct) st :=
  ⟨⟨fun_mk l c k, S.ba kV doc pm an cdv ct, S.sc, S.bd, S.rs, S.np⟩, PySem.W.mg_of X G a⟩
theorem DefAt.law {K : PySem.W.Frag} {mg : Str → Option Value} {cs : List (Str × Int)} {hc ht es : List Str} {f : Str} {d : DefI} {fa : Addr} {fd : FuncData} {st : Stmt} {x : Str} (A : DefAt K mg cs hc ht es f d fa fd st) (h : d.nm.take d.np = [x]) (s : Shared) (u : Value) : BindsTo s fd ⟨[u], []⟩ [(x, u)] := by
  have := A.ba [u] (by rw [h]; rfl)
  rw [h] at this
  exact .of_eq this
/-- the end of a law row -/
theorem law_walk {l : PySem.W.OpenLaw} {n : Nat} {q : Program} {loose : List Str} {XP : (Str → Option Value) → Heap → Prop} {YP : World → Heap → Prop} {dr : DefRec} {K : Params → PySem.W.Frag} {tab : List (Str × DefI)} {fu : Nat} {cs : List (Str × Int)} {hc ht es : List Str} {d : DefI} {st : Stmt} {x : Str}
    (hn : l.most = some 63) (hdf : dr.params.defaults = []) (hr : Room (n + 1) callerA) (hx : d.nm.take d.np = [x]) (hl : tab.lookup dr.name = some d) (no : noOps tab = true)
    (hY : ∀ (w : World) (h : Heap), YP w h → (K w.params).In h)
    (F : ∀ (w : World) (mg : Str → Option Value) (h : Heap), (K w.params).In h → h.Ns mainGlobals mg →
      ∃ ea fa fd, TopOK (K w.params) mg cs hc ht es ea ∧ (∀ p ∈ tab, ∃ fa fd st, DefAt (K w.params) mg cs hc ht es p.1 p.2 fa fd st) ∧ DefAt (K w.params) mg cs hc ht es dr.name d fa fd st)
    (hrun : ∀ ns : List Int, ns.length ≤ 63 → ∃ k, run tab fu (n + 1) dr.name [scrD ns] = some (.ok k (.bool true))) :
    PySem.W.WalkO q loose XP YP l.row.toRowW dr [] (fun f vs => PySem.call f vs) := by
  refine L2.walk_of (n := 63) (k := n + 1) (x := x) (CX := fun w => L2.CX l.prog w) (sp := fun w => spLaw (K w.params) (run tab fu (n + 1) dr.name)) hn (by decide) hdf hr hY (fun w mg fa h X G hm => ?_) (fun w H a ns hlen _ hS => ?_) fun w H s e s' z => ?_
  · obtain ⟨ea, fa', fd, T, DA, A⟩ := F w mg h X G
    have e := hm.symm.trans A.g
    cases e
    refine ⟨fd, fun s u => A.law hx s u, fun base _ _ => ?_⟩
    rw [← hx]
    exact law_ok no T DA A hl
  · obtain ⟨k, e⟩ := hrun ns hlen
    exact ⟨H, [scrD ns], k, Sub.refl H, .cons (.scr hS) .nil, e, fun _ => rfl⟩
  · obtain ⟨_, _, _, _, _, _, _, _, _, _, _, _, z⟩ := z
    exact z
end Dv

/-! Dm, part A: who knows more tells the same. -/
namespace Dv
open PySem PySem.Spec PyProof.Rows L2

def LeO {α : Type} (a b : Option α) : Prop := ∀ r, a = some r → b = some r
theorem LeO.refl {α : Type} (a : Option α) : LeO a a := fun _ h => h
theorem LeO.none {α : Type} {b : Option α} : LeO none b := fun _ h => by cases h
def LeF (Φ Ψ : Str → List D → Option EO) : Prop := ∀ f ds, LeO (Φ f ds) (Ψ f ds)
theorem LeF.refl (Φ : Str → List D → Option EO) : LeF Φ Φ := fun _ _ => LeO.refl _
section
variable {Φ Ψ : Str → List D → Option EO}
theorem bindV_le {a b : Option EO} {f g : Kd → D → Option EO} (h : LeO a b) (hf : ∀ k d, LeO (f k d) (g k d)) : LeO (bindV a f) (bindV b g) := fun r e => by
  rcases bindV_some e with ⟨k, d, e1, e2⟩ | ⟨c, e1, rfl⟩
  · rw [h _ e1]; exact hf k d r e2
  · rw [h _ e1]; rfl
theorem boolV_le {a b : Option EO} {f g : Bool → Option EO} (h : LeO a b) (hf : ∀ t, LeO (f t) (g t)) : LeO (boolV a f) (boolV b g) := fun r e => by
  rcases boolV_some e with ⟨t, e1, e2⟩ | ⟨c, e1, rfl⟩
  · rw [h _ e1]; exact hf t r e2
  · rw [h _ e1]; rfl
theorem bindA_le {a b : Option AO} {f g : List (Kd × D) → Option EO} (h : LeO a b) (hf : ∀ xs, LeO (f xs) (g xs)) : LeO (bindA a f) (bindA b g) := fun r e => by
  rcases bindA_some e with ⟨xs, e1, e2⟩ | ⟨c, e1, rfl⟩
  · rw [h _ e1]; exact hf xs r e2
  · rw [h _ e1]; rfl
theorem consA_le {a b : Option EO} {f g : Option AO} (h : LeO a b) (hf : LeO f g) : LeO (consA a f) (consA b g) := fun r e => by
  unfold consA at e
  split at e
  · rename_i k d
    split at e
    · rename_i xs
      cases e
      rw [h _ rfl, hf _ rfl]; rfl
    · rename_i c
      cases e
      rw [h _ rfl, hf _ rfl]; rfl
    · cases e
  · cases e
    rw [h _ rfl]; rfl
  · cases e
theorem okCall_le {xs : List (Kd × D)} {a b : Option EO} (h : LeO a b) : LeO (okCall xs a) (okCall xs b) := fun r e => by
  unfold okCall at e ⊢
  split
  · rename_i hn; rw [if_pos hn] at e; exact h r e
  · rename_i hn
    rw [if_neg hn] at e
    split at e
    · rename_i d
      rw [h _ rfl]
      exact e
    · rename_i c
      cases e
      rw [h _ rfl]
    · cases e
theorem optI_le {a b : Option (Option EO)} {f g : Option Int → Option EO} (h : (a = none ∧ b = none) ∨ ∃ x y, a = some x ∧ b = some y ∧ LeO x y) (hf : ∀ i, LeO (f i) (g i)) : LeO (optI a f) (optI b g) := fun r e => by
  rcases h with ⟨rfl, rfl⟩ | ⟨x, y, rfl, rfl, hx⟩
  · exact hf none r e
  · unfold optI at e
    split at e
    · rename_i h0; cases h0
    · rename_i i h0
      cases h0
      rw [hx _ rfl]
      exact hf (some i) r e
    · rename_i c h0
      cases h0
      rw [hx _ rfl]
      exact e
    · cases e
theorem asD_le {a b : Option EO} (h : LeO a b) : LeO (asD a) (asD b) := fun r e => by
  unfold asD at e
  split at e
  · rw [h _ rfl]; exact e
  · rw [h _ rfl]; exact e
  · cases e
theorem asB_le {a b : Option EO} (h : LeO a b) : LeO (asB a) (asB b) := fun r e => by
  unfold asB at e
  split at e
  · rw [h _ rfl]; exact e
  · cases e
inductive LeL : List (Option EO) → List (Option EO) → Prop
  | nil : LeL [] []
  | cons {a b : Option EO} {as bs : List (Option EO)} : LeO a b → LeL as bs → LeL (a :: as) (b :: bs)
theorem tests_le {as bs : List (Option EO)} (h : LeL as bs) : LeO (tests as) (tests bs) := by
  cases h with
  | nil => exact LeO.refl _
  | cons a r =>
    cases r with
    | nil => exact asB_le a
    | cons _ _ => exact LeO.none
theorem compGo_le {tt tt' : D → Option Bool} {te te' : D → Option D} (h1 : ∀ d, LeO (tt d) (tt' d)) (h2 : ∀ d, LeO (te d) (te' d)) : ∀ ds : List D, LeO (compGo tt te ds) (compGo tt' te' ds)
  | [] => LeO.refl _
  | d :: ds => fun r e => by
    rw [compGo] at e ⊢
    cases q : tt d with
    | none => rw [q] at e; cases e
    | some b =>
      rw [q] at e
      rw [h1 d b q]
      cases b with
      | false => exact compGo_le h1 h2 ds r e
      | true =>
        simp only at e ⊢
        cases q2 : te d with
        | none => rw [q2] at e; cases e
        | some y =>
          rw [q2] at e
          rw [h2 d y q2]
          simp only at e ⊢
          obtain ⟨zs, e1, rfl⟩ := Option.map_eq_some_iff.mp e
          rw [compGo_le h1 h2 ds zs e1]
          rfl
theorem sized_le {a b : Option (List D)} (h : LeO a b) : LeO (sized a) (sized b) := fun r e => by
  unfold sized at e
  split at e
  · rw [h _ rfl]; exact e
  · cases e
theorem mapO_le {α β : Type} {a b : Option α} {f : α → β} (h : LeO a b) : LeO (a.map f) (b.map f) := fun r e => by
  obtain ⟨x, h1, rfl⟩ := Option.map_eq_some_iff.mp e
  rw [h x h1]; rfl
mutual
theorem evE_le (h : LeF Φ Ψ) : ∀ (e : E) (st : Ev), LeO (evE Φ e st) (evE Ψ e st)
  | .cop o es, st => fun r e => by
    rw [evE] at e ⊢
    split at e
    · rename_i xs e1
      rw [evL_le h es st _ e1]
      simp only
      split at e
      · rename_i nb; rw [if_pos nb]; exact h _ _ r e
      · cases e
    · cases e
  | .var i, st => fun r e => by rw [evE] at e ⊢; exact e
  | .non, st => fun r e => by rw [evE] at e ⊢; exact e
  | .bl b, st => fun r e => by rw [evE] at e ⊢; exact e
  | .int i, st => fun r e => by rw [evE] at e ⊢; exact e
  | .str s, st => fun r e => by rw [evE] at e ⊢; exact e
  | .glb x i, st => fun r e => by rw [evE] at e ⊢; exact e
  | .bin op a b, st => fun r e => by rw [evE] at e ⊢; exact bindV_le (evE_le h a st) (fun _ x => bindV_le (evE_le h b st) fun _ y => LeO.refl _) r e
  | .neg a, st => fun r e => by rw [evE] at e ⊢; exact bindV_le (evE_le h a st) (fun _ x => LeO.refl _) r e
  | .cmp op a b, st => fun r e => by rw [evE] at e ⊢; exact bindV_le (evE_le h a st) (fun _ x => bindV_le (evE_le h b st) fun _ y => LeO.refl _) r e
  | .chn o p a b c, st => fun r e => by
    rw [evE] at e ⊢
    refine bindV_le (evE_le h a st) (fun _ x => bindV_le (evE_le h b st) fun _ y => ?_) r e
    cases cmpD o x y with
    | none => exact LeO.none
    | some t =>
      cases t with
      | true => exact bindV_le (evE_le h c st) (fun _ _ => LeO.refl _)
      | false => exact LeO.refl _
  | .and es, st => fun r e => by rw [evE] at e ⊢; exact evAnd_le h es st r e
  | .or es, st => fun r e => by rw [evE] at e ⊢; exact evOr_le h es st r e
  | .not a, st => fun r e => by rw [evE] at e ⊢; exact boolV_le (evE_le h a st) (fun _ => LeO.refl _) r e
  | .ife c a b, st => fun r e => by
    rw [evE] at e ⊢
    refine boolV_le (evE_le h c st) (fun t => ?_) r e
    cases t with
    | true => exact evE_le h a st
    | false => exact evE_le h b st
  | .idx a i, st => fun r e => by rw [evE] at e ⊢; exact bindV_le (evE_le h a st) (fun _ x => bindV_le (evE_le h i st) fun _ y => LeO.refl _) r e
  | .slc a lo hi, st => fun r e => by rw [evE] at e ⊢; exact bindV_le (evE_le h a st) (fun _ x => optI_le (evO_le h lo st) fun l => optI_le (evO_le h hi st) fun u => LeO.refl _) r e
  | .tup es, st => fun r e => by rw [evE] at e ⊢; exact bindA_le (evL_le h es st) (fun _ => LeO.refl _) r e
  | .lst es, st => fun r e => by rw [evE] at e ⊢; exact bindA_le (evL_le h es st) (fun _ => LeO.refl _) r e
  | .dic, st => fun r e => by rw [evE] at e ⊢; exact e
  | .dicT, st => fun r e => by rw [evE] at e ⊢; exact e
  | .fn f a, st => fun r e => by rw [evE] at e ⊢; exact bindV_le (evE_le h a st) (fun _ x => LeO.refl _) r e
  | .isi a t, st => fun r e => by rw [evE] at e ⊢; exact bindV_le (evE_le h a st) (fun _ x => LeO.refl _) r e
  | .isis a ts, st => fun r e => by rw [evE] at e ⊢; exact bindV_le (evE_le h a st) (fun _ x => LeO.refl _) r e
  | .lrg a, st => fun r e => by rw [evE] at e ⊢; exact bindV_le (evE_le h a st) (fun _ x => LeO.refl _) r e
  | .lset a, st => fun r e => by rw [evE] at e ⊢; exact bindV_le (evE_le h a st) (fun _ x => LeO.refl _) r e
  | .call f es, st => fun r e => by
    rw [evE] at e ⊢
    split at e
    · rename_i xs e1
      rw [evL_le h es st _ e1]
      exact okCall_le (h _ _) r e
    · cases e
  | .callAt fs i es, st => fun r e => by
    rw [evE] at e ⊢
    split at e
    · rename_i k j e1
      rw [evE_le h i st _ e1]
      split at e
      · rename_i f e2
        simp only [e2]
        split at e
        · rename_i xs e3
          rw [evL_le h es st _ e3]
          simp only
          split at e
          · rename_i hc
            rw [if_pos ⟨hc.1, hc.2.1, List.all_eq_true.mpr fun g hg => by
              obtain ⟨y, hy⟩ := Option.isSome_iff_exists.mp (List.all_eq_true.mp hc.2.2 g hg)
              rw [h _ _ y hy]; rfl⟩]
            exact h _ _ r e
          · cases e
        · cases e
      · cases e
    · cases e
  | .cmpL x i src ifs, st => fun r e => by
    rw [evE] at e ⊢
    refine bindV_le (evE_le h src st) (fun _ d => ?_) r e
    cases itemsD d with
    | none => exact LeO.none
    | some ds => exact sized_le (compGo_le (fun d => tests_le (evB_le h ifs _)) (fun d => asD_le (evE_le h x _)) ds)
  | .cmpR x i n ifs, st => fun r e => by
    rw [evE] at e ⊢
    refine bindV_le (evE_le h n st) (fun _ d => ?_) r e
    cases d with
    | int n =>
      simp only
      split
      · exact sized_le (compGo_le (fun d => tests_le (evB_le h ifs _)) (fun d => asD_le (evE_le h x _)) _)
      · exact LeO.none
    | _ => exact LeO.none
theorem evL_le (h : LeF Φ Ψ) : ∀ (es : List E) (st : Ev), LeO (evL Φ es st) (evL Ψ es st)
  | [], st => fun r e => by rw [evL] at e ⊢; exact e
  | e :: es, st => fun r q => by rw [evL] at q ⊢; exact consA_le (evE_le h e st) (evL_le h es st) r q
theorem evB_le (h : LeF Φ Ψ) : ∀ (es : List E) (st : Ev), LeL (evB Φ es st) (evB Ψ es st)
  | [], st => by rw [evB, evB]; exact .nil
  | e :: es, st => by rw [evB, evB]; exact .cons (evE_le h e st) (evB_le h es st)
theorem evAnd_le (h : LeF Φ Ψ) : ∀ (es : List E) (st : Ev), LeO (evAnd Φ es st) (evAnd Ψ es st)
  | [], st => fun r e => by rw [evAnd] at e; cases e
  | [e], st => fun r q => by rw [evAnd] at q ⊢; exact evE_le h e st r q
  | e :: e2 :: es, st => fun r q => by
    rw [evAnd] at q ⊢
    refine boolV_le (evE_le h e st) (fun b => ?_) r q
    cases b with
    | true => exact evAnd_le h (e2 :: es) st
    | false => exact LeO.refl _
theorem evOr_le (h : LeF Φ Ψ) : ∀ (es : List E) (st : Ev), LeO (evOr Φ es st) (evOr Ψ es st)
  | [], st => fun r e => by rw [evOr] at e; cases e
  | [e], st => fun r q => by rw [evOr] at q ⊢; exact evE_le h e st r q
  | e :: e2 :: es, st => fun r q => by
    rw [evOr] at q ⊢
    refine boolV_le (evE_le h e st) (fun b => ?_) r q
    cases b with
    | true => exact LeO.refl _
    | false => exact evOr_le h (e2 :: es) st
theorem evO_le (h : LeF Φ Ψ) : ∀ (o : Option E) (st : Ev), (evO Φ o st = none ∧ evO Ψ o st = none) ∨ ∃ x y, evO Φ o st = some x ∧ evO Ψ o st = some y ∧ LeO x y
  | none, st => .inl ⟨by rw [evO], by rw [evO]⟩
  | some e, st => .inr ⟨_, _, by rw [evO], by rw [evO], evE_le h e st⟩
end
/-! ### statements -/
theorem onV_le {a b : Option EO} {f g : Kd → D → Option SO} (h : LeO a b) (hf : ∀ k d, LeO (f k d) (g k d)) : LeO (onV a f) (onV b g) := fun r e => by
  rcases onV_some e with ⟨k, d, e1, e2⟩ | ⟨c, e1, rfl⟩
  · rw [h _ e1]; exact hf k d r e2
  · rw [h _ e1]; rfl
theorem onB_le {a b : Option EO} {f g : Bool → Option SO} (h : LeO a b) (hf : ∀ t, LeO (f t) (g t)) : LeO (onB a f) (onB b g) := fun r e => by
  rcases onB_some e with ⟨t, e1, e2⟩ | ⟨c, e1, rfl⟩
  · rw [h _ e1]; exact hf t r e2
  · rw [h _ e1]; rfl
theorem thenS_le {a b : Option SO} {f g : Ev → Option SO} (h : LeO a b) (hf : ∀ st, LeO (f st) (g st)) : LeO (thenS a f) (thenS b g) := fun r e => by
  unfold thenS at e
  split at e
  · rename_i st
    rw [h _ rfl]
    exact hf st r e
  · rename_i hne
    rw [h r e]
    cases r with
    | nx st => exact absurd e (hne st)
    | rt k d => rfl
    | ex c => rfl
theorem forGo_le {f g : D → Ev → Option SO} (h : ∀ d st, LeO (f d st) (g d st)) : ∀ (ds : List D) (st : Ev), LeO (forGo f ds st) (forGo g ds st)
  | [], st => LeO.refl _
  | d :: ds, st => fun r e => by rw [forGo] at e ⊢; exact thenS_le (h d st) (forGo_le h ds) r e
theorem whlGo_le {c c' : Ev → Option EO} {f g : Ev → Option SO} (hc : ∀ st, LeO (c st) (c' st)) (h : ∀ st, LeO (f st) (g st)) : ∀ (n : Nat) (st : Ev), LeO (whlGo c f n st) (whlGo c' g n st)
  | 0, st => LeO.refl _
  | n + 1, st => fun r e => by
    rw [whlGo] at e ⊢
    refine onB_le (hc st) (fun b => ?_) r e
    cases b with
    | true => exact thenS_le (h st) (whlGo_le hc h n)
    | false => exact LeO.refl _
theorem guardO_le {st : Ev} {i : Nat} {a b : Option SO} (h : LeO a b) : LeO (guardO st i a) (guardO st i b) := fun r e => by
  unfold guardO at e ⊢
  split
  · rename_i q; simp only [q] at e; exact h r e
  · rename_i q
    split at e
    · rename_i q2; exact absurd q2 (q _)
    · cases e
theorem guardD_le {st : Ev} {i : Nat} {a b : Option SO} (h : LeO a b) : LeO (guardD st i a) (guardD st i b) := fun r e => by
  unfold guardD at e ⊢
  split
  · rename_i q; simp only [q] at e; exact h r e
  · rename_i q
    split at e
    · rename_i q2; exact absurd q2 (q _)
    · cases e
mutual
theorem evS_le (h : LeF Φ Ψ) (fu : Nat) : ∀ (s : S) (st : Ev), LeO (evS Φ fu s st) (evS Ψ fu s st)
  | .set i e, st => fun r q => by rw [evS] at q ⊢; exact onV_le (evE_le h e st) (fun _ _ => LeO.refl _) r q
  | .setT is e, st => fun r q => by rw [evS] at q ⊢; exact onV_le (evE_le h e st) (fun _ _ => LeO.refl _) r q
  | .setI i k e, st => fun r q => by
    rw [evS] at q ⊢
    refine guardO_le (onV_le (evE_le h e st) fun ke d => ?_) r q
    split
    · exact LeO.none
    · exact onV_le (evE_le h k st) fun _ _ => LeO.refl _
  | .dput i k e, st => fun r q => by
    rw [evS] at q ⊢
    refine guardD_le (onV_le (evE_le h e st) fun ke d => ?_) r q
    split
    · exact LeO.none
    · exact onV_le (evE_le h k st) fun _ _ => LeO.refl _
  | .app i e, st => fun r q => by rw [evS] at q ⊢; exact guardO_le (onV_le (evE_le h e st) fun _ _ => LeO.refl _) r q
  | .ins i k e, st => fun r q => by rw [evS] at q ⊢; exact guardO_le (onV_le (evE_le h k st) fun _ _ => onV_le (evE_le h e st) fun _ _ => LeO.refl _) r q
  | .ext i e, st => fun r q => by rw [evS] at q ⊢; exact guardO_le (onV_le (evE_le h e st) fun _ _ => LeO.refl _) r q
  | .clr i, st => fun r q => by rw [evS] at q ⊢; exact q
  | .frz i, st => fun r q => by rw [evS] at q ⊢; exact q
  | .ite c a b, st => fun r q => by
    rw [evS] at q ⊢
    refine onB_le (evE_le h c st) (fun t => ?_) r q
    cases t with
    | true => exact evSs_le h fu a st
    | false => exact evSs_le h fu b st
  | .for i src b, st => fun r q => by
    rw [evS] at q ⊢
    refine onV_le (evE_le h src st) (fun k d => ?_) r q
    split
    · exact LeO.none
    · cases itemsD d with
      | none => exact LeO.none
      | some ds => exact forGo_le (fun d st => evSs_le h fu b _) ds st
  | .forR i n b, st => fun r q => by
    rw [evS] at q ⊢
    refine onV_le (evE_le h n st) (fun k d => ?_) r q
    cases d with
    | int n =>
      simp only
      split
      · exact forGo_le (fun d st => evSs_le h fu b _) _ st
      · exact LeO.none
    | _ => exact LeO.none
  | .forT is src b, st => fun r q => by
    rw [evS] at q ⊢
    refine onV_le (evE_le h src st) (fun k d => ?_) r q
    split
    · exact LeO.none
    · cases itemsD d with
      | none => exact LeO.none
      | some ds =>
        refine forGo_le (fun d st => ?_) ds st
        cases d with
        | tuple xs =>
          simp only
          cases setAll is xs st with
          | none => exact LeO.none
          | some st => exact evSs_le h fu b st
        | _ => exact LeO.none
  | .whl c b, st => fun r q => by rw [evS] at q ⊢; exact whlGo_le (evE_le h c) (evSs_le h fu b) fu st r q
  | .ret e, st => fun r q => by rw [evS] at q ⊢; exact onV_le (evE_le h e st) (fun _ _ => LeO.refl _) r q
  | .retN, st => fun r q => by rw [evS] at q ⊢; exact q
  | .exp e, st => fun r q => by rw [evS] at q ⊢; exact onV_le (evE_le h e st) (fun _ _ => LeO.refl _) r q
  | .rai c, st => fun r q => by rw [evS] at q ⊢; exact q
  | .tryC i e cs hs x, st => fun r q => by
    rw [evS] at q ⊢
    split at q
    · rename_i q2; rw [evE_le h e st _ q2]; exact q
    · rename_i q2; rw [evE_le h e st _ q2]; exact q
    · cases q
theorem evSs_le (h : LeF Φ Ψ) (fu : Nat) : ∀ (ss : List S) (st : Ev), LeO (evSs Φ fu ss st) (evSs Ψ fu ss st)
  | [], st => fun r q => by rw [evSs] at q ⊢; exact q
  | s :: ss, st => fun r q => by rw [evSs] at q ⊢; exact thenS_le (evS_le h fu s st) (evSs_le h fu ss) r q
end
theorem runD_le (h : LeF Φ Ψ) (fu : Nat) (d : DefI) (ds : List D) : LeO (runD Φ fu d ds) (runD Ψ fu d ds) := fun r q => by
  unfold runD at q ⊢
  split
  · rename_i hl
    rw [if_pos hl] at q
    cases e : evSs Φ fu d.body (Dv.start d ds) with
    | none => rw [e] at q; cases q
    | some o => rw [e] at q; rw [evSs_le h fu d.body _ o e]; exact q
  · rename_i hl; rw [if_neg hl] at q; cases q
end
end Dv

/-! Dm, part B: defs that read cells and change none. -/
namespace Dv
open PySem PySem.Spec PyProof.Rows L2

def opOf (s : Str) : Option Cop := match s.cps.toList with
  | [35, 108] => some .lstof
  | 35 :: 46 :: r => some (.fld ⟨r.toArray⟩)
  | _ => none
theorem opOf_name {o : Cop} (h : ∀ c m, o ≠ .mth c m) : opOf (opName o) = some o := by
  cases o with
  | fld f => simp [opOf, opName]
  | mth c m => exact absurd rfl (h c m)
  | lstof => rfl
theorem opOf_mth (c m : Str) : opOf (opName (.mth c m)) = none := by simp [opOf, opName]
theorem opOf_op {s : Str} {o : Cop} (h : opOf s = some o) : isOp s = true := by
  unfold opOf at h
  unfold isOp
  split at h
  · rename_i e; rw [e]; rfl
  · rename_i e; rw [e]; rfl
  · cases h
theorem mth_inj {c m c' m' : Str} (h : opName (.mth c m) = opName (.mth c' m')) : c = c' ∧ m = m' := by
  obtain ⟨⟨lc⟩⟩ := c
  obtain ⟨⟨lm⟩⟩ := m
  obtain ⟨⟨lc'⟩⟩ := c'
  obtain ⟨⟨lm'⟩⟩ := m'
  simp only [opName, Str.mk.injEq, Array.mk.injEq, List.cons.injEq, true_and] at h
  obtain ⟨h1, h2⟩ := h
  obtain ⟨e1, e2⟩ := List.append_inj h2 h1
  subst e1
  subst e2
  exact ⟨rfl, rfl⟩
/-- the defs that change nothing: functions, methods (class, name) -/
structure Tb where
  tab : List (Str × DefI)
  mt : List (Str × Str × DefI)
  fl : List (Str × Str)
def mtAt (T : Tb) (f : Str) : Option (Str × Str × DefI) := T.mt.find? fun x => decide (opName (.mth x.1 x.2.1) = f)
def runR (T : Tb) (μ : Mu) (fu : Nat) : Nat → Str → List D → Option EO
  | 0, f, ds => match opOf f with
    | some o => opD T.fl μ o ds
    | none => none
  | n + 1, f, ds => match opOf f with
    | some o => opD T.fl μ o ds
    | none => match mtAt T f with
      | some x => if rcvD μ x.1 x.2.1 ds = true then runD (runR T μ fu n) fu x.2.2 ds else none
      | none => match T.tab.lookup f with
        | some d => runD (runR T μ fu n) fu d ds
        | none => none
theorem mtAt_name {T : Tb} {f : Str} {x : Str × Str × DefI} (h : mtAt T f = some x) : opName (.mth x.1 x.2.1) = f ∧ x ∈ T.mt := ⟨by simpa using List.find?_some h, List.mem_of_find?_eq_some h⟩
theorem mtAt_none {T : Tb} {f : Str} (h : isOp f = false) : mtAt T f = none := by
  cases e : mtAt T f with
  | none => rfl
  | some x =>
    have := (mtAt_name e).1
    rw [← this, opName_is] at h
    cases h
theorem opOf_none {f : Str} (h : isOp f = false) : opOf f = none := by
  cases e : opOf f with
  | none => rfl
  | some o => rw [opOf_op e] at h; cases h
theorem runR_tab {T : Tb} {μ : Mu} {fu n : Nat} {f : Str} {d : DefI} (h : isOp f = false) (e : T.tab.lookup f = some d) : runR T μ fu (n + 1) f = runD (runR T μ fu n) fu d := by
  funext ds
  rw [runR, opOf_none h, mtAt_none h]
  simp only [e]
theorem runR_op {T : Tb} {μ : Mu} {fu : Nat} {o : Cop} (h : ∀ c m, o ≠ .mth c m) : ∀ n : Nat, runR T μ fu n (opName o) = opD T.fl μ o
  | 0 => by funext ds; rw [runR, opOf_name h]
  | n + 1 => by funext ds; rw [runR, opOf_name h]
theorem runR_mt {T : Tb} {μ : Mu} {fu n : Nat} {c m : Str} {x : Str × Str × DefI} (e : mtAt T (opName (.mth c m)) = some x) (ds : List D) (h : rcvD μ c m ds = true) : runR T μ fu (n + 1) (opName (.mth c m)) ds = runD (runR T μ fu n) fu x.2.2 ds := by
  obtain ⟨h1, _⟩ := mtAt_name e
  obtain ⟨h2, h3⟩ := mth_inj h1
  rw [runR, opOf_mth, e]
  simp only [h2, h3]
  rw [if_pos h]
/-- what is told without cells is told with them, too -/
theorem run_le {T : Tb} {tab : List (Str × DefI)} {μ : Mu} {fu : Nat} (no : noOps tab = true) (hs : ∀ f d, tab.lookup f = some d → T.tab.lookup f = some d) : ∀ n : Nat, LeF (run tab fu n) (runR T μ fu n)
  | 0 => fun f ds r e => by rw [run] at e; cases e
  | n + 1 => fun f ds r e => by
    rw [run] at e
    split at e
    · rename_i d q
      have hm := PySem.mem_of_lookup q
      have hop : isOp f = false := by simpa using List.all_eq_true.mp no _ hm
      rw [runR_tab hop (hs f d q)]
      exact runD_le (run_le no hs n) fu d ds r e
    · cases e
section
variable {P : Program} {w : World} {K : PySem.W.Frag} {ca : Str → Addr} {mg : Str → Option Value} {base : Heap} {cs : List (Str × Int)} {hc ht es : List Str} {ea : Str → Addr}
/-- a class's methods, as they stand behind the top -/
def MtAt (K : PySem.W.Frag) (ca : Str → Addr) (cs : List (Str × Int)) (hc ht es : List Str) (x : Str × Str × DefI) : Prop := ∃ fa fd st qn, Cls K (ca x.1) ∧ Meth K (ca x.1) x.2.1 fa ∧ DefAt0 K cs hc ht es x.2.1 qn x.2.2 fa fd st
theorem readers_ok {T : Tb} (no : noOps T.tab = true) {μ : Mu} {fu : Nat} (O : TopOK K mg cs hc ht es ea) (DA : ∀ p ∈ T.tab, ∃ fa fd st, DefAt K mg cs hc ht es p.1 p.2 fa fd st) (MA : ∀ x ∈ T.mt, MtAt K ca cs hc ht es x)
    (hcl : ∀ c f, (c, f) ∈ T.fl → Cls K (ca c) ∧ NoAttr K (ca c) f) : ∀ (n : Nat),
    (∀ f ds r, isOp f = false → runR T μ fu n f ds = some r → ∃ fa fd ps, mg f = some (.ref fa) ∧ PySem.W.keepIn K (.ref fa) = true ∧ Binds K fd ps [] ∧ FnOk P w K mg base (L2.CX P w) n fa fd ps (spOf ⟨K, fun _ => none, μ, ca⟩ ea (runR T μ fu n f))) ∧
    (∀ c m ds r, runR T μ fu n (opName (.mth c m)) ds = some r → rcvD μ c m ds = true ∧ ∃ fa fd ps, Cls K (ca c) ∧ Meth K (ca c) m fa ∧ Binds K fd ps [] ∧ FnOk P w K mg base (L2.CX P w) n fa fd ps (spOf ⟨K, fun _ => none, μ, ca⟩ ea (runR T μ fu n (opName (.mth c m)))))
  | 0 => ⟨fun f ds r ho h => (by rw [runR, opOf_none ho] at h; cases h), fun c m ds r h => (by rw [runR, opOf_mth] at h; cases h)⟩
  | n + 1 => by
    obtain ⟨ih1, ih2⟩ := readers_ok no (μ := μ) (fu := fu) O DA MA hcl n
    have go : ∀ {x qn : Str} {d : DefI} {fa : Addr} {fd : FuncData} {st : Stmt}, DefAt0 K cs hc ht es x qn d fa fd st → FnOk P w K mg base (L2.CX P w) (n + 1) fa fd (d.nm.take d.np) (spOf ⟨K, fun _ => none, μ, ca⟩ ea (runD (runR T μ fu n) fu d)) := fun {x qn d fa fd st} A =>
      fn_at (Φ := runR T μ fu n) (P := P) (w := w) (base := base) (μ := μ) (ca := ca) (fu := fu) O A (fl := T.fl) (fun o ds r h e => by rw [runR_op h] at e; exact e) hcl ih2 ih1
    refine ⟨fun f ds r ho h => ?_, fun c m ds r h => ?_⟩
    · rw [runR, opOf_none ho, mtAt_none ho] at h
      simp only at h
      split at h
      · rename_i d q
        obtain ⟨fa, fd, st, A⟩ := DA (f, d) (PySem.mem_of_lookup q)
        rw [runR_tab ho q]
        exact ⟨fa, fd, _, A.g, A.fn.kp, Binds.all A.ba, go A.toDefAt0⟩
      · cases h
    · have h0 := h
      rw [runR, opOf_mth] at h
      simp only at h
      cases e : mtAt T (opName (.mth c m)) with
      | none =>
        rw [e] at h
        simp only at h
        split at h
        · rename_i d q
          have hn := List.all_eq_true.mp no _ (PySem.mem_of_lookup q)
          rw [opName_is] at hn
          cases hn
        · cases h
      | some x =>
        obtain ⟨h1, hm⟩ := mtAt_name e
        obtain ⟨h2, h3⟩ := mth_inj h1
        rw [e] at h
        simp only [h2, h3] at h
        split at h
        · rename_i hr
          obtain ⟨fa, fd, st, qn, k1, k2, A⟩ := MA x hm
          rw [h2] at k1 k2
          rw [h3] at k2
          refine ⟨hr, fa, fd, _, k1, k2, Binds.all A.ba, (go A).imp fun vs H Q E ⟨io, F, ds', r', g1, g2, g3, g4, g5⟩ => ⟨io, F, ds', r', g1, g2, g3, ?_, g5⟩⟩
          have g4' := g4
          rw [runR, opOf_mth, e] at g4'
          simp only [h2, h3] at g4'
          split at g4'
          · exact g4'
          · cases g4'
        · cases h
end
end Dv

/-! Dm, part C: how cells change. -/
namespace Dv
open PySem PySem.Spec PyProof.Rows L2

/-! ### readings of data, by the cells' places -/
mutual
theorem Rp.up {κ κ' : KM} (hK : κ.K = κ'.K) (hi : ∀ n a, κ.io n = some a → κ'.io n = some a) {F : Hp} : ∀ {v : V} {d : D}, Rp κ F v d → Rp κ' F v d
  | _, _, .non => .non
  | _, _, .bl b => .bl b
  | _, _, .int i => .int i
  | _, _, .str x => .str x
  | _, _, .lst e r => .lst e (Rps.up hK hi r)
  | _, _, .tup e r => .tup e (Rps.up hK hi r)
  | _, _, .dic e r => .dic e (Rpk.up hK hi r)
  | _, _, .scr e => .scr (hK ▸ e)
  | _, _, .tk e r => .tk e (Rpx.up hK hi r)
  | _, _, .ref e => .ref (hi _ _ e)
theorem Rpx.up {κ κ' : KM} (hK : κ.K = κ'.K) (hi : ∀ n a, κ.io n = some a → κ'.io n = some a) {F : Hp} : ∀ {xs : List Kx} {kvs : List (D × D)}, Rpx κ F xs kvs → Rpx κ' F xs kvs
  | _, _, .nil => .nil
  | _, _, .cons a b c d e f => .cons a b (Rp.up hK hi c) d (Rp.up hK hi e) (Rpx.up hK hi f)
theorem Rps.up {κ κ' : KM} (hK : κ.K = κ'.K) (hi : ∀ n a, κ.io n = some a → κ'.io n = some a) {F : Hp} : ∀ {vs : List V} {ds : List D}, Rps κ F vs ds → Rps κ' F vs ds
  | _, _, .nil => .nil
  | _, _, .cons a b => .cons (Rp.up hK hi a) (Rps.up hK hi b)
theorem Rpk.up {κ κ' : KM} (hK : κ.K = κ'.K) (hi : ∀ n a, κ.io n = some a → κ'.io n = some a) {F : Hp} : ∀ {ks : List (Key × V)} {kvs : List (D × D)}, Rpk κ F ks kvs → Rpk κ' F ks kvs
  | _, _, .nil => .nil
  | _, _, .cons a b => .cons (Rp.up hK hi a) (Rpk.up hK hi b)
end
theorem Rpf.up {κ κ' : KM} (hK : κ.K = κ'.K) (hi : ∀ n a, κ.io n = some a → κ'.io n = some a) {F : Hp} : ∀ {gs : List (Str × V)} {fs : List (Str × D)}, Rpf κ F gs fs → Rpf κ' F gs fs
  | _, _, .nil => .nil
  | _, _, .cons a r => .cons (a.up hK hi) (Rpf.up hK hi r)
theorem Top.up {κ κ' : KM} (hK : κ.K = κ'.K) (hi : ∀ n a, κ.io n = some a → κ'.io n = some a) {F H : Hp} {p : Addr} {d : D} (t : Top κ F H p d) : Top κ' F H p d := by
  cases d with
  | list ds => obtain ⟨vs, e, r⟩ := t; exact ⟨vs, e, r.up hK hi⟩
  | dict kvs =>
    rcases t with ⟨ks, e, r⟩ | ⟨xs, r, e0, e, q⟩
    · exact .inl ⟨ks, e, r.up hK hi⟩
    · exact .inr ⟨xs, r, e0, e, q.up hK hi⟩
  | _ => exact False.elim t
theorem CellAt.up {κ κ' : KM} (hK : κ.K = κ'.K) (hc : κ.ca = κ'.ca) (hi : ∀ n a, κ.io n = some a → κ'.io n = some a) {F H : Hp} {a : Addr} {c : Cell} (t : CellAt κ F H a c) : CellAt κ' F H a c := by
  cases c with
  | lst ds => obtain ⟨vs, e, r⟩ := t; exact ⟨vs, e, r.up hK hi⟩
  | dic kvs => obtain ⟨xs, e, r⟩ := t; exact ⟨xs, e, r.up hK hi⟩
  | obj c fs => obtain ⟨dx, gs, e, e2, r⟩ := t; exact ⟨dx, gs, hc ▸ e, e2, r.up hK hi⟩
  | dead => exact t
abbrev Io := Nat → Option Addr
def LeI (i j : Io) : Prop := ∀ n a, i n = some a → j n = some a
theorem LeI.refl (i : Io) : LeI i i := fun _ _ h => h
theorem LeI.trans {i j k : Io} (a : LeI i j) (b : LeI j k) : LeI i k := fun n x h => b n x (a n x h)
/-- a heap without the cells -/
noncomputable def cut (io : Io) (H : Hp) : Hp := fun a => by
  classical
  exact if ∃ n, io n = some a then none else H a
theorem cut_in {io : Io} {H : Hp} {n : Nat} {a : Addr} (h : io n = some a) : cut io H a = none := by
  unfold cut
  exact if_pos ⟨n, h⟩
theorem cut_out {io : Io} {H : Hp} {a : Addr} (h : ∀ n, io n ≠ some a) : cut io H a = H a := by
  unfold cut
  exact if_neg fun ⟨n, e⟩ => h n e
theorem cut_some {io : Io} {H : Hp} {a : Addr} {o : HO} (h : cut io H a = some o) : H a = some o ∧ ∀ n, io n ≠ some a := by
  by_cases hn : ∃ n, io n = some a
  · obtain ⟨n, e⟩ := hn
    rw [cut_in e] at h
    cases h
  · have hn' : ∀ n, io n ≠ some a := fun n e => hn ⟨n, e⟩
    rw [cut_out hn'] at h
    exact ⟨h, hn'⟩
theorem cut_none {io : Io} {H : Hp} {a : Addr} (h : cut io H a = none) : H a = none ∨ ∃ n, io n = some a := by
  by_cases hn : ∃ n, io n = some a
  · exact .inr hn
  · rw [cut_out fun n e => hn ⟨n, e⟩] at h
    exact .inl h
/-- from (io, F, H) to a later state: what is no cell stands -/
structure GrM (io : Io) (F H : Hp) (io' : Io) (F' H' : Hp) : Prop where
  ff : Sub F F'
  fh : Sub F' H'
  hh : ∀ a o, H a = some o → (∀ n, io n ≠ some a) → H' a = some o
  nw : ∀ a o, F' a = some o → F a = some o ∨ H a = none
  ii : LeI io io'
  ni : ∀ n a, io' n = some a → io n = some a ∨ H a = none
theorem GrM.of {io : Io} {F H F' H' : Hp} (g : Gr F H F' H') : GrM io F H io F' H' := ⟨g.ff, g.fh, fun a o e _ => g.hh a o e, g.nw, LeI.refl io, fun _ _ e => .inl e⟩
section
variable {K : PySem.W.Frag} {ca : Str → Addr} {io io' io0 io1 : Io} {μ μ' : Mu} {F0 H0 F H F' H' F1 H1 : Hp} {st : Ev} {σ : L2.St}
theorem GrM.trans {io2 : Io} {F2 H2 : Hp} (a : GrM io F H io1 F1 H1) (hm : HM ⟨K, io, μ, ca⟩ F H) (hm1 : HM ⟨K, io1, μ', ca⟩ F1 H1) (b : GrM io1 F1 H1 io2 F2 H2) : GrM io F H io2 F2 H2 := by
  have back : ∀ x, H1 x = none → H x = none := fun x e => by
    cases q : H x with
    | none => rfl
    | some o =>
      by_cases hn : ∃ n, io n = some x
      · obtain ⟨n, hn⟩ := hn
        obtain ⟨c, _, _, h3⟩ := hm1.of (a.ii n x hn)
        obtain ⟨o', h4⟩ := h3.has
        rw [e] at h4; cases h4
      · rw [a.hh x o q fun n e => hn ⟨n, e⟩] at e
        cases e
  refine ⟨a.ff.trans b.ff, b.fh, fun x o e n => b.hh x o (a.hh x o e n) fun m z => ?_, fun x o e => ?_, a.ii.trans b.ii, fun n x e => ?_⟩
  · rcases a.ni m x z with z | z
    · exact n m z
    · rw [e] at z; cases z
  · rcases b.nw x o e with z | z
    · exact a.nw x o z
    · exact .inr (back x z)
  · rcases b.ni n x e with z | z
    · exact a.ni n x z
    · exact .inr (back x z)
structure StM (K : PySem.W.Frag) (ca : Str → Addr) (io0 : Io) (F0 H0 : Hp) (io : Io) (μ : Mu) (F H : Hp) (st : Ev) (σ : L2.St) : Prop where
  ok : StOK ⟨K, io, μ, ca⟩ F0 (cut io0 H0) F H st σ
  ii : LeI io0 io
  ni : ∀ n a, io n = some a → io0 n = some a ∨ H0 a = none
theorem exit_gr (g : Gr F0 (cut io0 H0) F H) (hm : HM ⟨K, io, μ, ca⟩ F H) (ii : LeI io0 io) (ni : ∀ n a, io n = some a → io0 n = some a ∨ H0 a = none) : GrM io0 F0 H0 io F H :=
  ⟨g.ff, g.fh, fun a o e n => g.hh a o (by rw [cut_out n]; exact e), (fun a o e => by
    rcases g.nw a o e with z | z
    · exact .inl z
    · rcases cut_none z with z | ⟨n, z⟩
      · exact .inr z
      · obtain ⟨_, _, h2, _⟩ := hm.of (ii n a z)
        rw [h2] at e
        cases e), ii, ni⟩
theorem StM.exit (S : StM K ca io0 F0 H0 io μ F H st σ) : GrM io0 F0 H0 io F H := exit_gr S.ok.gr S.ok.cel S.ii S.ni
theorem StM.mono (S : StM K ca io0 F0 H0 io μ F H st σ) (g : Gr F H F' H') : StM K ca io0 F0 H0 io μ F' H' st σ := ⟨S.ok.mono g, S.ii, S.ni⟩
/-- what was new to H was new at the entry -/
theorem StM.back (S : StM K ca io0 F0 H0 io μ F H st σ) {a : Addr} (e : H a = none) : H0 a = none := by
  have z := S.ok.gr.hh.none e
  rcases cut_none z with z | ⟨n, z⟩
  · exact z
  · obtain ⟨c, _, _, h3⟩ := S.ok.cel.of (S.ii n a z)
    obtain ⟨o', h4⟩ := h3.has
    rw [e] at h4; cases h4
theorem StM.cut0 (S : StM K ca io0 F0 H0 io μ F H st σ) {n : Nat} {a : Addr} (e : io n = some a) : cut io0 H0 a = none := by
  rcases S.ni n a e with z | z
  · exact cut_in z
  · cases q : cut io0 H0 a with
    | none => rfl
    | some o => rw [(cut_some q).1] at z; cases z
theorem StM.gr0 (S : StM K ca io0 F0 H0 io μ F H st σ) (g : GrM io F H io' F' H') : Gr F0 (cut io0 H0) F' H' := by
  refine ⟨S.ok.gr.ff.trans g.ff, g.fh, fun a o e => ?_, fun a o e => ?_⟩
  · refine g.hh a o (S.ok.gr.hh a o e) fun n z => ?_
    rw [S.cut0 z] at e; cases e
  · rcases g.nw a o e with z | z
    · exact S.ok.gr.nw a o z
    · exact .inr (S.ok.gr.hh.none z)
/-- the cells change, the slots stay -/
theorem StM.grm (S : StM K ca io0 F0 H0 io μ F H st σ) (g : GrM io F H io' F' H') (hm : HM ⟨K, io', μ', ca⟩ F' H') : StM K ca io0 F0 H0 io' μ' F' H' st σ := by
  have ni : ∀ n a, io' n = some a → io0 n = some a ∨ H0 a = none := fun n a e => by
    rcases g.ni n a e with z | z
    · exact S.ni n a z
    · exact .inr (S.back z)
  have same : ∀ {i : Nat} {d : D} {p : Addr} {o : HO}, st[i]? = some (some (true, d)) → σ[i]? = some (some (.ref p)) → H p = some o → H' p = some o := fun {i d p o} e1 e2 e3 => g.hh p o e3 (S.ok.ocl i d p e1 e2)
  refine ⟨⟨S.gr0 g, S.ok.len, fun i d e => ?_, fun i d e => ?_, S.ok.inj, hm, fun i d p e1 e2 n z => ?_⟩, S.ii.trans g.ii, ni⟩
  · obtain ⟨v, h1, h2⟩ := S.ok.shr i d e
    exact ⟨v, h1, Rp.up (κ := ⟨K, io, μ, ca⟩) (κ' := ⟨K, io', μ', ca⟩) rfl g.ii (h2.to g.ff)⟩
  · obtain ⟨p, h1, h2, h3, h4⟩ := S.ok.own i d e
    obtain ⟨o, q⟩ := h4.has
    refine ⟨p, h1, ?_, h3, Top.up (κ := ⟨K, io, μ, ca⟩) (κ' := ⟨K, io', μ', ca⟩) rfl g.ii (h4.mono g.ff (q.trans (same e h1 q).symm))⟩
    cases w : F' p with
    | none => rfl
    | some u =>
      rcases g.nw p u w with z | z
      · rw [h2] at z; cases z
      · rw [q] at z; cases z
  · rcases g.ni n p z with z | z
    · exact S.ok.ocl i d p e1 e2 n z
    · obtain ⟨q, h1, h2, h3, h4⟩ := S.ok.own i d e1
      rw [e2] at h1
      cases h1
      obtain ⟨o, q⟩ := h4.has
      rw [q] at z; cases z
/-! ### a cell is changed, a cell is new -/
def isDead : Cell → Bool
  | .dead => true
  | _ => false
theorem CellAt.no_own {κ : KM} {a : Addr} {c : Cell} (h : CellAt κ F H a c) (hd : isDead c = false) (b : Addr) : H a ≠ some (.own b) := fun e => by
  cases c with
  | lst ds => obtain ⟨vs, e2, _⟩ := h; rw [e] at e2; cases e2
  | dic kvs => obtain ⟨xs, e2, _⟩ := h; rw [e] at e2; cases e2
  | obj c fs => obtain ⟨dx, gs, e2, _⟩ := h; rw [e] at e2; cases e2
  | dead => cases hd
theorem CellAt.other {κ : KM} {a b : Addr} {c : Cell} {o : HO} (h : CellAt κ F H b c) (ne : b ≠ a) (no : ∀ x, H a ≠ some (.own x)) : CellAt κ F (upd H a o) b c := by
  cases c with
  | lst ds => obtain ⟨vs, e, r⟩ := h; exact ⟨vs, by rw [upd_ne ne]; exact e, r⟩
  | dic kvs => obtain ⟨xs, e, r⟩ := h; exact ⟨xs, by rw [upd_ne ne]; exact e, r⟩
  | obj c fs =>
    obtain ⟨dx, gs, e, e2, r⟩ := h
    refine ⟨dx, gs, by rw [upd_ne ne]; exact e, ?_, r⟩
    rw [upd_ne (fun z => no b (by rw [← z]; exact e2))]
    exact e2
  | dead => obtain ⟨o', e⟩ := h; exact ⟨o', by rw [upd_ne ne]; exact e⟩
theorem StM.put (S : StM K ca io0 F0 H0 io μ F H st σ) {n : Nat} {a : Addr} {c c' : Cell} {o : HO} (hn : io n = some a) (hc : μ[n]? = some c) (hd : isDead c = false) (t : CellAt ⟨K, io, μ, ca⟩ F (upd H a o) a c') : StM K ca io0 F0 H0 io (μ.set n c') F (upd H a o) st σ := by
  obtain ⟨c1, k1, k2, k3⟩ := S.ok.cel.of hn
  rw [hc] at k1
  cases k1
  have no := k3.no_own hd
  have hl : n < μ.length := (List.getElem?_eq_some_iff.mp hc).1
  have hm : HM ⟨K, io, μ.set n c', ca⟩ F (upd H a o) := by
    refine ⟨fun m cm e => ?_, S.ok.cel.inj, fun m b e => by rw [List.length_set]; exact S.ok.cel.lt m b e⟩
    by_cases hmn : n = m
    · subst hmn
      rw [List.getElem?_set_self hl] at e
      cases e
      exact ⟨a, hn, k2, CellAt.up (κ := ⟨K, io, μ, ca⟩) (κ' := ⟨K, io, μ.set n c', ca⟩) rfl rfl (LeI.refl io) t⟩
    · rw [List.getElem?_set_ne hmn] at e
      obtain ⟨b, h1, h2, h3⟩ := S.ok.cel.at_ m cm e
      have ne : b ≠ a := fun z => hmn (S.ok.cel.inj n m a hn (by rw [← z]; exact h1))
      exact ⟨b, h1, h2, CellAt.up (κ := ⟨K, io, μ, ca⟩) (κ' := ⟨K, io, μ.set n c', ca⟩) rfl rfl (LeI.refl io) (h3.other ne no)⟩
  refine S.grm (io' := io) ⟨Sub.refl F, fun b u e => ?_, fun b u e nn => ?_, fun b u e => .inl e, LeI.refl io, fun _ _ e => .inl e⟩ hm
  · rw [upd_ne (ne_of_none e k2)]; exact S.ok.fh b u e
  · rw [upd_ne (fun z => nn n (by rw [z]; exact hn))]; exact e
/-- the next cell's place -/
def addI (io : Io) (n : Nat) (a : Addr) : Io := fun m => if m = n then some a else io m
theorem addI_le {n : Nat} {a : Addr} (h : io n = none) : LeI io (addI io n a) := fun m b e => by
  unfold addI
  by_cases z : m = n
  · subst z; rw [h] at e; cases e
  · rw [if_neg z]; exact e
theorem addI_self {n : Nat} {a : Addr} : addI io n a n = some a := by unfold addI; exact if_pos rfl
theorem addI_cases {n m : Nat} {a b : Addr} (h : addI io n a m = some b) : (m = n ∧ b = a) ∨ (m ≠ n ∧ io m = some b) := by
  unfold addI at h
  split at h
  · rename_i z; cases h; exact .inl ⟨z, rfl⟩
  · rename_i z; exact .inr ⟨z, h⟩
theorem HM.io_none {κ : KM} (hm : HM κ F H) : κ.io κ.mu.length = none := by
  cases q : κ.io κ.mu.length with
  | none => rfl
  | some a => exact absurd (hm.lt _ a q) (Nat.lt_irrefl _)
/-- what is new to the heap becomes a cell -/
theorem hm_add {κ : KM} (hm : HM κ F H) (g : Gr F H F1 H1) {a : Addr} {c : Cell} (na : H a = none) (nF : F1 a = none) (t : CellAt ⟨κ.K, addI κ.io κ.mu.length a, κ.mu, κ.ca⟩ F1 H1 a c) : HM ⟨κ.K, addI κ.io κ.mu.length a, κ.mu ++ [c], κ.ca⟩ F1 H1 := by
  have h1 := hm.mono g
  refine ⟨fun m cm e => ?_, fun m k b e1 e2 => ?_, fun m b e => ?_⟩
  · by_cases hl : m < κ.mu.length
    · rw [show (κ.mu ++ [c])[m]? = κ.mu[m]? from List.getElem?_append_left hl] at e
      obtain ⟨b, k1, k2, k3⟩ := h1.at_ m cm e
      refine ⟨b, ?_, k2, CellAt.up (κ := κ) (κ' := ⟨κ.K, addI κ.io κ.mu.length a, κ.mu ++ [c], κ.ca⟩) rfl rfl (addI_le hm.io_none) k3⟩
      exact addI_le hm.io_none m b k1
    · have e0 : m = κ.mu.length := by
        have := (List.getElem?_eq_some_iff.mp e).1
        simp only [List.length_append, List.length_singleton] at this
        omega
      subst e0
      simp only [List.getElem?_append_right (Nat.le_refl _), Nat.sub_self] at e
      cases e
      exact ⟨a, addI_self, nF, CellAt.up (κ := ⟨κ.K, addI κ.io κ.mu.length a, κ.mu, κ.ca⟩) (κ' := ⟨κ.K, addI κ.io κ.mu.length a, κ.mu ++ [c], κ.ca⟩) rfl rfl (LeI.refl _) t⟩
  · have old : ∀ {m : Nat}, κ.io m = some a → False := fun {m} e => by
      obtain ⟨c', _, _, h3⟩ := hm.of e
      obtain ⟨o, q⟩ := h3.has
      rw [na] at q; cases q
    rcases addI_cases e1 with ⟨z1, z2⟩ | ⟨z1, z2⟩
    · rcases addI_cases e2 with ⟨y1, y2⟩ | ⟨y1, y2⟩
      · omega
      · rw [z2] at y2; exact (old y2).elim
    · rcases addI_cases e2 with ⟨y1, y2⟩ | ⟨y1, y2⟩
      · rw [y2] at z2; exact (old z2).elim
      · exact hm.inj m k b z2 y2
  · rcases addI_cases e with ⟨z1, z2⟩ | ⟨z1, z2⟩
    · simp only [List.length_append, List.length_singleton]
      show m < κ.mu.length + 1
      omega
    · have := hm.lt m b z2
      simp only [List.length_append, List.length_singleton]
      show m < κ.mu.length + 1
      omega
theorem grm_add {κ : KM} (hm : HM κ F H) (g : Gr F H F1 H1) {a : Addr} (na : H a = none) : GrM κ.io F H (addI κ.io κ.mu.length a) F1 H1 :=
  ⟨g.ff, g.fh, fun b o e _ => g.hh b o e, g.nw, addI_le hm.io_none, fun m b e => by
    rcases addI_cases e with ⟨_, z⟩ | ⟨_, z⟩
    · rw [z]; exact .inr na
    · exact .inl z⟩
theorem StM.add (S : StM K ca io0 F0 H0 io μ F H st σ) (g : Gr F H F1 H1) {a : Addr} {c : Cell} (na : H a = none) (nF : F1 a = none) (t : CellAt ⟨K, addI io μ.length a, μ, ca⟩ F1 H1 a c) : StM K ca io0 F0 H0 (addI io μ.length a) (μ ++ [c]) F1 H1 st σ :=
  S.grm (grm_add S.ok.cel g na) (hm_add S.ok.cel g na nF t)
end
end Dv

/-! Dm, part D: statements that change cells: the language, its evaluator, its checker. -/
namespace Dv
open PySem PySem.Spec PyProof.Rows L2

inductive RO | ok (k : Kd) (d : D) (μ : Mu) | ex (c : Str) (μ : Mu) | exU (d : D) (μ : Mu)
inductive MO | nx (st : Ev) (μ : Mu) | rt (k : Kd) (d : D) (μ : Mu) | ex (c : Str) (μ : Mu) | exU (d : D) (μ : Mu)
/-- whom a call calls -/
inductive CF | fn (f : Str) | mt (c m : Str)
def CF.nm : CF → Str
  | .fn f => f
  | .mt c m => opName (.mth c m)
/-- what changes cells and has a value -/
inductive EM | call (f : CF) (es : List E) | new (c : Str) (es : List E)
inductive CT | yes | no | isn
inductive M where
  | p (s : S)
  | ite (c : E) (a b : List M)
  | forR (i : Nat) (n : E) (b : List M)
  | eff (e : EM)
  | effS (i : Nat) (e : EM)
  | new2 (i : Nat) (c : Str) (es fs : List E)
  | iteC (t : CT) (e : EM) (a b : List M)
  | retO (a : E) (e : EM)
  | setF (o : E) (f : Str) (e : E)
  | setTF (o : E) (f : Str) (i : Nat) (e : E)
  | newL (o : E) (f : Str) (e : E)
  | appC (r : E) (e : E)
  | raiU (e : E)
  | tryS (i : Nat) (f : CF) (es : List E)
  | tryB (f : CF) (es : List E) (b : Bool)
  | iteV (c : E) (a b : List M)
  | retC (i : Nat) (e : E)

/-! what is seen where the lists' cells are taken for what they hold -/
mutual
def drf (μ : Mu) : D → Option D
  | .none => some .none
  | .bool b => some (.bool b)
  | .int i => some (.int i)
  | .str s => some (.str s)
  | .list ds => (drfs μ ds).map .list
  | .tuple ds => (drfs μ ds).map .tuple
  | .dict kvs => match kvs with
    | [(.bool false, .int n)] => match μ[n.toNat]? with
      | some (.lst xs) => if 0 ≤ n ∧ xs.all scalar = true then some (.list xs) else none
      | _ => none
    | _ => none
def drfs (μ : Mu) : List D → Option (List D)
  | [] => some []
  | d :: ds => match drf μ d, drfs μ ds with
    | some e, some es => some (e :: es)
    | _, _ => none
end
def viewO (μ : Mu) : Option (Bool × D) → Option (Bool × D)
  | some (false, d) => (drf μ d).map fun e => (false, e)
  | _ => none
def viewS (μ : Mu) (st : Ev) : Ev := st.map (viewO μ)

def putFD (f : Str) (v : D) : List (Str × D) → List (Str × D)
  | [] => [(f, v)]
  | (g, x) :: r => if g = f then (g, v) :: r else (g, x) :: putFD f v r
/-- an object's field is set -/
def setFD (fl : List (Str × Str)) (μ : Mu) (x : D) (f : Str) (d : D) : Option Mu :=
  match x with
  | .dict [(.bool false, .int n)] => match μ[n.toNat]? with
    | some (.obj c fs) => if (c, f) ∈ fl ∧ fs.length < 1000 ∧ 0 ≤ n then some (μ.set n.toNat (.obj c (putFD f d fs))) else none
    | _ => none
  | _ => none
/-- a list cell is added to -/
def appD (μ : Mu) (x : D) (d : D) : Option Mu :=
  match x with
  | .dict [(.bool false, .int n)] => match μ[n.toNat]? with
    | some (.lst ds) => if ds.length < lim ∧ 0 ≤ n then some (μ.set n.toNat (.lst (ds ++ [d]))) else none
    | _ => none
  | _ => none
/-- a list's cell -/
def isLstD (μ : Mu) (x : D) : Bool :=
  match x with
  | .dict [(.bool false, .int n)] => match μ[n.toNat]? with
    | some (.lst _) => decide (0 ≤ n)
    | _ => false
  | _ => false
def onVM (r : Option EO) (μ : Mu) (f : Kd → D → Option MO) : Option MO :=
  match r with
  | some (.ok k d) => f k d
  | some (.ex c) => some (.ex c μ)
  | none => none
def onBM (r : Option EO) (μ : Mu) (f : Bool → Option MO) : Option MO :=
  match r with
  | some (.ok .shr (.bool b)) => f b
  | some (.ex c) => some (.ex c μ)
  | _ => none
def onR (r : Option RO) (f : Kd → D → Mu → Option MO) : Option MO :=
  match r with
  | some (.ok k d μ) => f k d μ
  | some (.ex c μ) => some (.ex c μ)
  | some (.exU d μ) => some (.exU d μ)
  | none => none
def thenM (r : Option MO) (f : Ev → Mu → Option MO) : Option MO :=
  match r with
  | some (.nx st μ) => f st μ
  | o => o
def goM (f : D → Ev → Mu → Option MO) : List D → Ev → Mu → Option MO
  | [], st, μ => some (.nx st μ)
  | d :: ds, st, μ => thenM (f d st μ) (goM f ds)
def liftS (r : Option SO) (μ : Mu) : Option MO :=
  match r with
  | some (.nx st) => some (.nx st μ)
  | some (.rt k d) => some (.rt k d μ)
  | some (.ex c) => some (.ex c μ)
  | none => none
def ctD : CT → Kd → D → Option Bool
  | .yes, .shr, .bool b => some b
  | .no, .shr, .bool b => some (!b)
  | .isn, _, d => some (!isNone d)
  | _, _, _ => none
def setM (st : Ev) (i : Nat) (k : Kd) (d : D) (μ : Mu) : Option MO := liftS (setV st i k d) μ
section
variable (fl : List (Str × Str)) (Φ : Mu → Str → List D → Option EO) (Ψ Ψi : Mu → Str → List D → Option RO) (fu : Nat)
def evC (f : CF) (es : List E) (st : Ev) (μ : Mu) : Option RO :=
  match evL (Φ μ) es st with
  | some (.ok xs) => if noBrw xs = true then Ψ μ f.nm (xs.map (·.2)) else none
  | _ => none
def evNew (c : Str) (es : List E) (st : Ev) (μ : Mu) : Option RO :=
  match evL (Φ μ) es st with
  | some (.ok xs) => if noBrw xs = true then
      match Ψi (μ ++ [.obj c []]) (opName (.mth c "__init__")) (refD μ.length :: xs.map (·.2)) with
      | some (.ok .shr .none μ') => some (.ok .shr (refD μ.length) μ')
      | _ => none
    else none
  | _ => none
def evEM : EM → Ev → Mu → Option RO
  | .call f es, st, μ => evC Φ Ψ f es st μ
  | .new c es, st, μ => evNew Φ Ψi c es st μ
mutual
def evM : M → Ev → Mu → Option MO
  | .p s, st, μ => liftS (evS (Φ μ) fu s st) μ
  | .ite c a b, st, μ => onBM (evE (Φ μ) c st) μ fun t => if t = true then evMs a st μ else evMs b st μ
  | .forR i n b, st, μ => onVM (evE (Φ μ) n st) μ fun _ d => match d with
    | .int n => if n ≤ 1000000 ∧ -1000000 ≤ n then goM (fun d st μ => evMs b (st.set i (some (false, d))) μ) (rngD n.toNat) st μ else none
    | _ => none
  | .eff e, st, μ => onR (evEM Φ Ψ Ψi e st μ) fun _ _ μ => some (.nx st μ)
  | .effS i e, st, μ => onR (evEM Φ Ψ Ψi e st μ) fun k d μ => setM st i k d μ
  | .new2 i c es fs, st, μ => onR (evNew Φ Ψi c es st μ) fun k d μ => match k with
    | .shr => onR (evNew Φ Ψi c fs st μ) fun k d' μ => match k with
      | .shr => some (.nx (st.set i (some (true, .list [d, d']))) μ)
      | _ => none
    | _ => none
  | .iteC t e a b, st, μ => onR (evEM Φ Ψ Ψi e st μ) fun k d μ => match ctD t k d with
    | some true => evMs a st μ
    | some false => evMs b st μ
    | none => none
  | .retO a e, st, μ => onBM (evE (Φ μ) a st) μ fun t => if t = true then some (.rt .shr (.bool true) μ) else onR (evEM Φ Ψ Ψi e st μ) fun k d μ => match k, d with
    | .shr, .bool b => some (.rt .shr (.bool (!b)) μ)
    | _, _ => none
  | .setF o f e, st, μ => onVM (evE (Φ μ) e st) μ fun k d => if k = .brw then none else onVM (evE (Φ μ) o st) μ fun _ x => (setFD fl μ x f d).map (.nx st)
  | .setTF o f i e, st, μ => onVM (evE (Φ μ) e st) μ fun k d => match k, d with
    | .shr, .tuple [a, b] => onVM (evE (Φ μ) o st) μ fun _ x => (setFD fl μ x f a).map (.nx (st.set i (some (false, b))))
    | _, _ => none
  | .newL o f e, st, μ => onVM (evE (Φ μ) e st) μ fun k d => match k, d with
    | .frs, .list ds => onVM (evE (Φ μ) o st) μ fun _ x => (setFD fl (μ ++ [.lst ds]) x f (refD μ.length)).map (.nx st)
    | _, _ => none
  | .appC r e, st, μ => onVM (evE (Φ μ) r st) μ fun _ x => if isLstD μ x = true then onVM (evE (Φ μ) e st) μ fun k d => if k = .brw then none else (appD μ x d).map (.nx st) else none
  | .raiU e, st, μ => onVM (evE (Φ μ) e st) μ fun k d => if k = .brw then none else some (.exU d μ)
  | .tryS _ f es, st, μ => match evC Φ Ψ f es st μ with
    | some (.ok _ _ μ) => some (.nx st μ)
    | some (.exU d μ) => some (.rt .shr d μ)
    | _ => none
  | .tryB f es b, st, μ => match evC Φ Ψ f es st μ with
    | some (.ok _ _ μ) => some (.nx st μ)
    | some (.exU _ μ) => some (.rt .shr (.bool b) μ)
    | _ => none
  | .iteV c a b, st, μ => onBM (evE (Φ []) c (viewS μ st)) μ fun t => if t = true then evMs a st μ else evMs b st μ
  | .retC i e, st, μ => match st[i]? with
    | some (some (true, .list ds)) => onVM (evE (Φ μ) e st) μ fun k d => if k = .brw then none else some (.rt .shr (.tuple [refD μ.length, d]) (μ ++ [.lst ds]))
    | _ => none
def evMs : List M → Ev → Mu → Option MO
  | [], st, μ => some (.nx st μ)
  | s :: ss, st, μ => thenM (evM s st μ) (evMs ss)
end
end
structure DefM where
  np : Nat
  nm : List Str
  body : List M
def outM (r : Option MO) : Option RO :=
  match r with
  | some (.nx _ μ) => some (.ok .shr .none μ)
  | some (.rt .brw _ _) => none
  | some (.rt k d μ) => some (.ok k d μ)
  | some (.ex c μ) => some (.ex c μ)
  | some (.exU d μ) => some (.exU d μ)
  | none => none
def startM (d : DefM) (ds : List D) : Ev := ds.map (fun x => some (false, x)) ++ List.replicate (d.nm.length - ds.length) none
def runDM (fl : List (Str × Str)) (Φ : Mu → Str → List D → Option EO) (Ψ Ψi : Mu → Str → List D → Option RO) (fu : Nat) (d : DefM) (ds : List D) (μ : Mu) : Option RO :=
  if ds.length = d.np then outM (evMs fl Φ Ψ Ψi fu d.body (startM d ds) μ) else none
/-- functions that change cells, methods (class, name) that do -/
structure TbM where
  r : Tb
  fn : List (Str × DefM)
  mt : List (Str × Str × DefM)
def mtAtM (T : TbM) (f : Str) : Option (Str × Str × DefM) := T.mt.find? fun x => decide (opName (.mth x.1 x.2.1) = f)
def stepM (T : TbM) (fu : Nat) (Φ : Mu → Str → List D → Option EO) (Ψ Ψi : Mu → Str → List D → Option RO) (μ : Mu) (f : Str) (ds : List D) : Option RO :=
  match mtAtM T f with
  | some x => if rcvD μ x.1 x.2.1 ds = true then runDM T.r.fl Φ Ψ Ψi fu x.2.2 ds μ else none
  | none => if isOp f = true then none else match T.fn.lookup f with
    | some d => runDM T.r.fl Φ Ψ Ψi fu d ds μ
    | none => none
def runM2 (T : TbM) (fu : Nat) : Nat → (Mu → Str → List D → Option RO) × (Mu → Str → List D → Option RO)
  | 0 => (fun _ _ _ => none, fun _ _ _ => none)
  | n + 1 => (stepM T fu (fun μ => runR T.r μ fu n) (runM2 T fu n).1 (runM2 T fu n).2, (runM2 T fu n).1)
def runM (T : TbM) (fu n : Nat) : Mu → Str → List D → Option RO := (runM2 T fu n).1

/-! ### the checker -/
def mCF (c : Cc) (sc : Scope) : CF → List E → Expr → Bool
  | .fn f, es, .Call g (v :: vs) [] _ => isG sc g f && mL c sc es (v :: vs) && !isOp f
  | .mt _ m, a :: es, .Call (.Attribute o n ap) vs [] p => decide (n = m) && okRecv o && (ap.endLine == p.line) && decide (vs.length < 20) && mE c sc a o && mL c sc es vs
  | _, _, _ => false
def mNew (c : Cc) (sc : Scope) (x : Str) (es : List E) : Expr → Bool
  | .Call g (v :: vs) [] _ => isG sc g x && mL c sc es (v :: vs)
  | _ => false
def mEM (c : Cc) (sc : Scope) : EM → Expr → Bool
  | .call f es, v => mCF c sc f es v
  | .new x es, v => mNew c sc x es v
def mCT (c : Cc) (sc : Scope) : CT → EM → Expr → Bool
  | .yes, e, v => mEM c sc e v
  | .no, e, .UnaryOp .Not v _ => mEM c sc e v
  | .isn, e, .Compare v [.IsNot] [.Constant .none _ _] _ => mEM c sc e v
  | _, _, _ => false
mutual
def mM (c : Cc) (sc : Scope) : M → Stmt → Bool
  | .p s, st => mS c sc s st
  | .ite d a b, .If t x y _ => mE c sc d t && mMs c sc a x && mMs c sc b y
  | .forR i n b, .For (.Name x _) (.Call g [it] [] _) body [] _ => wrB c.N sc x i && isG sc g "range" && mE c sc n it && mMs c sc b body
  | .eff e, .Expr v _ => mEM c sc e v
  | .effS i e, .Assign [.Name x _] v _ => wrB c.N sc x i && mEM c sc e v
  | .new2 i x es fs, .Assign [.Name y _] (.List [v, w] _) _ => wrB c.N sc y i && mNew c sc x es v && mNew c sc x fs w
  | .iteC t e a b, .If v x y _ => mCT c sc t e v && mMs c sc a x && mMs c sc b y
  | .retO a e, .Return (some (.BoolOp .Or [v, .UnaryOp .Not w _] _)) _ => mE c sc a v && mEM c sc e w
  | .setF o f e, .Assign [.Attribute x g _] v _ => decide (f = g) && okBase x && mE c sc o x && mE c sc e v && noComp v
  | .setTF o f i e, .Assign [.Tuple [.Attribute x g _, .Name y _] _ _] v _ => decide (f = g) && okBase x && wrB c.N sc y i && mE c sc o x && mE c sc e v && noTup v
  | .newL o f e, .Assign [.Attribute x g _] v _ => decide (f = g) && okBase x && mE c sc o x && mE c sc e v && noComp v
  | .appC r e, .Expr (.Call (.Attribute x n ap) [a] [] p) _ => decide (n = ("append" : Str)) && okBase x && (ap.endLine == p.line) && mE c sc r x && mE c sc e a
  | .raiU e, .Raise (some (.Call g [a] [] _)) none _ => isG sc g "Unsafe" && mE c sc e a
  | .tryS i f es, .Try [.Expr v _] [.ExceptHandler (some (.Name y _)) (some n) [.Return (some (.Attribute (.Name z _) g _)) _] _] [] [] _ =>
    mCF c sc f es v && decide (y = ("Unsafe" : Str)) && glB sc y && decide (c.N[i]? = some n) && decide (sc.names.lookup n = some .local) && decide (z = n) && plainName n && decide (g = ("shown" : Str))
  | .tryB f es b, .Try [.Expr v _] [.ExceptHandler (some (.Name y _)) none [.Return (some (.Constant (.bool b') _ _)) _] _] [] [] _ =>
    mCF c sc f es v && decide (y = ("Unsafe" : Str)) && glB sc y && (b == b')
  | .iteV d a b, .If t x y _ => mE c sc d t && mMs c sc a x && mMs c sc b y
  | .retC i e, .Return (some (.Tuple [.Name x _, v] _ _)) _ => rdB c.N sc x i && mE c sc e v
  | _, _ => false
def mMs (c : Cc) (sc : Scope) : List M → List Stmt → Bool
  | [], [] => true
  | .p (.frz _) :: ss, sts => mMs c sc ss sts
  | s :: ss, st :: sts => mM c sc s st && mMs c sc ss sts
  | _, _ => false
end
mutual
def raisesM : M → List Str
  | .p s => raises s
  | .ite _ a b => raisesMs a ++ raisesMs b
  | .forR _ _ b => raisesMs b
  | .iteC _ _ a b => raisesMs a ++ raisesMs b
  | .iteV _ a b => raisesMs a ++ raisesMs b
  | _ => []
def raisesMs : List M → List Str
  | [] => []
  | s :: ss => raisesM s ++ raisesMs ss
end
end Dv

/-! Dm, part E: calls that change cells. -/
namespace Dv
open PySem PySem.Spec PyProof.Rows L2

structure GM where
  fl : List (Str × Str)
  K : PySem.W.Frag
  ca : Str → Addr
  Φ : Mu → Str → List D → Option EO
  Ψ : Mu → Str → List D → Option RO
  Ψi : Mu → Str → List D → Option RO
  ea : Str → Addr
  k : Nat
  cs : List (Str × Int)
  hc : List Str
  ht : List Str
abbrev GM.km (G : GM) (io : Io) (μ : Mu) : KM := ⟨G.K, io, μ, G.ca⟩
abbrev GM.gi (G : GM) (io : Io) (μ : Mu) : GI := ⟨G.fl, ⟨G.K, io, μ, G.ca⟩, G.Φ μ, G.ea, G.k, G.cs, G.hc, G.ht⟩
abbrev ccM (G : GM) (X : Cx) : Cc := ⟨X.N, G.cs, G.hc, G.ht⟩
/-- what is wanted behind what changes cells -/
def PostR (K : PySem.W.Frag) (ca ea : Str → Addr) (io : Io) (F H : Hp) (r : RO) (Q : VK) (E : XK) : Prop :=
  match r with
  | .ok k d μ => ∀ v H' F' io', GrM io F H io' F' H' → HM ⟨K, io', μ, ca⟩ F' H' → RV ⟨K, io', μ, ca⟩ F' H' k d v → Fresh H k v → NF ⟨K, io', μ, ca⟩ k v → Q v H'
  | .ex c μ => ∀ H' F' io', GrM io F H io' F' H' → HM ⟨K, io', μ, ca⟩ F' H' → E (.ref (ea c)) none H'
  | .exU d μ => ∀ H' F' io' dd v, GrM io F H io' F' H' → HM ⟨K, io', μ, ca⟩ F' H' → Rp ⟨K, io', μ, ca⟩ F' v d → H' dd = some (.xd [(("shown" : Str), v)]) → E (.ref (ea "Unsafe")) (some dd) H'
def spM (K : PySem.W.Frag) (ca ea : Str → Addr) (φ : Mu → List D → Option RO) : Sp := fun vs H Q E => ∃ io μ F ds r, Sub F H ∧ HM ⟨K, io, μ, ca⟩ F H ∧ Rps ⟨K, io, μ, ca⟩ F vs ds ∧ φ μ ds = some r ∧ PostR K ca ea io F H r Q E
structure CKM0 (G : GM) (W : WX) (X : Cx) : Prop where
  ck : ∀ io μ, CK (G.gi io μ) W X
  fnM : ∀ f μ ds r, isOp f = false → G.Ψ μ f ds = some r → ∃ fa fd ps, X.mg f = some (.ref fa) ∧ PySem.W.keepIn X.K (.ref fa) = true ∧ Binds X.K fd ps [] ∧ FnOk X.prog X.w X.K X.mg X.base (L2.CX X.prog X.w) G.k fa fd ps (spM G.K G.ca G.ea fun μ => G.Ψ μ f)
  mtM : ∀ c m μ ds r, G.Ψ μ (opName (.mth c m)) ds = some r → rcvD μ c m ds = true ∧ ∃ fa fd ps, Cls X.K (G.ca c) ∧ Meth X.K (G.ca c) m fa ∧ Binds X.K fd ps [] ∧ FnOk X.prog X.w X.K X.mg X.base (L2.CX X.prog X.w) G.k fa fd ps (spM G.K G.ca G.ea fun μ => G.Ψ μ (opName (.mth c m)))
  newM : ∀ c μ ds r, G.Ψi μ (opName (.mth c "__init__")) ds = some r → ∃ j fa fd ps, G.k = j + 1 ∧ X.mg c = some (.ref (G.ca c)) ∧ Mk X.K (G.ca c) fa ∧ Binds X.K fd ps [] ∧ FnOk X.prog X.w X.K X.mg X.base (L2.CX X.prog X.w) j fa fd ps (spM G.K G.ca G.ea fun μ => G.Ψi μ (opName (.mth c "__init__")))
section
variable {K : PySem.W.Frag} {ca ea : Str → Addr} {io io1 : Io} {F H F1 H1 : Hp} {r : RO} {Q : VK} {E : XK} {μ μ1 : Mu}
/-- further on -/
theorem PostR.fwd (P : PostR K ca ea io F H r Q E) (hm : HM ⟨K, io, μ, ca⟩ F H) (hm1 : HM ⟨K, io1, μ1, ca⟩ F1 H1) (g : GrM io F H io1 F1 H1) (hf : ∀ p, H1 p = none → H p = none) : PostR K ca ea io1 F1 H1 r Q E := by
  cases r with
  | ok k d μ' => exact fun v H' F' io' g' h2 h3 h4 h5 => P v H' F' io' (g.trans hm hm1 g') h2 h3 (fun e p q => hf p (h4 e p q)) h5
  | ex c μ' => exact fun H' F' io' g' h2 => P H' F' io' (g.trans hm hm1 g') h2
  | exU d μ' => exact fun H' F' io' dd v g' h2 h3 h4 => P H' F' io' dd v (g.trans hm hm1 g') h2 h3 h4
theorem gr_same {o : Hp} (s : Sub F H) (t : Sub H o) : Gr F H F o := ⟨Sub.refl F, s.trans t, t, fun _ _ e => .inl e⟩
end
section
variable {X : Cx} {CX : CXT} {k : Nat} {f C : Addr} {fd : FuncData} {ps : List Str} {sp : Sp} {E : L2.St → XK} {x : Str} {p pos : Pos} {e : Expr} {es : List Expr} {t : TA}
/-- C(..), exceptions by the slots -/
def tMakeS (C : Addr) (sp : Sp) (E : L2.St → XK) (t : TA) : TE := fun σ H Q => t σ H fun vs H1 => ∀ x dx, H1 x = none → H1 dx = none → dx ≠ x → sp (.ref x :: vs) (upd (upd H1 dx (.own x)) x (.ins C dx [])) (fun v H2 => v = .non ∧ Q (.ref x) H2) (E σ)
theorem run_makeS {pins : List (Addr × Obj)} {σ : L2.St} {H : Hp} {s : Shared} {Q : VK} {us : List Value} {vs : List V} (M : Mk X.K C f) (F : FnOk X.prog X.w X.K X.mg X.base CX k f fd ps sp) (hr : Room (k + 1) X.A) (hb : Binds X.K fd ps [])
    (hx : PassesAt CX X σ (E σ)) (I : Inv X pins σ H s) (r : Vals vs us)
    (h : ∀ x dx, H x = none → H dx = none → dx ≠ x → sp (.ref x :: vs) (upd (upd H dx (.own x)) x (.ins C dx [])) (fun v H2 => v = .non ∧ Q (.ref x) H2) (E σ)) :
    wpAny (model X.prog X.w) X.A (call (.ref C) us) (EP X pins σ Q) X.xe s := by
  have hq := h (s.heap.objs.size + 1) s.heap.objs.size (I.hok.fresh (Nat.le_succ _)) (I.hok.fresh (Nat.le_refl _)) (Nat.ne_of_lt (Nat.lt_succ_self _))
  have I2 := Inv.made (C := C) I
  have r2 : Vals (V.ref (s.heap.objs.size + 1) :: vs) (Value.ref (s.heap.objs.size + 1) :: us) := .cons rfl r
  have hl : (Value.ref (s.heap.objs.size + 1) :: us ++ []).length = ps.length := by
    have e := r2.length
    rw [F.len _ _ _ _ hq] at e
    rw [List.append_nil]
    exact e.symm
  have hb2 := hb _ (Value.ref (s.heap.objs.size + 1) :: us) I2.kIn hl
  rw [List.append_nil] at hb2
  refine wpAny_call (make_map (f := f) I.kIn M.makes M.init (beq_iff_eq.mp M.fn) (codeAny_mono (F.run _ X.stack _ _ ⟨Value.ref (s.heap.objs.size + 1) :: us, []⟩ (Value.ref (s.heap.objs.size + 1) :: us) _ _ (E σ) (hr.make C us [])
    (I2.env0.make C us []) hb2 r2 hq) fun r s' hq' => ?_))
  cases r with
  | error e => exact hx pins _ _ e s' I2 hq'
  | ok fl =>
    cases fl with
    | ret u =>
      obtain ⟨v, H', I3, rv, ev, q3⟩ := I2.after hq'
      subst ev
      exact ⟨rv, ⟨V.ref (s.heap.objs.size + 1), H', I3, rfl, q3⟩⟩
    | next => exact False.elim hq'
    | brk => exact False.elim hq'
    | cont => exact False.elim hq'
theorem pe_makeS (M : Mk X.K C f) (F : FnOk X.prog X.w X.K X.mg X.base CX k f fd ps sp) (hr : Room (k + 1) X.A) (hg : Gl X x) (hm : X.mg x = some (.ref C)) (hb : Binds X.K fd ps []) (hx : ∀ σ, PassesAt CX X σ (E σ))
    (ha : PA X (e :: es) t) (hdb : (x == ("__debug__" : Str)) = false) (he : starEach (e :: es) X.env = (false, eval e X.env) :: starEach es X.env) (hpl : (backTo pos (starEach es X.env)).any (·.1) = false) :
    PE X (.Call (.Name x p) (e :: es) [] pos) (tMakeS C sp E t) := by
  refine ⟨fun pins s σ H Q I h => ?_⟩
  refine wpAny_Call_Name_kw (ld_glob I hg hm ?_ hdb)
  refine PySem.W.callWith_K (h₀ := X.base) I.ok.mod.kin M.kp (thn (ha.run pos pins s σ H _ I h) fun us s1 ⟨vs, H1, I1, r, q⟩ => ⟨I1.kIn, ?_⟩) he hpl
  exact run_makeS M F hr hb (hx σ) I1 r q
end
section
variable {G : GM} {W : WX} {X : Cx} {io0 io : Io} {μ : Mu} {F0 H0 F H F1 H1 : Hp} {st : Ev} {σ : L2.St} {r : RO} {R : VK}
theorem mCF_all {c : Cc} {sc : Scope} {f : CF} {es : List E} {v : Expr} (m : mCF c sc f es v = true) : (∃ g w ws pos n, f = .fn n ∧ v = .Call g (w :: ws) [] pos ∧ isG sc g n = true ∧ mL c sc es (w :: ws) = true ∧ isOp n = false) ∨
    ∃ cl mn a rs o ap ws pos, f = .mt cl mn ∧ es = a :: rs ∧ v = .Call (.Attribute o mn ap) ws [] pos ∧ okRecv o = true ∧ (ap.endLine == pos.line) = true ∧ ws.length < 20 ∧ mE c sc a o = true ∧ mL c sc rs ws = true := by
  unfold mCF at m
  split at m <;> first | contradiction | skip
  · simp only [Bool.and_eq_true, Bool.not_eq_true'] at m
    exact .inl ⟨_, _, _, _, _, rfl, rfl, m.1.1, m.1.2, m.2⟩
  · simp only [Bool.and_eq_true, decide_eq_true_eq] at m
    obtain ⟨⟨⟨⟨⟨rfl, h1⟩, h4⟩, h5⟩, h2⟩, h3⟩ := m
    exact .inr ⟨_, _, _, _, _, _, _, _, rfl, rfl, rfl, h1, h4, h5, h2, h3⟩
theorem sndAll {G : GI} (es : List E) : SndAll G es := fun e _ => (sndE e).1
theorem sndC {f : CF} {es : List E} {v : Expr} (K : CKM0 G W X) (m : mCF (ccM G X) X.env.scope f es v = true) (S : StM G.K G.ca io0 F0 H0 io μ F H st σ) (ev : evC G.Φ G.Ψ f es st μ = some r) (P : PostR G.K G.ca G.ea io F H r R (WE W σ)) : SE X v σ H R := by
  have CKs := K.ck io μ
  unfold evC at ev
  rcases mCF_all m with ⟨g, w, ws, pos, n, rfl, rfl, hg, m1, hop⟩ | ⟨cl, mn, a, rs, o, ap, ws, pos, rfl, rfl, rfl, hrc, hln, hvl, m1, m2⟩
  · obtain ⟨p2, rfl, hgl, hpl⟩ := isG_name hg
    obtain ⟨h1, h2, h3⟩ := plain_all hpl
    split at ev
    · rename_i xs e1
      split at ev
      · rename_i nb
        obtain ⟨fa, fd, ps, k1, k2, k3, k4⟩ := K.fnM n μ _ _ hop ev
        refine se_of (pe_callS k4 CKs.room (glB_gl hgl) k1 k2 k3 (fun σ => passAt CKs.tk σ) pa_sa h1 (mL_star m1) (mL_tail m1)) ?_
        refine args_sa CKs es (w :: ws) (sndAll es) m1 F0 (cut io0 H0) F H st σ _ _ S.ok e1 fun vs H1 F1 g r' => ?_
        exact ⟨io, μ, F1, _, _, g.fh, S.ok.cel.mono g, r'.plain nb, ev, P.fwd S.ok.cel (S.ok.cel.mono g) (.of g) fun p e => g.hh.none e⟩
      · cases ev
    · cases ev
  · obtain ⟨pl, hev⟩ := recv_eval (m := mn) (apos := ap) (es := ws) (pos := pos) (env := X.env) hrc hln hvl (mL_allp rs ws m2)
    split at ev
    · rename_i xs e1
      split at ev
      · rename_i nb
        obtain ⟨k, d, ys, ea, e2, rfl⟩ := evL_cons e1
        obtain ⟨hrv, fa, fd, ps, hc, hm, hbd, F1⟩ := K.mtM _ _ _ _ _ ev
        obtain ⟨n, fs, rs', hd, hn, hl⟩ := rcvD_some hrv
        simp only [List.map_cons, List.cons.injEq] at hd
        obtain ⟨rfl, _⟩ := hd
        have nb2 : noBrw ys = true := by
          simp only [noBrw, List.all_cons, Bool.and_eq_true] at nb
          exact nb.2
        have fin : ∀ {p : Addr} {us : List V} {H2 F2 : Hp}, Gr F H F2 H2 → io n = some p → RVs (G.gi io μ) F2 H2 us ys → spM G.K G.ca G.ea (fun μ => G.Ψ μ (opName (.mth cl mn))) (.ref p :: us) H2 R (WE W σ) := fun {p us H2 F2} g hp r' =>
          ⟨io, μ, F2, _, _, g.fh, S.ok.cel.mono g, .cons (.ref hp) (r'.plain nb2), ev, P.fwd S.ok.cel (S.ok.cel.mono g) (.of g) fun p e => g.hh.none e⟩
        have sa : ∀ {p : Addr} {H1 F1 : Hp}, Gr F H F1 H1 → io n = some p → SA X ws σ H1 fun us H2 => spM G.K G.ca G.ea (fun μ => G.Ψ μ (opName (.mth cl mn))) (.ref p :: us) H2 R (WE W σ) := fun {p H1 F1} g1 hp => by
          refine args_sa CKs rs ws (sndAll rs) m2 F0 (cut io0 H0) F1 H1 st σ _ _ (S.ok.mono g1) e2 fun us H2 F2 g2 r' => ?_
          exact fin (g1.trans g2) hp r'
        have rcv : ∀ {T : TA}, (∀ p H1 F1, Gr F H F1 H1 → io n = some p → T σ H1 fun us H2 => spM G.K G.ca G.ea (fun μ => G.Ψ μ (opName (.mth cl mn))) (.ref p :: us) H2 R (WE W σ)) → tMethS (G.ca cl) mn (spM G.K G.ca G.ea fun μ => G.Ψ μ (opName (.mth cl mn))) (WE W) (SE X o) T σ H R := fun {T} hR => by
          refine (sndE a).1 X W o CKs m1 F0 (cut io0 H0) F H st σ _ _ S.ok ea fun v H1 F1 g1 r1 f1 => ?_
          obtain ⟨p, rfl, hp⟩ := RV.ref (G := G.gi io μ) r1 g1.fh
          obtain ⟨dx, gs, h1, h2, h3⟩ := obj_at (G := G.gi io μ) (S.ok.mono g1).cel hp hn
          have hno : gs.lookup mn = none := by
            rcases h3.look (f := mn) with ⟨v, d2, l1, l2, l3⟩ | ⟨l1, _⟩
            · rw [hl] at l2; cases l2
            · exact l1
          exact ⟨p, dx, gs, rfl, h1, hno, hR p H1 F1 g1 hp⟩
        cases ws with
        | nil =>
          cases mL_nil_r m2
          refine se_of (pe_methSl0 (pl := pl) pe_se hc hm F1 CKs.room hbd (fun σ => passAt CKs.tk σ) hev) ?_
          refine rcv fun p H1 F1' g1 hp => ?_
          cases evL_nil e2
          exact fin g1 hp .nil
        | cons w ws0 =>
          refine se_of (pe_methSl (pl := pl) pe_se hc hm F1 CKs.room hbd (fun σ => passAt CKs.tk σ) pa_sa (mL_star m2) (mL_tail m2) hev) ?_
          exact rcv fun p H1 F1' g1 hp => sa g1 hp
      · cases ev
    · cases ev
theorem mNew_all {c : Cc} {sc : Scope} {x : Str} {es : List E} {v : Expr} (m : mNew c sc x es v = true) : ∃ g w ws pos, v = .Call g (w :: ws) [] pos ∧ isG sc g x = true ∧ mL c sc es (w :: ws) = true := by
  unfold mNew at m
  split at m <;> first | contradiction | skip
  simp only [Bool.and_eq_true] at m
  exact ⟨_, _, _, _, rfl, m.1, m.2⟩
theorem sndN {x : Str} {es : List E} {v : Expr} (K : CKM0 G W X) (m : mNew (ccM G X) X.env.scope x es v = true) (S : StM G.K G.ca io0 F0 H0 io μ F H st σ) (ev : evNew G.Φ G.Ψi x es st μ = some r) (P : PostR G.K G.ca G.ea io F H r R (WE W σ)) : SE X v σ H R := by
  have CKs := K.ck io μ
  unfold evNew at ev
  obtain ⟨g, w, ws, pos, rfl, hg, m1⟩ := mNew_all m
  obtain ⟨p2, rfl, hgl, hpl⟩ := isG_name hg
  obtain ⟨h1, h2, h3⟩ := plain_all hpl
  split at ev
  · rename_i xs e1
    split at ev
    · rename_i nb
      split at ev
      · rename_i μ' e2
        cases ev
        obtain ⟨j, fa, fd, ps, hk, k1, k2, k3, k4⟩ := K.newM x _ _ _ e2
        have hr : Room (j + 1) X.A := by rw [← hk]; exact CKs.room
        refine se_of (pe_makeS k2 k4 hr (glB_gl hgl) k1 k3 (fun σ => passAt CKs.tk σ) pa_sa h1 (mL_star m1) (mL_tail m1)) ?_
        refine args_sa CKs es (w :: ws) (sndAll es) m1 F0 (cut io0 H0) F H st σ _ _ S.ok e1 fun vs H1 F1 g r' => ?_
        intro y dx ny nd ne
        have n2 : upd H1 dx (.own y) y = none := by rw [upd_ne (Ne.symm ne)]; exact ny
        have ga := Gr.lay g.fh nd (.own y)
        have gb := Gr.lay ga.fh n2 (.ins (G.ca x) dx [])
        have g2 : Gr F1 H1 F1 _ := ga.trans gb
        have g3 : Gr F H F1 _ := g.trans g2
        have hm0 := S.ok.cel
        have ha : CellAt ⟨G.K, addI io μ.length y, μ, G.ca⟩ F1 (upd (upd H1 dx (.own y)) y (.ins (G.ca x) dx [])) y (.obj x []) := ⟨dx, [], upd_same, by rw [upd_ne ne, upd_same], .nil⟩
        have hy : H y = none := g.hh.none ny
        have hm3 := hm_add (κ := ⟨G.K, io, μ, G.ca⟩) hm0 g3 (a := y) (c := .obj x []) hy (g.fh.none ny) ha
        have gm3 := grm_add (κ := ⟨G.K, io, μ, G.ca⟩) hm0 g3 (a := y) hy
        have le : LeI io (addI io μ.length y) := addI_le hm0.io_none
        refine ⟨addI io μ.length y, μ ++ [.obj x []], F1, _, _, g2.fh, hm3, .cons (.ref addI_self) (Rps.up (κ := ⟨G.K, io, μ, G.ca⟩) (κ' := ⟨G.K, addI io μ.length y, μ ++ [.obj x []], G.ca⟩) rfl le (r'.plain nb)), e2, ?_⟩
        intro v H' F' io' g' hm' rv _ _
        refine ⟨?_, P (.ref y) H' F' io' (gm3.trans hm0 hm3 g') hm' (show Rp _ _ _ _ from .ref (g'.ii _ _ addI_self)) (fun e => nomatch e) fun e => nomatch e⟩
        cases (show Rp _ _ v .none from rv)
        rfl
      · cases ev
    · cases ev
  · cases ev
theorem sndEM {e : EM} {v : Expr} (K : CKM0 G W X) (m : mEM (ccM G X) X.env.scope e v = true) (S : StM G.K G.ca io0 F0 H0 io μ F H st σ) (ev : evEM G.Φ G.Ψ G.Ψi e st μ = some r) (P : PostR G.K G.ca G.ea io F H r R (WE W σ)) : SE X v σ H R := by
  cases e with
  | call f es => exact sndC K m S ev P
  | new c es => exact sndN K m S ev P
/-- such an expression is a call -/
theorem mEM_call {c : Cc} {sc : Scope} {e : EM} {v : Expr} (m : mEM c sc e v = true) : ∃ f as ks pos, v = .Call f as ks pos := by
  cases e with
  | call f es =>
    rcases mCF_all m with ⟨g, w, ws, pos, n, _, rfl, _⟩ | ⟨cl, mn, a, rs, o, ap, ws, pos, _, _, rfl, _⟩
    · exact ⟨_, _, _, _, rfl⟩
    · exact ⟨_, _, _, _, rfl⟩
  | new x es =>
    obtain ⟨g, w, ws, pos, rfl, _⟩ := mNew_all m
    exact ⟨_, _, _, _, rfl⟩
end
end Dv

/-! Dm, part U: an own error with a field (turned from the worked proof 42_own_error_by_import). -/
namespace PySem
namespace UnsX
open PySem.W PySem.Calls PyProof.Rows PySem.HandSPX
/-! ### the text of __init__ -/
def iA (p1 p2 : Pos) : Arguments := { posonlyargs := [], args := [{ arg := "self", annotation := none, pos := p1 }, { arg := "shown", annotation := none, pos := p2 }], vararg := none, kwonlyargs := [], kw_defaults := [], kwarg := none, defaults := [] }
def iB (q1 q2 q3 q4 : Pos) : List Stmt := [.Assign [.Attribute (.Name "self" q1) "shown" q2] (.Name "shown" q3) q4]
def iS : Scope := { kind := .function, names := [(PySem.Str.ofString "self", .local), (PySem.Str.ofString "shown", .local)], isGenerator := false, isCoroutine := false, more := [] }
/-- what the written part says of Low, at C, and of its __init__, at fI -/
structure UnsTxt (K : Frag) (mg : Str → Option Value) (C fI : Addr) : Prop where
  gC : mg "Unsafe" = some (.ref C)
  cls : ∃ nm q N bs bm sn sub ab col dd k0 k1 k2 k3 k5, K.lookup C = some (excClassObj nm q C N bs bm true sn sub ab col dd k0 k1 k2 k3 k5 "ValueError.__new__") ∧ refsVE bm = true
  sa : findIn K (.ref C) "__setattr__" = some (some (.builtin "object.__setattr__"))
  ga : findIn K (.ref C) "__getattribute__" = some (some (.builtin "BaseException.__getattribute__"))
  gg : findIn K (.ref C) "__getattr__" = some none
  noN : findIn K (.ref C) "shown" = some none
  iC : findIn K (.ref C) "__init__" = some (some (.ref fI))
  tC : typeIn K (.ref fI) = some (.type "function")
  kC : keepIn K (.ref C) = true
  exC : subIn K (.ref C) (.type "BaseException") = some true
  tyC : typeIn K (.ref C) = some (.type "type")
  hdC : hasDictIn K C = true
  te : exmOne K (.ref C) (.ref C) = some true
  fn : ∃ (oc : Value) (od : Option Addr) (doc pm : Value) (an : Option Addr) (cdv ct : Value) (osl : Array (Option Value)) (p1 p2 q1 q2 q3 q4 : Pos),
    K.lookup fI = some ⟨oc, od, .func (fnOf "__init__" "Unsafe.__init__" (iA p1 p2) (iB q1 q2 q3 q4) iS .none .none doc pm an cdv ct), osl⟩ ∧ codeIn K cdv "Unsafe.__init__" = true
theorem one_size (v : Value) : [v].length ≤ sizeLine := by
  rw [sizeLine_eq]
  exact (by decide : 1 ≤ 16777216)
theorem kept_but {K : Frag} {h h' : Heap} {x : Addr} (X : K.In h) (hx : K.lookup x = none) (k : ∀ b o, b ≠ x → h.get? b = some o → h'.get? b = some o) : K.In h' := fun a o e =>
  k a o (fun z => by rw [z, hx] at e; cases e) (X a o e)
theorem ldC {M : Model} {s : Shared} {name : Str} {scope : Scope} {L a : Addr} {cd : Value} {m : Str → Option Value} {x : Str} {pos : Pos} {v : Value} {Q : Value → Shared → Prop} {A : Around} {E : Value → Shared → Prop} (hn : s.heap.Ns L m) (hv : m x = some v) (h : Q v s)
    (hk : scope.kind = .function := by rfl) (hl : (envOfC name scope L a cd).kindOf x = some .local := by rfl) (hd : (x == ("__debug__" : Str)) = false := by decide) :
    wpAny M A (eval (.Name x pos) (envOfC name scope L a cd)) Q E s := wpAny_Name (wpAny_loadName_local hk hl hn hv h) hd
/-- what __init__ leaves of a fresh exception at x -/
structure InitEnd (h h' : Heap) (x C dx t1 : Addr) (v : Value) : Prop where
  keep : ∀ b o, b ≠ x → h.get? b = some o → h'.get? b = some o
  obj : h'.get? x = some { cls := .ref C, dict := some dx, data := .fields #[.ref t1, .none, .none, .none, .bool false, .none] }
  dbig : h.objs.size ≤ dx
  dne : dx ≠ x
  ns : h'.Ns1 dx (fun y => if y = "shown" then some v else none)
/-- a made Unsafe -/
structure OwnMade (h h' : Heap) (e C d : Addr) (v : Value) : Prop where
  keep : ∀ b o, h.get? b = some o → h'.get? b = some o
  new : h.objs.size ≤ e
  obj : ∃ oe vs, h'.get? e = some oe ∧ oe.cls = .ref C ∧ oe.dict = some d ∧ oe.data = .fields vs ∧ vs[1]? = some .none
  dbig : h.objs.size ≤ d
  dne : d ≠ e
  ns : h'.Ns1 d (fun y => if y = "shown" then some v else none)
section
variable {prog : Program} {w : World} {A : Around} {E : Value → Shared → Prop} {R : Result → Shared → Prop} {s : Shared} {K : Frag} {mg : Str → Option Value} {C fI : Addr}
theorem uns_init (T : UnsTxt K mg C fI) {x t0 : Addr} {v : Value} (X : K.In s.heap) (hlim : s.heap.NoLimit) (hx : s.heap.get? x = some (excO C t0)) (hnx : K.lookup x = none) (hroom : A.depth < recursionLimit)
    (hq : ∀ h' tk dx, InitEnd s.heap h' x C dx t0 v → R (.ok (.ret .none)) { s with heap := h', toks := tk }) :
    codeAny (model prog w) A (.call (.ref fI) ⟨[.ref x, v], []⟩) R s := by
  obtain ⟨oc, od, doc, pm, an, cdv, ct, osl, p1, p2, q1, q2, q3, q4, ho, hcd⟩ := T.fn
  obtain ⟨nm, q, N, bs, bm, sn, sub, ab, col, dd, k0, k1, k2, k3, k5, hC, hbm⟩ := T.cls
  have hcl : clsIn K C = some { name := nm, bases := bs, mro := .ref C :: bm, ns := N, qualname := q, hasDict := true, slotNames := sn, subclasses := sub, abstract := ab, collection := col, hasDel := false } := by unfold clsIn; rw [hC] <;> rfl
  refine Att.call_fn (binds := [("self", .ref x), ("shown", v)]) X hlim ho hcd hroom (BindsTo.of_eq (by first | rfl | with_unfolding_all rfl)) (by first | rfl | decide | with_unfolding_all rfl) (fun s₁ IC => ?_) rfl rfl rfl
  obtain ⟨h₁, tk₁, rfl⟩ := IC.toInCall.same
  have k : ∀ b o, s.heap.get? b = some o → h₁.get? b = some o := IC.toInCall.keep
  have hn := IC.toInCall.ns
  have hxL : s.heap.objs.size ≠ x := Nat.ne_of_gt (Heap.lt_size hx)
  have X₁ : K.In h₁ := X.keeps k
  have hx₁ := k _ _ hx
  -- self.by = by
  show wpAny _ _ (execs _ _) _ _ _
  refine wpAny_execs_cons (plainObj_wpAny_Assign_Attribute ?_)
  refine ldC (v := v) hn (by first | rfl | with_unfolding_all rfl | kernel_rfl) (ldC (v := .ref x) hn (by first | rfl | with_unfolding_all rfl | kernel_rfl) ?_)
  refine set_plain X₁ (ox := excO C t0) (od := none) ⟨hx₁, rfl, rfl, trivial⟩ T.sa ?_
  refine exc_osa X₁ hx₁ hcl (show refsVE (.ref C :: bm) = true from hbm) rfl T.noN (fun h₃ tk₃ dx k₃ dn dne hx₃ hn₃ => ?_)
  show wpAny _ _ (execs _ _) _ _ _
  have z : s.heap.objs.size < h₁.objs.size := hn.lt
  exact wpAny_execs_nil (hq h₃ tk₃ dx ⟨fun b o hb e => k₃ b o hb (k b o e), hx₃, Nat.le_of_lt (Nat.lt_of_lt_of_le z dn), dne, hn₃⟩)
theorem uns_made (T : UnsTxt K mg C fI) {v : Value} (X : K.In s.heap) (hlim : s.heap.NoLimit) (hroom : A.depth + 1 < recursionLimit)
    (hq : ∀ h' tk e d, OwnMade s.heap h' e C d v → R (.ok (.ret (.ref e))) { s with heap := h', toks := tk }) :
    codeAny (model prog w) A (.call (.ref C) ⟨[v], []⟩) R s := by
  obtain ⟨nm, q, N, bs, bm, sn, sub, ab, col, dd, k0, k1, k2, k3, k5, hC, hbm⟩ := T.cls
  obtain ⟨hp, g, dr, tk, os⟩ := s
  have k : ∀ b o, hp.get? b = some o → ((hp.push (kdv_tup [v])).push (excO C hp.objs.size)).get? b = some o := fun b o e => Heap.get?_push_of_some _ (Heap.get?_push_of_some _ e)
  have hget : ((hp.push (kdv_tup [v])).push (excO C hp.objs.size)).get? (hp.objs.size + 1) = some (excO C hp.objs.size) := by heap_get
  have hnx : K.lookup (hp.objs.size + 1) = none := by
    cases e : K.lookup (hp.objs.size + 1) with
    | none => rfl
    | some o =>
      have z : hp.get? (hp.objs.size + 1) = some o := X _ _ e
      exact absurd (Nat.lt_of_succ_lt (Heap.lt_size z)) (Nat.lt_irrefl _)
  refine call_own F.excBase_ValueError (fun X => refsVE_contains X bm hbm) (X _ _ hC) (looks_findIn X T.iC) (fun self => bind_fn X self T.tC) (one_size v) ?_
  refine uns_init (s := ⟨(hp.push (kdv_tup [v])).push (excO C hp.objs.size), g, dr, tk, os⟩) T (X.keeps k) (hlim.keeps k) hget hnx ?_ fun h' tk' dx ⟨k', hx, dn, dne, hns⟩ => ?_
  · show A.depth + 1 < recursionLimit
    exact hroom
  · have old : ∀ b o, hp.get? b = some o → h'.get? b = some o := fun b o e => k' b o (Nat.ne_of_lt (Nat.lt_succ_of_lt (Heap.lt_size e))) (k b o e)
    have z : hp.objs.size + 1 + 1 ≤ dx := by
      first
        | (simpa only [Heap.size_push] using dn)
        | exact dn
        | (have q := dn; rw [Heap.size_push, Heap.size_push] at q; exact q)
    exact ⟨rfl, hq h' tk' (hp.objs.size + 1) dx ⟨old, Nat.le_succ _, ⟨_, _, hx, rfl, rfl, rfl, rfl⟩, Nat.le_trans (Nat.le_trans (Nat.le_succ _) (Nat.le_succ _)) z, dne, hns⟩⟩
end
end UnsX
end PySem
namespace L2
open PySem PySem.Spec PyProof.Rows
theorem relO_uns {v : V} {v' : Value} (r : RelV v v') (f : Str) : RelO (List.lookup f [(("shown" : Str), v)]) (if f = "shown" then some v' else none) := by
  by_cases hw : f = "shown"
  · subst hw
    rw [if_pos rfl]
    have q : List.lookup ("shown" : Str) [(("shown" : Str), v)] = some v := by simp [List.lookup]
    rw [q]
    exact r
  · rw [if_neg hw]
    have qw : (f == ("shown" : Str)) = false := by simpa using hw
    have q2 : List.lookup f [(("shown" : Str), v)] = none := by simp [List.lookup, qw]
    rw [q2]
    trivial
section
variable {X : Cx} {C fI : Addr}
/-- Unsafe(e) -/
def tMkUns (C : Addr) (ta : TA) : St → Hp → XK → Prop := fun σ H Q => ta σ H fun vs H1 => ∃ v, vs = [v] ∧ ∀ d, H1 d = none → Q (.ref C) (some d) (upd H1 d (.xd [(("shown" : Str), v)]))
theorem pmk_uns {a : Expr} {ta : TA} {p pos : Pos} {k : Nat} (T : PySem.UnsX.UnsTxt X.K X.mg C fI) (hr : Room k X.A) (ha : PA X [a] ta) (hg : Gl X "Unsafe" := by rfl)
    (he : starEach (a :: []) X.env = (false, eval a X.env) :: starEach [] X.env := by rfl) (hpl : (backTo pos (starEach [] X.env)).any (·.1) = false := by rfl) :
    PMk X (.Call (.Name "Unsafe" p) [a] [] pos) (tMkUns C ta) := by
  intro pins s σ H Q I h
  refine wpAny_Call_Name_kw (ld_glob I hg T.gC ?_)
  refine PySem.W.callWith_K (h₀ := X.base) I.ok.mod.kin T.kC (thn (ha.run pos pins s σ H _ I h) fun us s1 hh => ?_) he hpl
  obtain ⟨vs, H1, I1, r1, v, ev, q1⟩ := hh
  subst ev
  refine ⟨I1.kIn, ?_⟩
  cases r1 with
  | cons rv rn =>
    rename_i v' us'
    cases rn
    show wpAny _ _ (call (.ref C) [v']) _ _ _
    have hlim := I1.nolimit
    obtain ⟨hp, g, dr, tk, os⟩ := s1
    refine wpAny_call (PySem.UnsX.uns_made T I1.kIn hlim (by have := hr.dp; omega) fun h' tk' e d M => ?_)
    show MkP X pins σ Q (.ref e) ⟨h', g, dr, tk', os⟩
    obtain ⟨oe, fv, hoe, hc, hd, hdat, h1⟩ := M.obj
    have hns := M.ns
    obtain ⟨G', g1, g2⟩ := restrict h' fun b => decide (b ≠ e)
    have gk : ∀ b, b ≠ e → G'.get? b = h'.get? b := fun b hb => g1 b (decide_eq_true hb)
    have ge : G'.get? e = none := g2 e (by simp)
    have old : ∀ b o, hp.get? b = some o → G'.get? b = some o := fun b o q => (gk b (Nat.ne_of_lt (Nat.lt_of_lt_of_le (Heap.lt_size q) M.new))).trans (M.keep b o q)
    have ob : ObjOk X.prog X.w (upd H1 d (.xd [(("shown" : Str), v)])) G' d (.xd [(("shown" : Str), v)]) :=
      ⟨_, hns.at (fun o q => (gk d M.dne).trans q), fun f => relO_uns rv f⟩
    have J : Inv X pins σ (upd H1 d (.xd [(("shown" : Str), v)])) ⟨G', g, dr, tk', os⟩ := I1.laid (t' := tk') old M.dbig ob
    refine ⟨e, oe, fv, ⟨G', g, dr, tk', os⟩, _, .ref C, some d, rfl, J, fun b o q => ?_, ge, hoe, ⟨hc, hd⟩, hdat, h1, ?_, rfl, I1.bare, raises_own T.exC T.tyC, q1 d (I1.hok.fresh M.dbig)⟩
    · by_cases hb : b = e
      · have q' : G'.get? b = some o := q
        rw [hb, ge] at q'; cases q'
      · exact (gk b hb).symm.trans q
    · rw [upd_ne (Ne.symm M.dne)]
      exact I1.hok.fresh M.new
/-- raise Unsafe(e) -/
def tRaiseUns (C : Addr) (W : WX) (ta : TA) : TS := fun _ σ H => tMkUns C ta σ H fun cls d H' => W cls d σ H'
theorem ps_raiseUns {a : Expr} {ta : TA} {W : WX} {p pos pos2 : Pos} {k : Nat} (hc : X.calm = true) (T : PySem.UnsX.UnsTxt X.K X.mg C fI) (hr : Room k X.A) (tk : Takes X W) (ha : PA X [a] ta) (hg : Gl X "Unsafe" := by rfl)
    (he : starEach (a :: []) X.env = (false, eval a X.env) :: starEach [] X.env := by rfl) (hpl : (backTo pos (starEach [] X.env)).any (·.1) = false := by rfl) :
    PS X (.Raise (some (.Call (.Name "Unsafe" p) [a] [] pos)) none pos2) (tRaiseUns C W ta) := ps_raise hc tk (pmk_uns T hr ha hg he hpl)
/-- low.by, low the exception that the suite holds (at a; its class cls, its dict d) -/
def tShown (C : Addr) (a : Addr) (cls : Value) (d : Option Addr) (te : TE) : TE := fun σ H Q => te σ H fun x H1 => x = .ref a ∧ cls = .ref C ∧ ∃ (dd : Addr) (v : V), d = some dd ∧ H1 dd = some (.xd [(("shown" : Str), v)]) ∧ Q v H1
theorem pe_shown {a : Addr} {oe : Obj} {cls : Value} {d : Option Addr} {pn : List (Addr × Obj)} {e : Expr} {te : TE} {pos : Pos} (T : PySem.UnsX.UnsTxt X.K X.mg C fI) (hz : Zc cls d oe) (hf : ∃ vs, oe.data = .fields vs) (he : PE (X.suite a ((a, oe) :: pn)) e te)
    (hb : attributeBase e "shown" X.env (eval e X.env) = eval e X.env := by rfl) :
    PE (X.suite a ((a, oe) :: pn)) (.Attribute e "shown" pos) (tShown C a cls d te) := by
  refine ⟨fun pins s σ H Q I h => ?_⟩
  refine attr_of hb (thn (he.run pins s σ H _ I h) fun u s1 hh => ?_)
  obtain ⟨x, H1, I1, rx, ex, ec, dd, v, ed, ea, q⟩ := hh
  subst ex
  obtain rfl : u = Value.ref a := rx
  subst ec
  subst ed
  obtain ⟨ha, _⟩ := I1.pin (a, oe) (List.mem_append_left _ List.mem_cons_self)
  obtain ⟨vs, hd⟩ := hf
  have hx : ObjOk X.prog X.w H1 s1.heap dd (.xd [(("shown" : Str), v)]) := I1.hok dd _ ea
  obtain ⟨mA, hns, hr⟩ := hx
  obtain ⟨od, ho, hl⟩ := lookIn_ns hns
  have l : List.lookup ("shown" : Str) [(("shown" : Str), v)] = some v := by simp [List.lookup]
  obtain ⟨u, hu, ru⟩ := RelO.some_of (v := v) (o := mA "shown") (by rw [← l]; exact hr "shown")
  have J : PySem.W.InstAt s1.heap a oe C (some od) := ⟨ha, hz.1, by unfold PySem.W.notCls; rw [hd] <;> rfl, by rw [hz.2]; exact ho⟩
  exact HandSPX.exc_get I1.kIn J T.ga T.gg T.exC (PySem.W.findObj_own T.hdC T.noN rfl (by rw [hl, hu])) (handed_of ru) ⟨v, H1, I1.tok _, ru, q⟩
end
end L2


/-! Dm, part F: statements that change cells. -/
namespace Dv
open PySem PySem.Spec PyProof.Rows L2

structure CKM (G : GM) (es : List Str) (W : WX) (X : Cx) : Prop extends CKM0 G W X where
  cks : ∀ io μ, CKS (G.gi io μ) es W X
  uns : ∃ fI, PySem.UnsX.UnsTxt X.K X.mg (G.ea "Unsafe") fI
def PostM (G : GM) (W : WX) (io0 : Io) (F0 H0 : Hp) (io : Io) (F : Hp) (r : MO) (Z : Ends) : Prop :=
  match r with
  | .nx st μ => ∀ σ' H' F' io', StM G.K G.ca io0 F0 H0 io' μ F' H' st σ' → Sub F F' → LeI io io' → Z.nx σ' H'
  | .rt k d μ => ∀ v H' F' io', GrM io0 F0 H0 io' F' H' → HM (G.km io' μ) F' H' → RV (G.km io' μ) F' H' k d v → Fresh H0 k v → NF (G.km io' μ) k v → Z.rt v H'
  | .ex c μ => ∀ σ' H' F' io', GrM io0 F0 H0 io' F' H' → HM (G.km io' μ) F' H' → W (.ref (G.ea c)) none σ' H'
  | .exU d μ => ∀ σ' H' F' io' dd v, GrM io0 F0 H0 io' F' H' → HM (G.km io' μ) F' H' → Rp (G.km io' μ) F' v d → H' dd = some (.xd [(("shown" : Str), v)]) → W (.ref (G.ea "Unsafe")) (some dd) σ' H'
def SndM (G : GM) (fu : Nat) (s : M) : Prop := ∀ (X : Cx) (es : List Str) (W : WX) (sx : Stmt), CKM G es W X → (∀ c ∈ raisesM s, c ∈ es) → mM (ccM G X) X.env.scope s sx = true →
  ∀ (io0 : Io) (F0 H0 : Hp) (io : Io) (μ : Mu) (F H : Hp) (st : Ev) (σ : L2.St) (r : MO) (Z : Ends), StM G.K G.ca io0 F0 H0 io μ F H st σ → evM G.fl G.Φ G.Ψ G.Ψi fu s st μ = some r → PostM G W io0 F0 H0 io F r Z → SS X sx Z σ H
def SndMs (G : GM) (fu : Nat) (ss : List M) : Prop := ∀ (X : Cx) (es : List Str) (W : WX) (sx : List Stmt), CKM G es W X → (∀ c ∈ raisesMs ss, c ∈ es) → mMs (ccM G X) X.env.scope ss sx = true →
  ∀ (io0 : Io) (F0 H0 : Hp) (io : Io) (μ : Mu) (F H : Hp) (st : Ev) (σ : L2.St) (r : MO) (Z : Ends), StM G.K G.ca io0 F0 H0 io μ F H st σ → evMs G.fl G.Φ G.Ψ G.Ψi fu ss st μ = some r → PostM G W io0 F0 H0 io F r Z → SSs X sx Z σ H
section
variable {G : GM} {fu : Nat} {es : List Str} {W : WX} {X : Cx} {io0 io io1 : Io} {μ μ1 : Mu} {F0 H0 F H F1 H1 : Hp} {st : Ev} {σ : L2.St} {r : MO} {Z : Ends}
theorem PostM.sub (P : PostM G W io0 F0 H0 io F r Z) (s : Sub F F1) (i : LeI io io1) : PostM G W io0 F0 H0 io1 F1 r Z := by
  cases r with
  | nx st μ => exact fun σ' H' F' io' S z y => P σ' H' F' io' S (s.trans z) (i.trans y)
  | rt k d μ => exact P
  | ex c μ => exact P
  | exU d μ => exact P
theorem onVM_some {q : Option EO} {f : Kd → D → Option MO} (h : onVM q μ f = some r) : (∃ k d, q = some (.ok k d) ∧ f k d = some r) ∨ ∃ c, q = some (.ex c) ∧ r = .ex c μ := by
  unfold onVM at h
  split at h
  · exact .inl ⟨_, _, rfl, h⟩
  · cases h; exact .inr ⟨_, rfl, rfl⟩
  · cases h
theorem onBM_some {q : Option EO} {f : Bool → Option MO} (h : onBM q μ f = some r) : (∃ b, q = some (.ok .shr (.bool b)) ∧ f b = some r) ∨ ∃ c, q = some (.ex c) ∧ r = .ex c μ := by
  unfold onBM at h
  split at h
  · exact .inl ⟨_, rfl, h⟩
  · cases h; exact .inr ⟨_, rfl, rfl⟩
  · cases h
theorem onR_some {q : Option RO} {f : Kd → D → Mu → Option MO} (h : onR q f = some r) : (∃ k d μ, q = some (.ok k d μ) ∧ f k d μ = some r) ∨ (∃ c μ, q = some (.ex c μ) ∧ r = .ex c μ) ∨ ∃ d μ, q = some (.exU d μ) ∧ r = .exU d μ := by
  unfold onR at h
  split at h
  · exact .inl ⟨_, _, _, rfl, h⟩
  · cases h; exact .inr (.inl ⟨_, _, rfl, rfl⟩)
  · cases h; exact .inr (.inr ⟨_, _, rfl, rfl⟩)
  · cases h
theorem exM_ok {c : Str} (P : PostM G W io0 F0 H0 io F (.ex c μ) Z) (S : StM G.K G.ca io0 F0 H0 io μ F H st σ) {Q : VK} : PostE (G.gi io μ) W σ F H (.ex c) Q := fun H' s =>
  P σ H' F io (S.mono (gr_same S.ok.fh s)).exit (S.ok.cel.mono (gr_same S.ok.fh s))
theorem exM_okT {c : Str} (P : PostM G W io0 F0 H0 io F (.ex c μ) Z) (S : StM G.K G.ca io0 F0 H0 io μ F H st σ) {Q : Bool → Hp → Prop} : PostT (G.gi io μ) W σ F H (.ex c) Q := fun H' s =>
  P σ H' F io (S.mono (gr_same S.ok.fh s)).exit (S.ok.cel.mono (gr_same S.ok.fh s))
/-- one value, then what follows -/
theorem oneM {a : E} {e : Expr} (K : CKM G es W X) (m : mE (ccM G X) X.env.scope a e = true) (S : StM G.K G.ca io0 F0 H0 io μ F H st σ) {g : Kd → D → Option MO} (ev : onVM (evE (G.Φ μ) a st) μ g = some r) (P : PostM G W io0 F0 H0 io F r Z)
    {R : VK} (hk : ∀ k x v H1 F1, evE (G.Φ μ) a st = some (.ok k x) → g k x = some r → Gr F H F1 H1 → StM G.K G.ca io0 F0 H0 io μ F1 H1 st σ → RV (G.km io μ) F1 H1 k x v → Fresh H k v → R v H1) : SE X e σ H R := by
  rcases onVM_some ev with ⟨k, d, e1, e2⟩ | ⟨c, e1, rfl⟩
  · exact (sndE a).1 X W e (K.ck io μ) m F0 (cut io0 H0) F H st σ _ _ S.ok e1 fun v H1 F1 g1 r1 f1 => hk k d v H1 F1 e1 e2 g1 (S.mono g1) r1 f1
  · exact (sndE a).1 X W e (K.ck io μ) m F0 (cut io0 H0) F H st σ _ _ S.ok e1 (exM_ok P S)
theorem fresh_cut {k : Kd} {v : V} (f : Fresh (cut io0 H0) k v) (nf : NF (G.km io μ) k v) (ii : LeI io0 io) : Fresh H0 k v := fun e p q => by
  rcases cut_none (f e p q) with z | ⟨n, z⟩
  · exact z
  · exact absurd (ii n p z) (nf e p q n)
/-- a statement that changes no cell -/
theorem liftP {q : SO} (S : StM G.K G.ca io0 F0 H0 io μ F H st σ) (e : liftS (some q) μ = some r) (P : PostM G W io0 F0 H0 io F r Z) : PostS (G.gi io μ) W F0 (cut io0 H0) F q Z := by
  cases q with
  | nx st' => cases e; exact fun σ' H' F' S' s => P σ' H' F' io ⟨S', S.ii, S.ni⟩ s (LeI.refl io)
  | rt k d => cases e; exact fun v H' F' g hm rv f nf => P v H' F' io (exit_gr g hm S.ii S.ni) hm rv (fresh_cut (G := G) (μ := μ) f nf S.ii) nf
  | ex c => cases e; exact fun σ' H' F' g hm => P σ' H' F' io (exit_gr g hm S.ii S.ni) hm
theorem liftS_some {q : Option SO} (e : liftS q μ = some r) : ∃ q', q = some q' := by
  cases q with
  | none => cases e
  | some q' => exact ⟨_, rfl⟩
theorem snm_p {s : S} (hf : isFrz s = false) : SndM G fu (.p s) := by
  intro X es W sx K hr m io0 F0 H0 io μ F H st σ r Z S ev P
  rw [mM] at m
  rw [evM] at ev
  obtain ⟨q, e1⟩ := liftS_some ev
  rw [e1] at ev
  exact sndS s X es W sx (K.cks io μ) hr m F0 (cut io0 H0) F H st σ q Z S.ok e1 (liftP S ev P)
theorem snm_ite {d : E} {a b : List M} (ha : SndMs G fu a) (hb : SndMs G fu b) : SndM G fu (.ite d a b) := by
  intro X es W sx K hr m io0 F0 H0 io μ F H st σ r Z S ev P
  unfold mM at m
  split at m <;> first | contradiction | skip
  rename_i h
  cases h
  simp only [Bool.and_eq_true] at m
  obtain ⟨⟨m1, m2⟩, m3⟩ := m
  rw [raisesM] at hr
  obtain ⟨hr1, hr2⟩ := mem_l hr
  refine ss_of (ps_if pt_st pss_sss pss_sss) ?_
  rw [evM] at ev
  rcases onBM_some ev with ⟨b, e1, e2⟩ | ⟨c, e1, rfl⟩
  · refine (sndE d).2 X W _ (K.ck io μ) m1 F0 (cut io0 H0) F H st σ _ _ S.ok e1 fun H1 F1 g1 => ?_
    cases b with
    | true =>
      rw [if_pos rfl] at e2 ⊢
      exact ha X es W _ K hr1 m2 io0 F0 H0 io μ F1 H1 st σ r Z (S.mono g1) e2 (P.sub g1.ff (LeI.refl io))
    | false =>
      rw [if_neg Bool.false_ne_true] at e2 ⊢
      exact hb X es W _ K hr2 m3 io0 F0 H0 io μ F1 H1 st σ r Z (S.mono g1) e2 (P.sub g1.ff (LeI.refl io))
  · exact (sndE d).2 X W _ (K.ck io μ) m1 F0 (cut io0 H0) F H st σ _ _ S.ok e1 (exM_okT P S)
/-- ahead of a turn -/
def FIM (G : GM) (io0 : Io) (F0 H0 F1 : Hp) (io1 : Io) (f : D → Ev → Mu → Option MO) (r : MO) (rest : List D) (σ : L2.St) (H : Hp) : Prop :=
  ∃ st μ F io, StM G.K G.ca io0 F0 H0 io μ F H st σ ∧ Sub F1 F ∧ LeI io1 io ∧ goM f rest st μ = some r
theorem turnM {f : D → Ev → Mu → Option MO} {d : D} {rest : List D} {N : L2.St → Hp → Prop} (P : PostM G W io0 F0 H0 io1 F1 r Z) (s : Sub F1 F) (i : LeI io1 io) (e : goM f (d :: rest) st μ = some r)
    (hN : ∀ σ H, FIM G io0 F0 H0 F1 io1 f r rest σ H → N σ H) : ∃ q, f d st μ = some q ∧ PostM G W io0 F0 H0 io F q { Z with nx := N, ct := N, bk := Z.nx } := by
  rw [goM] at e
  unfold thenM at e
  split at e
  · rename_i st' μ' h
    exact ⟨_, h, fun σ' H' F' io' S' z y => hN σ' H' ⟨st', μ', F', io', S', s.trans z, i.trans y, e⟩⟩
  · rename_i h
    cases q : f d st μ with
    | none => rw [q] at e; cases e
    | some q' =>
      rw [q] at e
      cases e
      refine ⟨_, rfl, ?_⟩
      cases r with
      | nx st' μ' => exact absurd q (h st' μ')
      | rt k d μ' => exact P
      | ex c μ' => exact P
      | exU d μ' => exact P
theorem StM.setS (S : StM G.K G.ca io0 F0 H0 io μ F H st σ) (i : Nat) {v : V} {d : D} (r : Rp (G.km io μ) F v d) : StM G.K G.ca io0 F0 H0 io μ F H (st.set i (some (false, d))) (σ.set i (some v)) := ⟨S.ok.setS i r, S.ii, S.ni⟩
theorem snm_forR {i : Nat} {n : E} {b : List M} (hb : SndMs G fu b) : SndM G fu (.forR i n b) := by
  intro X es W sx K hr m io0 F0 H0 io μ F H st σ r Z S ev P
  unfold mM at m
  split at m <;> first | contradiction | skip
  rename_i h
  cases h
  simp only [Bool.and_eq_true] at m
  obtain ⟨⟨⟨hw, hg⟩, m1⟩, m2⟩ := m
  obtain ⟨hN, hl⟩ := wrB_all hw
  obtain ⟨p3, rfl, hgl, hpl⟩ := isG_name hg
  have KS := K.cks io μ
  rw [raisesM] at hr
  rw [evM] at ev
  refine ss_of (ps_for KS.po KS.calm (pi_range1 (glB_gl hgl) (KS.bl _ (by decide +kernel)) (arg1 (mE_ok m1)) (ok_star (mE_ok m1))) (pg_name KS.nd hN hl (.inl (KS.fnT _))) pss_sss (fun _ => rfl)) ?_
  refine oneM (R := fun v H1 => ∃ j : Int, [v] = [V.int j] ∧ -(2 ^ 62) ≤ j ∧ j < 2 ^ 62 ∧ _) K m1 S ev P fun k d v H1 F1 e1 e2 g1 S1 r1 f1 => ?_
  split at e2
  · rename_i nn
    split at e2
    · rename_i hnn
      refine ⟨nn, by rw [RV.int (G := G.gi io μ) r1], by omega, by omega, ?_⟩
      generalize hf : (fun (d : D) (st : Ev) (μ : Mu) => evMs G.fl G.Φ G.Ψ G.Ψi fu b (st.set i (some (false, d))) μ) = f at e2
      refine for_range (lo := 0) (n := nn.toNat) (fun j => FIM G io0 F0 H0 F1 io f r ((rngD nn.toNat).drop j)) ⟨st, μ, F1, io, S1, Sub.refl _, LeI.refl _, e2⟩ (fun j σ' H' hj I => ?_) fun σ' H' I => ?_
      · have hd : (rngD nn.toNat)[j]? = some (.int (j : Int)) := by
          unfold rngD
          rw [List.getElem?_map, List.getElem?_range hj]
          rfl
        rw [drop_cons hd] at I
        obtain ⟨st', μ', F', io', S', s', i', e'⟩ := I
        obtain ⟨o, e3, P2⟩ := turnM (P.sub g1.ff (LeI.refl io)) s' i' e' fun _ _ h => h
        rw [← hf] at e3
        have rj : Rp (G.km io' μ') F' (.int (0 + (j : Int))) (.int (j : Int)) := by rw [Int.zero_add]; exact .int _
        exact hb X es W _ K hr m2 io0 F0 H0 io' μ' F' H' _ _ o _ (S'.setS i rj) e3 P2
      · have hlen : (rngD nn.toNat).length = nn.toNat := by unfold rngD; rw [List.length_map, List.length_range]
        rw [List.drop_of_length_le (Nat.le_of_eq hlen)] at I
        obtain ⟨st', μ', F', io', S', s', i', e'⟩ := I
        rw [goM] at e'
        cases e'
        exact P σ' H' F' io' S' (g1.ff.trans s') i'
    · cases e2
  · cases e2
/-- what an effect wants, as what a statement wants -/
theorem effP {q : Option RO} {f : Kd → D → Mu → Option MO} {R : VK} (ev : onR q f = some r) (S : StM G.K G.ca io0 F0 H0 io μ F H st σ) (P : PostM G W io0 F0 H0 io F r Z)
    (hk : ∀ k d μ' v H' F' io', f k d μ' = some r → GrM io F H io' F' H' → StM G.K G.ca io0 F0 H0 io' μ' F' H' st σ → RV (G.km io' μ') F' H' k d v → Fresh H k v → NF (G.km io' μ') k v → R v H') :
    ∃ q', q = some q' ∧ PostR G.K G.ca G.ea io F H q' R (WE W σ) := by
  rcases onR_some ev with ⟨k, d, μ', e1, e2⟩ | ⟨c, μ', e1, rfl⟩ | ⟨d, μ', e1, rfl⟩
  · exact ⟨_, e1, fun v H' F' io' g hm rv f nf => hk k d μ' v H' F' io' e2 g (S.grm g hm) rv f nf⟩
  · exact ⟨_, e1, fun H' F' io' g hm => P σ H' F' io' (S.grm g hm).exit hm⟩
  · exact ⟨_, e1, fun H' F' io' dd v g hm rv hd => P σ H' F' io' dd v (S.grm g hm).exit hm rv hd⟩
theorem call_comp {v : Expr} {c : Cc} {sc : Scope} {e : EM} (m : mEM c sc e v = true) : noComp v = true := by
  obtain ⟨_, _, _, _, rfl⟩ := mEM_call m
  rfl
theorem snm_eff {e : EM} : SndM G fu (.eff e) := by
  intro X es W sx K hr m io0 F0 H0 io μ F H st σ r Z S ev P
  unfold mM at m
  split at m <;> first | contradiction | skip
  rename_i h
  cases h
  refine ss_of (ps_expr pe_se (noComp_sw (call_comp m) _ _ _)) ?_
  rw [evM] at ev
  obtain ⟨q, e1, P2⟩ := effP (R := fun _ H' => Z.nx σ H') ev S P fun k d μ' v H' F' io' e2 g S' _ _ _ => by
    cases e2
    exact P σ H' F' io' S' g.ff g.ii
  exact sndEM K.toCKM0 m S e1 P2
/-- a value goes into a slot -/
theorem slotM {i : Nat} {k : Kd} {d : D} {v : V} {io' : Io} {μ' : Mu} {F' H' : Hp} (S : StM G.K G.ca io0 F0 H0 io μ F H st σ) (S' : StM G.K G.ca io0 F0 H0 io' μ' F' H' st σ) (rv : RV (G.km io' μ') F' H' k d v) (f : Fresh H k v) (nf : NF (G.km io' μ') k v) (e : setM st i k d μ' = some r)
    (P : ∀ st2, r = .nx st2 μ' → StM G.K G.ca io0 F0 H0 io' μ' F' H' st2 (σ.set i (some v)) → Z.nx (σ.set i (some v)) H') : Z.nx (σ.set i (some v)) H' := by
  unfold setM setV at e
  cases k with
  | shr => cases e; exact P _ rfl (S'.setS i rv)
  | frs =>
    cases e
    obtain ⟨p, rfl, n, t, _⟩ := rv
    have np := f rfl p rfl
    refine P _ rfl ⟨S'.ok.setO i (fun m => nf rfl p rfl m) n (S.ok.gr.hh.none np) t fun j dj hj ej hp => ?_, S'.ii, S'.ni⟩
    obtain ⟨q, h1, h2, h3, h4⟩ := S.ok.own j dj ej
    rw [hp] at h1
    cases h1
    obtain ⟨o, ho⟩ := h4.has
    rw [np] at ho
    cases ho
  | brw => cases e
theorem snm_effS {i : Nat} {e : EM} : SndM G fu (.effS i e) := by
  intro X es W sx K hr m io0 F0 H0 io μ F H st σ r Z S ev P
  unfold mM at m
  split at m <;> first | contradiction | skip
  rename_i h
  cases h
  simp only [Bool.and_eq_true] at m
  obtain ⟨hw, m1⟩ := m
  obtain ⟨hN, hl⟩ := wrB_all hw
  have KS := K.cks io μ
  refine ss_of (ps_set KS.nd hN hl pe_se (noComp_sw (call_comp m1) _ _ _) (.inl (KS.fnT _))) ?_
  rw [evM] at ev
  obtain ⟨q, e1, P2⟩ := effP (R := fun v H' => Z.nx (σ.set i (some v)) H') ev S P fun k d μ' v H' F' io' e2 g S' rv f nf =>
    slotM S S' rv f nf e2 fun st2 e3 S2 => by
      subst e3
      exact P _ H' F' io' S2 g.ff g.ii
  exact sndEM K.toCKM0 m1 S e1 P2
end
end Dv

/-! Dm, part G: fields, lists in cells. -/
namespace Dv
open PySem PySem.Spec PyProof.Rows L2

section
variable {G : GM} {fu : Nat} {es : List Str} {W : WX} {X : Cx} {io0 io io1 : Io} {μ μ1 : Mu} {F0 H0 F H F1 H1 : Hp} {st : Ev} {σ : L2.St} {r : MO} {Z : Ends}
theorem Rpf.put {κ : KM} {f : Str} {v : V} {d : D} (a : Rp κ F v d) : ∀ {gs : List (Str × V)} {fs : List (Str × D)}, Rpf κ F gs fs → Rpf κ F (putF f v gs) (putFD f d fs)
  | _, _, .nil => .cons a .nil
  | _, _, @Rpf.cons _ _ g w e gs fs b r => by
    unfold putF putFD
    split
    · exact .cons a r
    · exact .cons b (Rpf.put a r)
theorem Rpf.length {κ : KM} : ∀ {gs : List (Str × V)} {fs : List (Str × D)}, Rpf κ F gs fs → gs.length = fs.length
  | _, _, .nil => rfl
  | _, _, .cons _ r => by rw [List.length_cons, List.length_cons, r.length]
theorem setFD_some {fl : List (Str × Str)} {x d : D} {f : Str} {μ' : Mu} (h : setFD fl μ x f d = some μ') : ∃ n c fs, x = refD n ∧ μ[n]? = some (.obj c fs) ∧ (c, f) ∈ fl ∧ fs.length < 1000 ∧ μ' = μ.set n (.obj c (putFD f d fs)) := by
  unfold setFD at h
  split at h
  · rename_i n
    split at h
    · rename_i c fs e
      split at h
      · rename_i hc
        cases h
        refine ⟨n.toNat, c, fs, ?_, e, hc.1, hc.2.1, rfl⟩
        simp only [refD]
        rw [Int.toNat_of_nonneg hc.2.2]
      · cases h
    · cases h
  · cases h
theorem appD_some {x d : D} {μ' : Mu} (h : appD μ x d = some μ') : ∃ n ds, x = refD n ∧ μ[n]? = some (.lst ds) ∧ ds.length < lim ∧ μ' = μ.set n (.lst (ds ++ [d])) := by
  unfold appD at h
  split at h
  · rename_i n
    split at h
    · rename_i ds e
      split at h
      · rename_i hc
        cases h
        refine ⟨n.toNat, ds, ?_, e, hc.1, rfl⟩
        simp only [refD]
        rw [Int.toNat_of_nonneg hc.2]
      · cases h
    · cases h
  · cases h
theorem isLstD_some {x : D} (h : isLstD μ x = true) : ∃ n ds, x = refD n ∧ μ[n]? = some (.lst ds) := by
  unfold isLstD at h
  split at h
  · rename_i n
    split at h
    · rename_i ds e
      refine ⟨n.toNat, ds, ?_, e⟩
      simp only [refD]
      rw [Int.toNat_of_nonneg (of_decide_eq_true h)]
    · cases h
  · cases h
/-- an object's cell, as it lies; a field of it is set -/
theorem fldM {n : Nat} {a : Addr} {c f : Str} {fs : List (Str × D)} (S : StM G.K G.ca io0 F0 H0 io μ F H st σ) (hn : io n = some a) (hc : μ[n]? = some (.obj c fs)) :
    ∃ dx gs, H a = some (.ins (G.ca c) dx gs) ∧ gs.length = fs.length ∧ ∀ {y : V} {d : D}, Rp (G.km io μ) F y d → StM G.K G.ca io0 F0 H0 io (μ.set n (.obj c (putFD f d fs))) F (upd H a (.ins (G.ca c) dx (putF f y gs))) st σ := by
  obtain ⟨dx, gs, h1, h2, h3⟩ := obj_at (G := G.gi io μ) S.ok.cel hn hc
  refine ⟨dx, gs, h1, h3.length, fun {y d} rv => S.put hn hc rfl ⟨dx, _, upd_same, ?_, h3.put rv⟩⟩
  rw [upd_ne]
  · exact h2
  · intro z
    rw [z, h1] at h2
    cases h2
theorem snm_setF {o : E} {f : Str} {e : E} : SndM G fu (.setF o f e) := by
  intro X es W sx K hr m io0 F0 H0 io μ F H st σ r Z S ev P
  unfold mM at m
  split at m <;> first | contradiction | skip
  rename_i h
  cases h
  simp only [Bool.and_eq_true, decide_eq_true_eq] at m
  obtain ⟨⟨⟨⟨rfl, hb⟩, m1⟩, m2⟩, hc⟩ := m
  refine ss_of (ps_fld pe_se pe_se (noComp_sw hc _ _ _)) ?_
  rw [evM] at ev
  refine oneM K m2 S ev P fun k d y H1 F1 e1 e2 g1 S1 r1 f1 => ?_
  split at e2
  · cases e2
  · rename_i hk
    obtain ⟨F2, g2, rv⟩ := share (G := G.gi io μ) g1 r1 f1 hk
    have S2 := S.mono g2
    refine oneM K m1 S2 e2 (P.sub g2.ff (LeI.refl io)) fun kk x u H3 F3 e3 e4 g3 S3 r3 f3 => ?_
    obtain ⟨μ', e5, rfl⟩ := Option.map_eq_some_iff.mp e4
    obtain ⟨n, c, fs, rfl, hn, hf, hl, rfl⟩ := setFD_some e5
    obtain ⟨p, rfl, hp⟩ := RV.ref (G := G.gi io μ) r3 g3.fh
    obtain ⟨dx, gs, h1, h2, h3⟩ := fldM (f := f) S3 hp hn
    obtain ⟨q1, q2⟩ := (K.ck io μ).cls _ _ hf
    exact ⟨p, _, dx, gs, rfl, h1, q1, q2, by rw [h2]; exact hl, P σ _ F3 io (h3 (rv.to g3.ff)) (g2.ff.trans g3.ff) (LeI.refl io)⟩
theorem snm_newL {o : E} {f : Str} {e : E} : SndM G fu (.newL o f e) := by
  intro X es W sx K hr m io0 F0 H0 io μ F H st σ r Z S ev P
  unfold mM at m
  split at m <;> first | contradiction | skip
  rename_i h
  cases h
  simp only [Bool.and_eq_true, decide_eq_true_eq] at m
  obtain ⟨⟨⟨⟨rfl, hb⟩, m1⟩, m2⟩, hc⟩ := m
  refine ss_of (ps_fld pe_se pe_se (noComp_sw hc _ _ _)) ?_
  rw [evM] at ev
  refine oneM K m2 S ev P fun k d y H1 F1 e1 e2 g1 S1 r1 f1 => ?_
  split at e2
  · rename_i ds
    obtain ⟨q, rfl, nF, ⟨vs, hq, qv⟩, _⟩ := r1
    have nq : H q = none := f1 rfl q rfl
    refine oneM K m1 S1 e2 (P.sub g1.ff (LeI.refl io)) fun kk x u H3 F3 e3 e4 g3 S3 r3 f3 => ?_
    have g := g1.trans g3
    have hl : LeI io (addI io μ.length q) := addI_le S.ok.cel.io_none
    have S4 := S.add (c := .lst ds) g nq (g3.out hq nF) ⟨vs, g3.hh _ _ hq, Rps.up (κ := G.km io μ) (κ' := ⟨G.K, addI io μ.length q, μ, G.ca⟩) rfl hl (qv.to g3.ff)⟩
    obtain ⟨μ', e5, rfl⟩ := Option.map_eq_some_iff.mp e4
    obtain ⟨n, c, fs, rfl, hn, hf, hlen, rfl⟩ := setFD_some e5
    obtain ⟨p, rfl, hp⟩ := RV.ref (G := G.gi io μ) r3 g3.fh
    obtain ⟨dx, gs, h1, h2, h3⟩ := fldM (f := f) S4 (hl n p hp) hn
    obtain ⟨q1, q2⟩ := (K.ck io μ).cls _ _ hf
    exact ⟨p, _, dx, gs, rfl, h1, q1, q2, by rw [h2]; exact hlen, P σ _ F3 _ (h3 (.ref addI_self)) g.ff hl⟩
  · cases e2
/-- o.f as a target -/
def gAtt (K : PySem.W.Frag) (to : TE) (f : Str) : TG := fun v σ H Q => to σ H fun x H1 => ∃ a C dx fs, x = .ref a ∧ H1 a = some (.ins C dx fs) ∧ Cls K C ∧ NoAttr K C f ∧ fs.length < 1000 ∧ Q σ (upd H1 a (.ins C dx (putF f v fs)))
theorem pg_att {o : Expr} {f : Str} {pos : Pos} {to : TE} (ho : PE X o to) : PG X (.Attribute o f pos) (gAtt X.K to f) := by
  refine ⟨fun pins s σ H v u Q I r h => ?_⟩
  rw [PySem.arm_assign_Attribute]
  refine wpAny_bind (wpAny_holding (thn (ho.run pins s σ H _ I h) fun ov s1 ⟨x, H1, I1, r1, a, C, dx, fs, ex, ea, c, n, l, q1⟩ => ?_))
  subst ex
  obtain rfl : ov = Value.ref a := r1
  refine wpAny_bind (wpAny_standAt (wpAny_bind (wpAny_holding ?_)))
  refine setattr_ok I1 ea c n l r fun s2 I2 => ?_
  exact wpAny_release ⟨σ, _, I2, q1⟩
theorem snm_setTF {o : E} {f : Str} {i : Nat} {e : E} : SndM G fu (.setTF o f i e) := by
  intro X es W sx K hr m io0 F0 H0 io μ F H st σ r Z S ev P
  unfold mM at m
  split at m <;> first | contradiction | skip
  rename_i h
  cases h
  simp only [Bool.and_eq_true, decide_eq_true_eq] at m
  obtain ⟨⟨⟨⟨⟨rfl, hb⟩, hw⟩, m1⟩, m2⟩, ht⟩ := m
  obtain ⟨hN, hl⟩ := wrB_all hw
  have KS := K.cks io μ
  refine ss_of (ps_asg pe_se (pg_tup (n := 2) KS.calm (pgs_cons (pg_att pe_se) (pgs_cons (pg_name KS.nd hN hl (.inl (KS.fnT _))) pgs_nil))) (sole_sw (noTup_comp ht)) (noTup_sw ht _ _) rfl) ?_
  rw [evM] at ev
  refine oneM K m2 S ev P fun k d y H1 F1 e1 e2 g1 S1 r1 f1 => ?_
  split at e2
  · rename_i d0 d1
    obtain ⟨a, vs, rfl, ea, qa⟩ := RV.tup (G := G.gi io μ) r1
    cases qa with
    | cons rv0 qa =>
      cases qa with
      | cons rv1 qa =>
        cases qa
        refine ⟨a, _, rfl, SqT.of (g1.fh _ _ ea), rfl, _, _, rfl, ?_⟩
        refine oneM K m1 S1 e2 (P.sub g1.ff (LeI.refl io)) fun kk x u H3 F3 e3 e4 g3 S3 r3 f3 => ?_
        obtain ⟨μ', e5, rfl⟩ := Option.map_eq_some_iff.mp e4
        obtain ⟨n, c, fs, rfl, hn, hf, hlen, rfl⟩ := setFD_some e5
        obtain ⟨p, rfl, hp⟩ := RV.ref (G := G.gi io μ) r3 g3.fh
        obtain ⟨dx, gs, h1, h2, h3⟩ := fldM (f := f) S3 hp hn
        obtain ⟨q1, q2⟩ := (K.ck io μ).cls _ _ hf
        refine ⟨p, _, dx, gs, rfl, h1, q1, q2, by rw [h2]; exact hlen, _, _, rfl, rfl, ?_⟩
        exact P _ _ F3 io ((h3 (rv0.to g3.ff)).setS i (Rp.up (κ := G.km io μ) (κ' := G.km io (μ.set n (.obj c (putFD f d0 fs)))) rfl (LeI.refl io) (rv1.to g3.ff))) (g1.ff.trans g3.ff) (LeI.refl io)
  · cases e2
theorem snm_appC {q : E} {e : E} : SndM G fu (.appC q e) := by
  intro X es W sx K hr m io0 F0 H0 io μ F H st σ r Z S ev P
  unfold mM at m
  split at m <;> first | contradiction | skip
  rename_i h
  cases h
  simp only [Bool.and_eq_true, decide_eq_true_eq] at m
  obtain ⟨⟨⟨⟨rfl, hb⟩, hl⟩, m1⟩, m2⟩ := m
  have ok := mE_ok m2
  refine ss_of (ps_expr (pe_bm PySem.F.plainAttrs_list PySem.F.slot_list_append PySem.F.type_list_append mt_append pe_se (arg1 ok) (base_eval hb) (by rw [ok_star ok]; rfl) hl (ok_star ok) rfl) rfl) ?_
  rw [evM] at ev
  refine oneM K m1 S ev P fun k x y H1 F1 e1 e2 g1 S1 r1 f1 => ?_
  -- the receiver is a list's cell
  have hcell : ∀ {H2 F2 : Hp} {n : Nat} {p : Addr} {ds : List D}, Gr F1 H1 F2 H2 → io n = some p → μ[n]? = some (.lst ds) → ∃ vs, H2 p = some (.lst vs) ∧ Rps (G.km io μ) F2 vs ds := fun {H2 F2 n p ds} g2 hp hn => by
    obtain ⟨c', q1, _, q2⟩ := (S1.mono g2).ok.cel.of hp
    rw [hn] at q1
    cases q1
    exact q2
  split at e2 <;> first | (cases e2; done) | skip
  rename_i hfact
  obtain ⟨n, ds, rfl, hn⟩ := isLstD_some hfact
  obtain ⟨p, rfl, hp⟩ := RV.ref (G := G.gi io μ) r1 g1.fh
  obtain ⟨vs, hv, qv⟩ := hcell (Gr.refl g1.fh) hp hn
  refine ⟨ty_lst hv, ?_⟩
  refine oneM K m2 S1 e2 (P.sub g1.ff (LeI.refl io)) fun kk d u H3 F3 e3 e4 g3 S3 r3 f3 => ?_
  split at e4
  · cases e4
  · rename_i hk
    obtain ⟨F4, g4, rv⟩ := share (G := G.gi io μ) g3 r3 f3 hk
    have S4 := S1.mono g4
    obtain ⟨μ', e5, rfl⟩ := Option.map_eq_some_iff.mp e4
    obtain ⟨n', ds', h1, h2, h3, rfl⟩ := appD_some e5
    have : n = n' := by
      simp only [refD, PyData.dict.injEq, List.cons.injEq, Prod.mk.injEq, PyData.int.injEq, and_true, true_and] at h1
      omega
    subst this
    rw [hn] at h2
    cases h2
    obtain ⟨vs', hv', qv'⟩ := hcell g4 hp hn
    refine ⟨p, vs', u, rfl, rfl, hv', sizeLt (by rw [qv'.length]; exact Nat.le_of_lt h3), ?_⟩
    exact P σ _ F4 io (S4.put hp hn rfl ⟨_, upd_same, qv'.append (.cons rv .nil)⟩) (g1.ff.trans g4.ff) (LeI.refl io)
end
end Dv

/-! Dm, part V: tests in which lists' cells are taken for what they hold; a list of one's own that becomes a cell where it is told. -/
namespace Dv
open PySem PySem.Spec PyProof.Rows L2

section
variable {K : PySem.W.Frag} {ca : Str → Addr} {io : Io} {μ : Mu} {F H F2 : Hp}
noncomputable def frzL (io : Io) (μ : Mu) (F H : Hp) : Hp := fun a => by
  classical
  exact if ∃ n ds, io n = some a ∧ μ[n]? = some (Cell.lst ds) then H a else F a
theorem frzL_in {n : Nat} {a : Addr} {ds : List D} (h : io n = some a) (e : μ[n]? = some (Cell.lst ds)) : frzL io μ F H a = H a := by
  unfold frzL
  exact if_pos ⟨n, ds, h, e⟩
theorem frzL_sub (fh : Sub F H) : Sub F (frzL io μ F H) := fun a o e => by
  unfold frzL
  split
  · exact fh a o e
  · exact e
theorem frzL_le (fh : Sub F H) : Sub (frzL io μ F H) H := fun a o e => by
  unfold frzL at e
  split at e
  · exact e
  · exact fh a o e
theorem frzL_out {a : Addr} (h : ∀ n, io n ≠ some a) : frzL io μ F H a = F a := by
  unfold frzL
  exact if_neg fun ⟨n, _, e, _⟩ => h n e
theorem scalar_up {κ κ' : KM} {v : V} {d : D} (r : Rp κ F v d) (s : scalar d = true) : Rp κ' F2 v d := by
  cases r <;> first | (simp [scalar, flat, scrD, tkD, refD] at s; done) | constructor
theorem scalars_up {κ κ' : KM} : ∀ {vs : List V} {ds : List D}, Rps κ F vs ds → ds.all scalar = true → Rps κ' F2 vs ds
  | _, _, .nil, _ => .nil
  | _, _, .cons a r, h => by
    rw [List.all_cons, Bool.and_eq_true] at h
    exact .cons (scalar_up a h.1) (scalars_up r h.2)
mutual
theorem Rp.view (hm : HM ⟨K, io, μ, ca⟩ F H) (f : Sub F F2) (hF : ∀ n a ds, io n = some a → μ[n]? = some (Cell.lst ds) → F2 a = H a) : ∀ {v : V} {d : D}, Rp ⟨K, io, μ, ca⟩ F v d → ∀ {e : D}, drf μ d = some e → Rp ⟨K, fun _ => none, [], ca⟩ F2 v e
  | _, _, .non, _, h => by rw [drf] at h; cases h; exact .non
  | _, _, .bl b, _, h => by rw [drf] at h; cases h; exact .bl b
  | _, _, .int i, _, h => by rw [drf] at h; cases h; exact .int i
  | _, _, .str x, _, h => by rw [drf] at h; cases h; exact .str x
  | _, _, .lst e r, _, h => by
    rw [drf] at h
    obtain ⟨es, h1, rfl⟩ := Option.map_eq_some_iff.mp h
    exact .lst (f _ _ e) (Rps.view hm f hF r h1)
  | _, _, .tup e r, _, h => by
    rw [drf] at h
    obtain ⟨es, h1, rfl⟩ := Option.map_eq_some_iff.mp h
    exact .tup (f _ _ e) (Rps.view hm f hF r h1)
  | _, _, .dic e r, _, h => by
    cases r with
    | nil => simp [drf] at h
    | cons a b => simp [drf] at h
  | _, _, .scr e, _, h => by simp [drf, scrD] at h
  | _, _, .tk e r, _, h => by simp [drf, tkD] at h
  | _, _, .ref (a := a) (n := n) e, _, h => by
    simp only [drf, refD, Int.toNat_natCast] at h
    split at h
    · rename_i xs q
      split at h
      · rename_i hc
        cases h
        obtain ⟨c, k1, k2, k3⟩ := hm.of e
        rw [show (⟨K, io, μ, ca⟩ : KM).mu = μ from rfl, q] at k1
        cases k1
        obtain ⟨vs, k4, k5⟩ := k3
        exact .lst ((hF n a xs e q).trans k4) (scalars_up k5 hc.2)
      · cases h
    · cases h
theorem Rps.view (hm : HM ⟨K, io, μ, ca⟩ F H) (f : Sub F F2) (hF : ∀ n a ds, io n = some a → μ[n]? = some (Cell.lst ds) → F2 a = H a) : ∀ {vs : List V} {ds : List D}, Rps ⟨K, io, μ, ca⟩ F vs ds → ∀ {es : List D}, drfs μ ds = some es → Rps ⟨K, fun _ => none, [], ca⟩ F2 vs es
  | _, _, .nil, _, h => by rw [drfs] at h; cases h; exact .nil
  | _, _, .cons a r, _, h => by
    rw [drfs] at h
    split at h
    · rename_i e es h1 h2
      cases h
      exact .cons (Rp.view hm f hF a h1) (Rps.view hm f hF r h2)
    · cases h
end
theorem viewS_get {st : Ev} {i : Nat} {x : Bool × D} (h : (viewS μ st)[i]? = some (some x)) : ∃ d e, st[i]? = some (some (false, d)) ∧ drf μ d = some e ∧ x = (false, e) := by
  unfold viewS at h
  rw [List.getElem?_map] at h
  obtain ⟨y, h1, h2⟩ := Option.map_eq_some_iff.mp h
  unfold viewO at h2
  split at h2
  · rename_i d
    obtain ⟨e, h3, h4⟩ := Option.map_eq_some_iff.mp h2
    exact ⟨d, e, h1, h3, h4.symm⟩
  · cases h2
end
section
variable {G : GM} {fu : Nat} {es : List Str} {W : WX} {X : Cx} {io0 io io1 : Io} {μ μ1 : Mu} {F0 H0 F H F1 H1 : Hp} {st : Ev} {σ : L2.St} {r : MO} {Z : Ends}
/-- the state, seen so -/
theorem StM.view (S : StM G.K G.ca io0 F0 H0 io μ F H st σ) : StOK (G.km (fun _ => none) []) F0 (cut io0 H0) (frzL io μ F H) H (viewS μ st) σ where
  gr := ⟨S.ok.gr.ff.trans (frzL_sub S.ok.fh), frzL_le S.ok.fh, S.ok.gr.hh, fun a o e => by
    by_cases h : ∃ n, io n = some a
    · obtain ⟨n, h⟩ := h
      exact .inr (S.cut0 h)
    · rw [frzL_out fun n q => h ⟨n, q⟩] at e
      exact S.ok.gr.nw a o e⟩
  len := by unfold viewS; rw [List.length_map]; exact S.ok.len
  shr := fun i d e => by
    obtain ⟨d0, e0, h1, h2, h3⟩ := viewS_get e
    cases h3
    obtain ⟨v, h4, h5⟩ := S.ok.shr i d0 h1
    exact ⟨v, h4, Rp.view S.ok.cel (frzL_sub S.ok.fh) (fun n a ds q1 q2 => frzL_in q1 q2) h5 h2⟩
  own := fun i d e => by
    obtain ⟨d0, e0, h1, h2, h3⟩ := viewS_get e
    cases h3
  inj := fun i j p di dj e => by
    obtain ⟨d0, e0, h1, h2, h3⟩ := viewS_get e
    cases h3
  cel := {
    at_ := fun n c e => by simp at e
    inj := fun n m a e => nomatch e
    lt := fun n a e => nomatch e }
  ocl := fun i d p e => by
    obtain ⟨d0, e0, h1, h2, h3⟩ := viewS_get e
    cases h3
theorem snm_iteV {d : E} {a b : List M} (ha : SndMs G fu a) (hb : SndMs G fu b) : SndM G fu (.iteV d a b) := by
  intro X es W sx K hr m io0 F0 H0 io μ F H st σ r Z S ev P
  unfold mM at m
  split at m <;> first | contradiction | skip
  rename_i h
  cases h
  simp only [Bool.and_eq_true] at m
  obtain ⟨⟨m1, m2⟩, m3⟩ := m
  rw [raisesM] at hr
  obtain ⟨hr1, hr2⟩ := mem_l hr
  refine ss_of (ps_if pt_st pss_sss pss_sss) ?_
  rw [evM] at ev
  have same : ∀ {F1 H1 : Hp}, Gr (frzL io μ F H) H F1 H1 → Gr F H F H1 := fun g => gr_same S.ok.fh g.hh
  rcases onBM_some ev with ⟨b, e1, e2⟩ | ⟨c, e1, rfl⟩
  · refine (sndE d).2 X W _ (K.ck (fun _ => none) []) m1 F0 (cut io0 H0) (frzL io μ F H) H (viewS μ st) σ _ _ S.view e1 fun H1 F1 g1 => ?_
    cases b with
    | true =>
      rw [if_pos rfl] at e2 ⊢
      exact ha X es W _ K hr1 m2 io0 F0 H0 io μ F H1 st σ r Z (S.mono (same g1)) e2 P
    | false =>
      rw [if_neg Bool.false_ne_true] at e2 ⊢
      exact hb X es W _ K hr2 m3 io0 F0 H0 io μ F H1 st σ r Z (S.mono (same g1)) e2 P
  · refine (sndE d).2 X W _ (K.ck (fun _ => none) []) m1 F0 (cut io0 H0) (frzL io μ F H) H (viewS μ st) σ _ _ S.view e1 ?_
    exact fun H' s => P σ H' F io (S.mono (gr_same S.ok.fh s)).exit (S.ok.cel.mono (gr_same S.ok.fh s))
/-- what is no cell yet becomes one -/
theorem hm_adopt {κ : KM} (h1 : HM κ F H) {a : Addr} {c : Cell} (na : ∀ n, κ.io n ≠ some a) (nF : F a = none) (t : CellAt ⟨κ.K, addI κ.io κ.mu.length a, κ.mu, κ.ca⟩ F H a c) : HM ⟨κ.K, addI κ.io κ.mu.length a, κ.mu ++ [c], κ.ca⟩ F H := by
  refine ⟨fun m cm e => ?_, fun m k b e1 e2 => ?_, fun m b e => ?_⟩
  · by_cases hl : m < κ.mu.length
    · rw [show (κ.mu ++ [c])[m]? = κ.mu[m]? from List.getElem?_append_left hl] at e
      obtain ⟨b, k1, k2, k3⟩ := h1.at_ m cm e
      refine ⟨b, ?_, k2, CellAt.up (κ := κ) (κ' := ⟨κ.K, addI κ.io κ.mu.length a, κ.mu ++ [c], κ.ca⟩) rfl rfl (addI_le h1.io_none) k3⟩
      exact addI_le h1.io_none m b k1
    · have e0 : m = κ.mu.length := by
        have := (List.getElem?_eq_some_iff.mp e).1
        simp only [List.length_append, List.length_singleton] at this
        omega
      subst e0
      simp only [List.getElem?_append_right (Nat.le_refl _), Nat.sub_self] at e
      cases e
      exact ⟨a, addI_self, nF, CellAt.up (κ := ⟨κ.K, addI κ.io κ.mu.length a, κ.mu, κ.ca⟩) (κ' := ⟨κ.K, addI κ.io κ.mu.length a, κ.mu ++ [c], κ.ca⟩) rfl rfl (LeI.refl _) t⟩
  · rcases addI_cases e1 with ⟨z1, z2⟩ | ⟨z1, z2⟩
    · rcases addI_cases e2 with ⟨y1, y2⟩ | ⟨y1, y2⟩
      · omega
      · rw [z2] at y2; exact absurd y2 (na _)
    · rcases addI_cases e2 with ⟨y1, y2⟩ | ⟨y1, y2⟩
      · rw [y2] at z2; exact absurd z2 (na _)
      · exact h1.inj m k b z2 y2
  · rcases addI_cases e with ⟨z1, z2⟩ | ⟨z1, z2⟩
    · simp only [List.length_append, List.length_singleton]
      show m < κ.mu.length + 1
      omega
    · have := h1.lt m b z2
      simp only [List.length_append, List.length_singleton]
      show m < κ.mu.length + 1
      omega
theorem snm_retC {i : Nat} {e : E} : SndM G fu (.retC i e) := by
  intro X es W sx K hr m io0 F0 H0 io μ F H st σ r Z S ev P
  unfold mM at m
  split at m <;> first | contradiction | skip
  rename_i h
  cases h
  simp only [Bool.and_eq_true] at m
  obtain ⟨hb, m1⟩ := m
  obtain ⟨hN, hv, hp⟩ := rdB_all hb
  obtain ⟨h1, h2, h3⟩ := plain_all hp
  refine ss_of (ps_ret (pe_tup (pa_cons (pe_var (i := i) hN hv h1 h2) (pa_cons pe_se pa_nil (ok_star (mE_ok m1))) rfl))) ?_
  rw [evM] at ev
  split at ev
  · rename_i ds hst
    obtain ⟨p, k1, k2, k3, k4⟩ := S.ok.own i _ hst
    refine ⟨_, k1, ?_⟩
    refine oneM K m1 S ev P fun k d y H1 F1 e1 e2 g1 S1 r1 f1 => ?_
    split at e2
    · cases e2
    · rename_i hk
      cases e2
      obtain ⟨F2, g2, rv⟩ := share (G := G.gi io μ) g1 r1 f1 hk
      have S2 := S.mono g2
      refine ⟨sizeL (by show 2 ≤ lim; decide), fun q n => ?_⟩
      have g3 := Gr.new S2.ok.fh n (.tup [.ref p, y])
      have S3 := S2.mono g3
      obtain ⟨p', j1, j2, j3, j4⟩ := S3.ok.own i _ hst
      rw [k1] at j1
      cases j1
      have ni : ∀ m, io m ≠ some p := S.ok.ocl i _ p hst k1
      have hl : LeI io (addI io μ.length p) := addI_le S.ok.cel.io_none
      have X3 := S3.exit
      have hm := hm_adopt (c := .lst ds) S3.ok.cel ni j2 (by
        obtain ⟨vs, z1, z2⟩ := j4
        exact ⟨vs, z1, Rps.up (κ := G.km io μ) (κ' := ⟨G.K, addI io μ.length p, μ, G.ca⟩) rfl hl z2⟩)
      refine P _ _ _ (addI io μ.length p) ⟨X3.ff, X3.fh, X3.hh, X3.nw, X3.ii.trans hl, fun m b e => ?_⟩ hm ?_ (fun e => nomatch e) fun e => nomatch e
      · rcases addI_cases e with ⟨_, z⟩ | ⟨_, z⟩
        · subst z
          rcases cut_none j3 with z | ⟨n, z⟩
          · exact .inr z
          · exact absurd (S.ii n _ z) (ni n)
        · exact X3.ni m b z
      · exact Rp.tup upd_same (.cons (.ref addI_self) (.cons (Rp.up (κ := G.km io μ) (κ' := G.km (addI io μ.length p) (μ ++ [.lst ds])) rfl hl (rv.to g3.ff)) .nil))
  · cases ev
end
end Dv

/-! Dm, part H: raises, tests of effects, suites, blocks; every statement. -/
namespace Dv
open PySem PySem.Spec PyProof.Rows L2

section
variable {G : GM} {fu : Nat} {es : List Str} {W : WX} {X : Cx} {io0 io io1 : Io} {μ μ1 : Mu} {F0 H0 F H F1 H1 : Hp} {st : Ev} {σ : L2.St} {r : MO} {Z : Ends}
theorem snm_raiU {e : E} : SndM G fu (.raiU e) := by
  intro X es W sx K hr m io0 F0 H0 io μ F H st σ r Z S ev P
  unfold mM at m
  split at m <;> first | contradiction | skip
  rename_i h
  cases h
  simp only [Bool.and_eq_true] at m
  obtain ⟨hg, m1⟩ := m
  obtain ⟨p3, rfl, hgl, hpl⟩ := isG_name hg
  have KS := K.cks io μ
  obtain ⟨fI, T⟩ := K.uns
  have ok := mE_ok m1
  refine ss_of (ps_raiseUns KS.calm T KS.room KS.tk (arg1 ok) (glB_gl hgl) (ok_star ok) rfl) ?_
  rw [evM] at ev
  refine oneM (R := fun v H1 => ∃ w, [v] = [w] ∧ ∀ d, H1 d = none → W (.ref (G.ea "Unsafe")) (some d) σ (upd H1 d (.xd [(("shown" : Str), w)]))) K m1 S ev P fun k d v H1 F1 e1 e2 g1 S1 r1 f1 => ?_
  split at e2
  · cases e2
  · rename_i hk
    cases e2
    obtain ⟨F2, g2, rv⟩ := share (G := G.gi io μ) g1 r1 f1 hk
    refine ⟨v, rfl, fun dd nd => ?_⟩
    have g3 := g2.trans (Gr.lay g2.fh nd (.xd [(("shown" : Str), v)]))
    exact P σ _ F2 io dd v (S.mono g3).exit (S.ok.cel.mono g3) rv upd_same
theorem mNew_ok {c : Cc} {sc : Scope} {x : Str} {es : List E} {v : Expr} (m : mNew c sc x es v = true) : okEx v = true ∧ noComp v = true := by
  obtain ⟨g, w, ws, pos, rfl, _⟩ := mNew_all m
  exact ⟨rfl, rfl⟩
theorem evNew_ref {x : Str} {as : List E} {q : RO} (e : evNew G.Φ G.Ψi x as st μ = some q) : ∃ μ', q = .ok .shr (refD μ.length) μ' := by
  unfold evNew at e
  split at e
  · split at e
    · split at e
      · cases e; exact ⟨_, rfl⟩
      · cases e
    · cases e
  · cases e
theorem snm_new2 {i : Nat} {x : Str} {as bs : List E} : SndM G fu (.new2 i x as bs) := by
  intro X es W sx K hr m io0 F0 H0 io μ F H st σ r Z S ev P
  unfold mM at m
  split at m <;> first | contradiction | skip
  rename_i h
  cases h
  simp only [Bool.and_eq_true] at m
  obtain ⟨⟨hw, m1⟩, m2⟩ := m
  obtain ⟨hN, hl⟩ := wrB_all hw
  have KS := K.cks io μ
  obtain ⟨o1, o2⟩ := mNew_ok m1
  obtain ⟨o3, o4⟩ := mNew_ok m2
  refine ss_of (ps_set KS.nd hN hl (pe_lst (arg2 o1 o3)) rfl (.inl (KS.fnT _))) ?_
  rw [evM] at ev
  obtain ⟨q, e1, P2⟩ := effP (R := fun v H1 => SE X _ σ H1 fun w H2 => [v, w].length ≤ sizeLine ∧ ∀ p, H2 p = none → Z.nx (σ.set i (some (.ref p))) (upd H2 p (.lst [v, w]))) ev S P fun k d μ' v H' F' io' e2 g S' rv f nf => by
    split at e2 <;> first | (cases e2; done) | skip
    obtain ⟨q, e3, P3⟩ := effP (R := fun w H2 => [v, w].length ≤ sizeLine ∧ ∀ p, H2 p = none → Z.nx (σ.set i (some (.ref p))) (upd H2 p (.lst [v, w]))) e2 S' (P.sub g.ff g.ii) fun k' d' μ2 w H2 F2 io2 e4 g2 S2 rw2 f2 nf2 => by
      split at e4 <;> first | (cases e4; done) | skip
      cases e4
      refine ⟨sizeL (show 2 ≤ lim by decide), fun p np => ?_⟩
      have gl := Gr.lay S2.ok.fh np (.lst [v, w])
      have S3 := S2.mono gl
      have r1 : Rp (G.km io2 μ2) F2 v d := Rp.up (κ := G.km io' μ') (κ' := G.km io2 μ2) rfl g2.ii (Rp.to (show Rp (G.km io' μ') F' v d from rv) g2.ff)
      refine P _ _ F2 io2 ⟨S3.ok.setO i (S2.ok.cel.new np) (S2.ok.fh.none np) (S2.ok.gr.hh.none np) ⟨[v, w], upd_same, .cons r1 (.cons rw2 .nil)⟩ (fun j dj hj ej hp => ?_), S3.ii, S3.ni⟩ (g.ff.trans g2.ff) (g.ii.trans g2.ii)
      obtain ⟨q', h1, h2, h3, h4⟩ := S2.ok.own j dj ej
      rw [hp] at h1
      cases h1
      obtain ⟨o, ho⟩ := h4.has
      rw [np] at ho
      cases ho
    exact sndN K.toCKM0 m2 S' e3 P3
  exact sndN K.toCKM0 m1 S e1 P2
/-- the test of an effect -/
theorem testM {t : CT} {e : EM} {v : Expr} {R : Bool → Hp → Prop} (K : CKM G es W X) (m : mCT (ccM G X) X.env.scope t e v = true) (S : StM G.K G.ca io0 F0 H0 io μ F H st σ) {a b : List M}
    (ev : onR (evEM G.Φ G.Ψ G.Ψi e st μ) (fun k d μ => match ctD t k d with
    | some true => evMs G.fl G.Φ G.Ψ G.Ψi fu a st μ
    | some false => evMs G.fl G.Φ G.Ψ G.Ψi fu b st μ
    | none => none) = some r) (P : PostM G W io0 F0 H0 io F r Z)
    (hk : ∀ c μ' H' F' io', GrM io F H io' F' H' → StM G.K G.ca io0 F0 H0 io' μ' F' H' st σ → (if c = true then evMs G.fl G.Φ G.Ψ G.Ψi fu a st μ' else evMs G.fl G.Φ G.Ψ G.Ψi fu b st μ') = some r → R c H') : ST X v σ H R := by
  have cut3 : ∀ {k d μ'}, (match ctD t k d with
    | some true => evMs G.fl G.Φ G.Ψ G.Ψi fu a st μ'
    | some false => evMs G.fl G.Φ G.Ψ G.Ψi fu b st μ'
    | none => none) = some r → ∃ c, ctD t k d = some c ∧ (if c = true then evMs G.fl G.Φ G.Ψ G.Ψi fu a st μ' else evMs G.fl G.Φ G.Ψ G.Ψi fu b st μ') = some r := fun {k d μ'} h => by
    split at h
    · rename_i e; exact ⟨true, e, by rw [if_pos rfl]; exact h⟩
    · rename_i e; exact ⟨false, e, by rw [if_neg Bool.false_ne_true]; exact h⟩
    · cases h
  cases t with
  | yes =>
    have m1 : mEM (ccM G X) X.env.scope e v = true := by unfold mCT at m; exact m
    obtain ⟨f, as, ks, pos, rfl⟩ := mEM_call m1
    refine st_of (pt_val pe_se (fun _ => rfl)) ?_
    obtain ⟨q, e1, P2⟩ := effP (R := fun x H' => ∃ c, x = .bl c ∧ R c H') ev S P fun k d μ' y H' F' io' e2 g S' rv f nf => by
      obtain ⟨c, e3, e4⟩ := cut3 e2
      unfold ctD at e3
      split at e3 <;> first | contradiction | skip
      cases e3
      exact ⟨_, RV.bool (G := G.gi io' μ') rv, hk _ μ' H' F' io' g S' e4⟩
    exact sndEM K.toCKM0 m1 S e1 P2
  | no =>
    unfold mCT at m
    split at m <;> first | contradiction | skip
    obtain ⟨f, as, ks, pos, rfl⟩ := mEM_call m
    refine st_of (pt_not (pt_val pe_se (fun _ => rfl))) ?_
    obtain ⟨q, e1, P2⟩ := effP (R := fun x H' => ∃ c, x = .bl c ∧ R (!c) H') ev S P fun k d μ' y H' F' io' e2 g S' rv f nf => by
      obtain ⟨c, e3, e4⟩ := cut3 e2
      unfold ctD at e3
      split at e3 <;> first | contradiction | skip
      cases e3
      exact ⟨_, RV.bool (G := G.gi io' μ') rv, hk _ μ' H' F' io' g S' e4⟩
    exact sndEM K.toCKM0 m S e1 P2
  | isn =>
    unfold mCT at m
    split at m <;> first | contradiction | skip
    refine st_of (pt_cmpR op_sem pe_se pe_se rfl) ?_
    obtain ⟨q, e1, P2⟩ := effP (R := fun x H' => SE X (.Constant .none _ _) σ H' fun y H2 => OSem X (compareOp .IsNot) x y H2 fun z H3 => ∃ k, z = .bl k ∧ R k H3) ev S P fun k d μ' y H' F' io' e2 g S' rv f nf => by
      obtain ⟨c, e3, e4⟩ := cut3 e2
      have e5 : c = !isNone d := by
        unfold ctD at e3
        split at e3 <;> first | contradiction | skip
        cases e3
        rfl
      subst e5
      refine se_of pe_non ?_
      exact leaf_cmp (G := G.gi io' μ') (op := .isn) (o := .IsNot) (x := d) (y := .none) (k := k) (j := .shr) (K.ck io' μ') rfl (by cases d <;> rfl) S'.ok.fh ⟨_, rfl, hk _ μ' H' F' io' g S' e4⟩ rv (show Rp _ _ _ _ from .non)
    exact sndEM K.toCKM0 m S e1 P2
theorem snm_iteC {t : CT} {e : EM} {a b : List M} (ha : SndMs G fu a) (hb : SndMs G fu b) : SndM G fu (.iteC t e a b) := by
  intro X es W sx K hr m io0 F0 H0 io μ F H st σ r Z S ev P
  unfold mM at m
  split at m <;> first | contradiction | skip
  rename_i h
  cases h
  simp only [Bool.and_eq_true] at m
  obtain ⟨⟨m1, m2⟩, m3⟩ := m
  rw [raisesM] at hr
  obtain ⟨hr1, hr2⟩ := mem_l hr
  refine ss_of (ps_if pt_st pss_sss pss_sss) ?_
  rw [evM] at ev
  refine testM K m1 S ev P fun c μ' H' F' io' g S' e2 => ?_
  cases c with
  | true =>
    rw [if_pos rfl] at e2 ⊢
    exact ha X es W _ K hr1 m2 io0 F0 H0 io' μ' F' H' st σ r Z S' e2 (P.sub g.ff g.ii)
  | false =>
    rw [if_neg Bool.false_ne_true] at e2 ⊢
    exact hb X es W _ K hr2 m3 io0 F0 H0 io' μ' F' H' st σ r Z S' e2 (P.sub g.ff g.ii)
theorem snm_retO {a : E} {e : EM} : SndM G fu (.retO a e) := by
  intro X es W sx K hr m io0 F0 H0 io μ F H st σ r Z S ev P
  unfold mM at m
  split at m <;> first | contradiction | skip
  rename_i h
  cases h
  simp only [Bool.and_eq_true] at m
  obtain ⟨m1, m2⟩ := m
  refine ss_of (ps_ret (pe_or pe_se (pe_one (pe_not pe_se)))) ?_
  rw [evM] at ev
  rcases onBM_some ev with ⟨b, e1, e2⟩ | ⟨c, e1, rfl⟩
  · refine (sndE a).1 X W _ (K.ck io μ) m1 F0 (cut io0 H0) F H st σ _ _ S.ok e1 fun v H1 F1 g1 r1 f1 => ?_
    have S1 := S.mono g1
    refine ⟨b, RV.bool (G := G.gi io μ) r1, ?_⟩
    cases b with
    | true =>
      rw [if_pos rfl] at e2 ⊢
      cases e2
      exact P _ H1 F1 io S1.exit S1.ok.cel (show Rp _ _ _ _ from .bl true) (fun e => nomatch e) fun e => nomatch e
    | false =>
      rw [if_neg Bool.false_ne_true] at e2 ⊢
      obtain ⟨q, e3, P2⟩ := effP (R := fun x H' => ∃ c, x = .bl c ∧ Z.rt (.bl (!c)) H') e2 S1 (P.sub g1.ff (LeI.refl io)) fun k d μ' y H' F' io' e4 g S' rv f nf => by
        split at e4
        · cases e4
          exact ⟨_, RV.bool (G := G.gi io' μ') rv, P _ H' F' io' S'.exit S'.ok.cel (show Rp _ _ _ _ from .bl _) (fun e => nomatch e) fun e => nomatch e⟩
        · cases e4
      exact sndEM K.toCKM0 m2 S1 e3 P2
  · exact (sndE a).1 X W _ (K.ck io μ) m1 F0 (cut io0 H0) F H st σ _ _ S.ok e1 (exM_ok P S)
/-! ### suites -/
theorem ckm_tr {W' : WX} {pn : List (Addr × Obj)} {xe : Value → Shared → Prop} (K : CKM0 G W X) (tk : Takes (X.tr pn xe) W') : CKM0 G W' (X.tr pn xe) :=
  ⟨fun io μ => let k := K.ck io μ; ⟨k.kk, k.nd, k.calm, k.room, k.bl, k.fn, k.gl, tk, k.op, k.cls, k.mt⟩, K.fnM, K.mtM, K.newM⟩
theorem snm_tryS {i : Nat} {f : CF} {as : List E} : SndM G fu (.tryS i f as) := by
  intro X es W sx K hr m io0 F0 H0 io μ F H st σ r Z S ev P
  unfold mM at m
  split at m <;> first | contradiction | skip
  rename_i h
  cases h
  simp only [Bool.and_eq_true, decide_eq_true_eq] at m
  obtain ⟨⟨⟨⟨⟨⟨⟨m1, rfl⟩, hg⟩, hN⟩, hlo⟩, rfl⟩, hpn⟩, rfl⟩ := m
  have KS := K.cks io μ
  obtain ⟨fI, T⟩ := K.uns
  obtain ⟨p1, p2, p3⟩ := plain_all hpn
  intro pins s I
  have hlen : σ.length = X.N.length := I.len
  refine (ss_of (ps_try_as KS.stk KS.frm KS.nd hN hlo (c := .ref (G.ea "Unsafe")) ⟨glB_gl hg, by decide +kernel, .inl T.gC⟩ KS.tk (tb := fun W' D σ H => ∀ pn xe, Takes (X.tr pn xe) W' → PassesOwn (model X.prog X.w) X.A X.env xe → SSs (X.tr pn xe) _ D σ H)
    (ts := fun a cls d D σ H => ∀ oe pn, Zc cls d oe → (∃ vs, oe.data = .fields vs) → SSs (X.suite a ((a, oe) :: pn)) (_ :: _) D σ H) (fun W' pn xe tk po => ⟨fun pins s σ H D I h => h pn xe tk po pins s I⟩) (fun a oe cls d pn hz hf => ⟨fun pins s σ H D I h => h oe pn hz hf pins s I⟩)) ?_) pins s I
  intro pn xe tk po
  refine sss_of (pss_one (ps_expr pe_se (noComp_sw (call_comp (e := .call f as) (c := ccM G X) (sc := X.env.scope) m1) _ _ _))) ?_
  rw [evM] at ev
  have K' := ckm_tr K.toCKM0 tk
  split at ev
  · rename_i k d μ' e1
    cases ev
    refine sndC K' m1 S e1 fun v H' F' io' g hm rv f nf => ?_
    exact P σ H' F' io' (S.grm g hm) g.ff g.ii
  · rename_i d μ' e1
    cases ev
    refine sndC K' m1 S e1 fun H' F' io' dd v g hm rv hd => ?_
    refine ⟨true, T.te, fun _ a na => ?_, fun z => nomatch z⟩
    intro oe pn' hz hf
    have hi : i < σ.length := by rw [hlen]; exact (List.getElem?_eq_some_iff.mp hN).1
    have hpv := fun p0 : Pos => (pe_var (X := X.suite a ((a, oe) :: pn')) (pos := p0) hN (.inl hlo) p1 p2 : PE _ _ (tVar i))
    refine sss_of (pss_one (ps_ret (pe_shown T hz hf (hpv _) rfl))) ?_
    have S' := S.grm g hm
    exact ⟨_, List.getElem?_set_self hi, rfl, rfl, dd, v, rfl, hd, P v H' F' io' S'.exit hm (show Rp _ _ _ _ from rv) (fun e => nomatch e) fun e => nomatch e⟩
  · cases ev
theorem snm_tryB {f : CF} {as : List E} {b : Bool} : SndM G fu (.tryB f as b) := by
  intro X es W sx K hr m io0 F0 H0 io μ F H st σ r Z S ev P
  unfold mM at m
  split at m <;> first | contradiction | skip
  rename_i h
  cases h
  simp only [Bool.and_eq_true, decide_eq_true_eq, beq_iff_eq] at m
  obtain ⟨⟨⟨m1, rfl⟩, hg⟩, rfl⟩ := m
  have KS := K.cks io μ
  obtain ⟨fI, T⟩ := K.uns
  intro pins s I
  refine (ss_of (ps_try_only KS.stk KS.frm (c := .ref (G.ea "Unsafe")) ⟨glB_gl hg, by decide +kernel, .inl T.gC⟩ KS.tk (tb := fun W' D σ H => ∀ pn xe, Takes (X.tr pn xe) W' → PassesOwn (model X.prog X.w) X.A X.env xe → SSs (X.tr pn xe) _ D σ H)
    (ts := fun a cls d D σ H => ∀ oe pn, Zc cls d oe → (∃ vs, oe.data = .fields vs) → SSs (X.suite a ((a, oe) :: pn)) (_ :: _) D σ H) (fun W' pn xe tk po => ⟨fun pins s σ H D I h => h pn xe tk po pins s I⟩) (fun a oe cls d pn hz hf => ⟨fun pins s σ H D I h => h oe pn hz hf pins s I⟩)) ?_) pins s I
  intro pn xe tk po
  refine sss_of (pss_one (ps_expr pe_se (noComp_sw (call_comp (e := .call f as) (c := ccM G X) (sc := X.env.scope) m1) _ _ _))) ?_
  rw [evM] at ev
  have K' := ckm_tr K.toCKM0 tk
  split at ev
  · rename_i k d μ' e1
    cases ev
    refine sndC K' m1 S e1 fun v H' F' io' g hm rv f nf => ?_
    exact P σ H' F' io' (S.grm g hm) g.ff g.ii
  · rename_i d μ' e1
    cases ev
    refine sndC K' m1 S e1 fun H' F' io' dd v g hm rv hd => ?_
    refine ⟨true, T.te, fun _ a na => ?_, fun z => nomatch z⟩
    intro oe pn' hz hf
    refine sss_of (pss_one (ps_ret pe_bl)) ?_
    have S' := S.grm g hm
    exact P _ H' F' io' S'.exit hm (show Rp _ _ _ _ from .bl _) (fun e => nomatch e) fun e => nomatch e
  · cases ev
/-! ### blocks -/
theorem mMs_nil {c : Cc} {sc : Scope} {sx : List Stmt} (m : mMs c sc [] sx = true) : sx = [] := by
  cases sx with
  | nil => rfl
  | cons s sx => simp [mMs] at m
def isFrzM : M → Bool
  | .p (.frz _) => true
  | _ => false
theorem mMs_cons {c : Cc} {sc : Scope} {s : M} {ss : List M} {sx : List Stmt} (h : isFrzM s = false) (m : mMs c sc (s :: ss) sx = true) : ∃ x xs, sx = x :: xs ∧ mM c sc s x = true ∧ mMs c sc ss xs = true := by
  cases sx with
  | nil =>
    cases s with
    | p s => cases s <;> simp_all [mMs, isFrzM]
    | _ => simp_all [mMs, isFrzM]
  | cons x xs =>
    refine ⟨x, xs, rfl, ?_⟩
    cases s with
    | p s => cases s <;> simp_all [mMs, isFrzM]
    | _ => simp_all [mMs, isFrzM]
theorem smm_nil : SndMs G fu [] := by
  intro X es W sx K hr m io0 F0 H0 io μ F H st σ r Z S ev P
  cases mMs_nil m
  rw [evMs] at ev
  cases ev
  exact sss_of pss_nil (P σ H F io S (Sub.refl F) (LeI.refl io))
theorem smm_frz {i : Nat} {ss : List M} (hs : SndMs G fu ss) : SndMs G fu (.p (.frz i) :: ss) := by
  intro X es W sx K hr m io0 F0 H0 io μ F H st σ r Z S ev P
  rw [mMs] at m
  rw [raisesMs] at hr
  rw [evMs, evM, evS] at ev
  split at ev
  · rename_i b d hd
    simp only [liftS, thenM] at ev
    cases b with
    | true =>
      obtain ⟨F', f, S'⟩ := S.ok.frz hd
      exact hs X es W sx K (mem_l hr).2 m io0 F0 H0 io μ F' H _ _ r Z ⟨S', S.ii, S.ni⟩ ev (P.sub f (LeI.refl io))
    | false =>
      obtain ⟨v, h1, h2⟩ := S.ok.shr i d hd
      have e : σ.set i (some v) = σ := by
        obtain ⟨hl, q⟩ := List.getElem?_eq_some_iff.mp h1
        rw [← q]
        exact List.set_getElem_self hl
      have S' := S.setS i h2
      rw [e] at S'
      exact hs X es W sx K (mem_l hr).2 m io0 F0 H0 io μ F H _ _ r Z S' ev P
  · simp [liftS, thenM] at ev
theorem smm_cons {s : M} {ss : List M} (h : isFrzM s = false) (h1 : SndM G fu s) (hs : SndMs G fu ss) : SndMs G fu (s :: ss) := by
  intro X es W sx K hr m io0 F0 H0 io μ F H st σ r Z S ev P
  obtain ⟨x, xs, rfl, m1, m2⟩ := mMs_cons h m
  rw [raisesMs] at hr
  obtain ⟨hr1, hr2⟩ := mem_l hr
  rw [evMs] at ev
  refine sss_of (pss_cons ps_ss pss_sss) ?_
  unfold thenM at ev
  split at ev
  · rename_i st' μ' e
    exact h1 X es W x K hr1 m1 io0 F0 H0 io μ F H st σ _ _ S e fun σ' H' F' io' S' z y => hs X es W xs K hr2 m2 io0 F0 H0 io' μ' F' H' st' σ' r Z S' ev (P.sub z y)
  · rename_i h
    cases q : evM G.fl G.Φ G.Ψ G.Ψi fu s st μ with
    | none => rw [q] at ev; cases ev
    | some q' =>
      rw [q] at ev
      cases ev
      refine h1 X es W x K hr1 m1 io0 F0 H0 io μ F H st σ _ _ S q ?_
      cases r with
      | nx st2 μ2 => exact absurd q (h st2 μ2)
      | rt k d μ2 => exact P
      | ex c μ2 => exact P
      | exU d μ2 => exact P
theorem isFrzM_p {s : S} (h : isFrzM (.p s) = false) : isFrz s = false := by
  cases s <;> first | rfl | (simp [isFrzM] at h)
theorem snm_frz {i : Nat} : SndM G fu (.p (.frz i)) := by
  intro X es W sx K hr m
  exfalso
  rw [mM] at m
  unfold mS at m
  cases m
mutual
theorem sndM : ∀ s : M, SndM G fu s
  | .p s => if h : isFrz s = false then snm_p h else by
      cases s <;> first | (simp [isFrz] at h; done) | exact snm_frz
  | .ite c a b => snm_ite (sndMs a) (sndMs b)
  | .forR i n b => snm_forR (sndMs b)
  | .eff e => snm_eff
  | .effS i e => snm_effS
  | .new2 _ _ _ _ => snm_new2
  | .iteC _ _ a b => snm_iteC (sndMs a) (sndMs b)
  | .retO _ _ => snm_retO
  | .setF _ _ _ => snm_setF
  | .setTF _ _ _ _ => snm_setTF
  | .newL _ _ _ => snm_newL
  | .appC _ _ => snm_appC
  | .raiU _ => snm_raiU
  | .tryS _ _ _ => snm_tryS
  | .tryB _ _ _ => snm_tryB
  | .iteV _ a b => snm_iteV (sndMs a) (sndMs b)
  | .retC _ _ => snm_retC
theorem sndMs : ∀ ss : List M, SndMs G fu ss
  | [] => smm_nil
  | s :: ss => if h : isFrzM s = false then smm_cons h (sndM s) (sndMs ss) else by
      cases s with
      | p s => cases s <;> first | (simp [isFrzM] at h; done) | exact smm_frz (sndMs ss)
      | _ => simp [isFrzM] at h
end
end
end Dv

/-! Dm, part I: defs that change cells; the end of a law. -/
namespace Dv
open PySem PySem.Spec PyProof.Rows L2

structure DefAtM0 (K : PySem.W.Frag) (cs : List (Str × Int)) (hc ht es : List Str) (x qn : Str) (d : DefM) (fa : Addr) (fd : FuncData) (st : Stmt) : Prop where
  fn : Fun K x qn st fa fd
  ba : ∀ us : List Value, us.length = (d.nm.take d.np).length → bindArgs fd ⟨us, []⟩ = pure ((d.nm.take d.np).zip us)
  sc : FnScope d.nm (d.nm.take d.np) (defScope st)
  bd : mMs ⟨d.nm, cs, hc, ht⟩ (defScope st) d.body (defBody st) = true
  rs : ∀ c ∈ raisesMs d.body, c ∈ es
  np : d.np ≤ d.nm.length
structure DefAtM (K : PySem.W.Frag) (mg : Str → Option Value) (cs : List (Str × Int)) (hc ht es : List Str) (f : Str) (d : DefM) (fa : Addr) (fd : FuncData) (st : Stmt) : Prop extends DefAtM0 K cs hc ht es f f d fa fd st where
  g : mg f = some (.ref fa)
theorem runDM_len {fl : List (Str × Str)} {Φ : Mu → Str → List D → Option EO} {Ψ Ψi : Mu → Str → List D → Option RO} {fu : Nat} {d : DefM} {ds : List D} {μ : Mu} {r : RO} (h : runDM fl Φ Ψ Ψi fu d ds μ = some r) : ds.length = d.np := by
  unfold runDM at h
  split at h
  · assumption
  · cases h
theorem sp_lenM {K : PySem.W.Frag} {ca ea : Str → Addr} {φ : Mu → List D → Option RO} {n : Nat} (h : ∀ μ ds r, φ μ ds = some r → ds.length = n) : ∀ vs H Q E, spM K ca ea φ vs H Q E → vs.length = n := fun vs H Q E ⟨_, μ, F, ds, r, _, _, q, e, _⟩ => by
  rw [q.length]
  exact h μ ds r e
section
variable {P : Program} {w : World} {K : PySem.W.Frag} {ca ea : Str → Addr} {mg : Str → Option Value} {base : Heap} {cs : List (Str × Int)} {hc ht es : List Str}
/-- what is known of the callees -/
structure Callees (P : Program) (w : World) (K : PySem.W.Frag) (mg : Str → Option Value) (base : Heap) (ca ea : Str → Addr) (fl : List (Str × Str)) (Φ : Mu → Str → List D → Option EO) (Ψ Ψi : Mu → Str → List D → Option RO) (n : Nat) : Prop where
  op : ∀ μ o ds r, (∀ c m, o ≠ .mth c m) → Φ μ (opName o) ds = some r → opD fl μ o ds = some r
  cls : ∀ c f, (c, f) ∈ fl → Cls K (ca c) ∧ NoAttr K (ca c) f
  mt : ∀ μ c m ds r, Φ μ (opName (.mth c m)) ds = some r → rcvD μ c m ds = true ∧ ∃ fa fd ps, Cls K (ca c) ∧ Meth K (ca c) m fa ∧ Binds K fd ps [] ∧ FnOk P w K mg base (L2.CX P w) n fa fd ps (spOf ⟨K, fun _ => none, μ, ca⟩ ea (Φ μ (opName (.mth c m))))
  fn : ∀ μ f ds r, isOp f = false → Φ μ f ds = some r → ∃ fa fd ps, mg f = some (.ref fa) ∧ PySem.W.keepIn K (.ref fa) = true ∧ Binds K fd ps [] ∧ FnOk P w K mg base (L2.CX P w) n fa fd ps (spOf ⟨K, fun _ => none, μ, ca⟩ ea (Φ μ f))
  fnM : ∀ f μ ds r, isOp f = false → Ψ μ f ds = some r → ∃ fa fd ps, mg f = some (.ref fa) ∧ PySem.W.keepIn K (.ref fa) = true ∧ Binds K fd ps [] ∧ FnOk P w K mg base (L2.CX P w) n fa fd ps (spM K ca ea fun μ => Ψ μ f)
  mtM : ∀ c m μ ds r, Ψ μ (opName (.mth c m)) ds = some r → rcvD μ c m ds = true ∧ ∃ fa fd ps, Cls K (ca c) ∧ Meth K (ca c) m fa ∧ Binds K fd ps [] ∧ FnOk P w K mg base (L2.CX P w) n fa fd ps (spM K ca ea fun μ => Ψ μ (opName (.mth c m)))
  newM : ∀ c μ ds r, Ψi μ (opName (.mth c "__init__")) ds = some r → ∃ j fa fd ps, n = j + 1 ∧ mg c = some (.ref (ca c)) ∧ Mk K (ca c) fa ∧ Binds K fd ps [] ∧ FnOk P w K mg base (L2.CX P w) j fa fd ps (spM K ca ea fun μ => Ψi μ (opName (.mth c "__init__")))
theorem fn_atM {fl : List (Str × Str)} {Φ : Mu → Str → List D → Option EO} {Ψ Ψi : Mu → Str → List D → Option RO} {n fu : Nat} {x qn : Str} {d : DefM} {fa : Addr} {fd : FuncData} {st : Stmt} (T : TopOK K mg cs hc ht es ea) (U : ∃ fI, PySem.UnsX.UnsTxt K mg (ea "Unsafe") fI) (A : DefAtM0 K cs hc ht es x qn d fa fd st) (C : Callees P w K mg base ca ea fl Φ Ψ Ψi n) :
    FnOk P w K mg base (L2.CX P w) (n + 1) fa fd (d.nm.take d.np) (spM K ca ea fun μ ds => runDM fl Φ Ψ Ψi fu d ds μ) := by
  have hlen : (d.nm.take d.np).length = d.np := by rw [List.length_take]; exact Nat.min_eq_left A.np
  refine A.fn.okX A.sc (fun vs H Q E h => ?_) fun cdv Ar outer s H vs Q E hr h => ?_
  · rw [hlen]
    exact sp_lenM (fun μ ds r e => runDM_len e) vs H Q E h
  · obtain ⟨io, μ, F, ds, r, hs, hm, q, e, p⟩ := h
    have e : runDM fl Φ Ψ Ψi fu d ds μ = some r := e
    have hdl := runDM_len e
    unfold runDM at e
    rw [if_pos hdl] at e
    cases eb : evMs fl Φ Ψ Ψi fu d.body (startM d ds) μ with
    | none => rw [eb] at e; cases e
    | some o =>
      rw [eb] at e
      have KM : CKM ⟨fl, K, ca, Φ, Ψ, Ψi, ea, n, cs, hc, ht⟩ es (fun cls dd _ H => E cls dd H) (cxOf (L2.CX P w) P w K mg base d.nm qn (defScope st) fa cdv Ar outer s H E) :=
        { ck := fun io μ => { kk := rfl, nd := A.sc.nd, calm := rfl, room := hr, bl := T.bl, fn := C.fn μ, op := C.op μ, cls := C.cls, mt := C.mt μ, gl := T.gl, tk := takes_of rfl rfl rfl rfl },
          fnM := C.fnM, mtM := C.mtM, newM := C.newM, uns := U,
          cks := fun io μ => { kk := rfl, nd := A.sc.nd, calm := rfl, room := hr, bl := T.bl, fn := C.fn μ, op := C.op μ, cls := C.cls, mt := C.mt μ, gl := T.gl, tk := takes_of rfl rfl rfl rfl, po := passes_of rfl, fnT := fun _ => rfl, kd := A.sc.kind, hot := T.hot, hg := T.hg, stk := rfl, frm := rfl, rs := fun c hc hg hp m j p p2 pos => pmk_own PySem.F.excBase_ValueError (T.ex c hc).q (T.ex c hc).g (T.ex c hc).k (raises_own (T.ex c hc).b (T.ex c hc).t) hg (plain_all hp).1 } }
      refine ⟨_, pss_sss, ?_⟩
      have S0 : StM K ca io F H io μ F H (startM d ds) (L2.start d.nm vs) := ⟨start_ok (d := ⟨d.np, d.nm, []⟩) hs (fun a o e => (cut_some e).1) hm q hdl A.np, LeI.refl io, fun _ _ e => .inl e⟩
      refine sndMs d.body _ es _ _ KM A.rs A.bd io F H io μ F H _ _ o _ S0 eb ?_
      cases o with
      | nx st2 μ2 =>
        cases e
        exact fun σ' H' F' io' S' z y => p _ H' F' io' S'.exit S'.ok.cel (show Rp _ _ _ _ from .non) (fun e => nomatch e) fun e => nomatch e
      | rt k dd μ2 =>
        cases k with
        | brw => cases e
        | shr => cases e; exact fun v H' F' io' g hm' r f nf => p v H' F' io' g hm' r f nf
        | frs => cases e; exact fun v H' F' io' g hm' r f nf => p v H' F' io' g hm' r f nf
      | ex c μ2 =>
        cases e
        exact fun σ' H' F' io' g hm' => p H' F' io' g hm'
      | exU dd μ2 =>
        cases e
        exact fun σ' H' F' io' dx v g hm' rv hd => p H' F' io' dx v g hm' rv hd
/-- a class's methods that change cells -/
def MtAtM (K : PySem.W.Frag) (mg : Str → Option Value) (ca : Str → Addr) (cs : List (Str × Int)) (hc ht es : List Str) (x : Str × Str × DefM) : Prop := ∃ fa fd st qn, Cls K (ca x.1) ∧ Meth K (ca x.1) x.2.1 fa ∧ DefAtM0 K cs hc ht es x.2.1 qn x.2.2 fa fd st ∧ (x.2.1 = "__init__" → Mk K (ca x.1) fa ∧ mg x.1 = some (.ref (ca x.1)))
theorem mtAtM_name {T : TbM} {f : Str} {x : Str × Str × DefM} (h : mtAtM T f = some x) : opName (.mth x.1 x.2.1) = f ∧ x ∈ T.mt := ⟨by simpa using List.find?_some h, List.mem_of_find?_eq_some h⟩
theorem mtAtM_none {T : TbM} {f : Str} (h : isOp f = false) : mtAtM T f = none := by
  cases e : mtAtM T f with
  | none => rfl
  | some x =>
    have := (mtAtM_name e).1
    rw [← this, opName_is] at h
    cases h
theorem stepM_mt {T : TbM} {fu : Nat} {Φ : Mu → Str → List D → Option EO} {Ψ Ψi : Mu → Str → List D → Option RO} {c m : Str} {x : Str × Str × DefM} (e : mtAtM T (opName (.mth c m)) = some x) (μ : Mu) (ds : List D) : stepM T fu Φ Ψ Ψi μ (opName (.mth c m)) ds = if rcvD μ c m ds = true then runDM T.r.fl Φ Ψ Ψi fu x.2.2 ds μ else none := by
  obtain ⟨h1, _⟩ := mtAtM_name e
  obtain ⟨h2, h3⟩ := mth_inj h1
  unfold stepM
  rw [e]
  simp only [h2, h3]
/-- all defs keep their promises -/
theorem all_okM {T : TbM} (no : noOps T.r.tab = true) {fu : Nat} (O : TopOK K mg cs hc ht es ea) (U : ∃ fI, PySem.UnsX.UnsTxt K mg (ea "Unsafe") fI) (DA : ∀ p ∈ T.r.tab, ∃ fa fd st, DefAt K mg cs hc ht es p.1 p.2 fa fd st) (MA : ∀ x ∈ T.r.mt, MtAt K ca cs hc ht es x)
    (hcl : ∀ c f, (c, f) ∈ T.r.fl → Cls K (ca c) ∧ NoAttr K (ca c) f) (DM : ∀ p ∈ T.fn, ∃ fa fd st, DefAtM K mg cs hc ht es p.1 p.2 fa fd st) (MM : ∀ x ∈ T.mt, MtAtM K mg ca cs hc ht es x) : ∀ n : Nat,
    Callees P w K mg base ca ea T.r.fl (fun μ => runR T.r μ fu n) (runM2 T fu n).1 (runM2 T fu n).2 n ∧
    ∀ c μ ds r, (runM2 T fu n).1 μ (opName (.mth c "__init__")) ds = some r → ∃ fa fd ps, mg c = some (.ref (ca c)) ∧ Mk K (ca c) fa ∧ Binds K fd ps [] ∧ FnOk P w K mg base (L2.CX P w) n fa fd ps (spM K ca ea fun μ => (runM2 T fu n).1 μ (opName (.mth c "__init__")))
  | 0 => ⟨{ op := fun μ o ds r h e => by rw [runR_op h] at e; exact e
            cls := hcl
            mt := fun μ => (readers_ok no (μ := μ) (fu := fu) O DA MA hcl 0).2
            fn := fun μ => (readers_ok no (μ := μ) (fu := fu) O DA MA hcl 0).1
            fnM := fun f μ ds r _ e => by cases e
            mtM := fun c m μ ds r e => by cases e
            newM := fun c μ ds r e => by cases e }, fun c μ ds r e => by cases e⟩
  | n + 1 => by
    obtain ⟨ih, ihn⟩ := all_okM no O U DA MA hcl DM MM n
    have go : ∀ {x qn : Str} {d : DefM} {fa : Addr} {fd : FuncData} {st : Stmt}, DefAtM0 K cs hc ht es x qn d fa fd st → FnOk P w K mg base (L2.CX P w) (n + 1) fa fd (d.nm.take d.np) (spM K ca ea fun μ ds => runDM T.r.fl (fun μ => runR T.r μ fu n) (runM2 T fu n).1 (runM2 T fu n).2 fu d ds μ) := fun A => fn_atM O U A ih
    have meth : ∀ (c m : Str) (μ : Mu) (ds : List D) (r : RO), (runM2 T fu (n + 1)).1 μ (opName (.mth c m)) ds = some r → rcvD μ c m ds = true ∧ ∃ fa fd ps, Cls K (ca c) ∧ Meth K (ca c) m fa ∧ Binds K fd ps [] ∧ FnOk P w K mg base (L2.CX P w) (n + 1) fa fd ps (spM K ca ea fun μ => (runM2 T fu (n + 1)).1 μ (opName (.mth c m))) ∧ (m = "__init__" → Mk K (ca c) fa ∧ mg c = some (.ref (ca c))) := fun c m μ ds r h => by
      have h0 : stepM T fu (fun μ => runR T.r μ fu n) (runM2 T fu n).1 (runM2 T fu n).2 μ (opName (.mth c m)) ds = some r := h
      cases e : mtAtM T (opName (.mth c m)) with
      | none =>
        unfold stepM at h0
        rw [e] at h0
        simp only [opName_is, if_true] at h0
        cases h0
      | some x =>
        obtain ⟨h1, hm⟩ := mtAtM_name e
        obtain ⟨h2, h3⟩ := mth_inj h1
        rw [stepM_mt e] at h0
        split at h0
        · rename_i hr
          obtain ⟨fa, fd, st, qn, k1, k2, A, k3⟩ := MM x hm
          rw [h2] at k1 k2 k3
          rw [h3] at k2 k3
          refine ⟨hr, fa, fd, _, k1, k2, Binds.all A.ba, (go A).imp fun vs H Q E ⟨io, μ', F, ds', r', g1, g2, g3, g4, g5⟩ => ⟨io, μ', F, ds', r', g1, g2, g3, ?_, g5⟩, k3⟩
          have g4' : stepM T fu (fun μ => runR T.r μ fu n) (runM2 T fu n).1 (runM2 T fu n).2 μ' (opName (.mth c m)) ds' = some r' := g4
          rw [stepM_mt e] at g4'
          split at g4'
          · exact g4'
          · cases g4'
        · cases h0
    refine ⟨{ op := fun μ o ds r h e => by rw [runR_op h] at e; exact e
              cls := hcl
              mt := fun μ => (readers_ok no (μ := μ) (fu := fu) O DA MA hcl (n + 1)).2
              fn := fun μ => (readers_ok no (μ := μ) (fu := fu) O DA MA hcl (n + 1)).1
              fnM := fun f μ ds r ho h => ?_
              mtM := fun c m μ ds r h => ?_
              newM := fun c μ ds r h => ?_ }, fun c μ ds r h => ?_⟩
    · have h0 : stepM T fu (fun μ => runR T.r μ fu n) (runM2 T fu n).1 (runM2 T fu n).2 μ f ds = some r := h
      have eq : ∀ d, T.fn.lookup f = some d → ∀ μ ds, stepM T fu (fun μ => runR T.r μ fu n) (runM2 T fu n).1 (runM2 T fu n).2 μ f ds = runDM T.r.fl (fun μ => runR T.r μ fu n) (runM2 T fu n).1 (runM2 T fu n).2 fu d ds μ := fun d q μ ds => by
        unfold stepM
        rw [mtAtM_none ho]
        simp only [ho, Bool.false_eq_true, if_false, q]
      cases q : T.fn.lookup f with
      | none =>
        unfold stepM at h0
        rw [mtAtM_none ho] at h0
        simp only [ho, Bool.false_eq_true, if_false, q] at h0
        cases h0
      | some d =>
        obtain ⟨fa, fd, st, A⟩ := DM (f, d) (PySem.mem_of_lookup q)
        refine ⟨fa, fd, _, A.g, A.fn.kp, Binds.all A.ba, (go A.toDefAtM0).imp fun vs H Q E ⟨io, μ', F, ds', r', g1, g2, g3, g4, g5⟩ => ⟨io, μ', F, ds', r', g1, g2, g3, ?_, g5⟩⟩
        exact (eq d q μ' ds').symm.trans g4
    · obtain ⟨k0, fa, fd, ps, k1, k2, k3, k4, _⟩ := meth c m μ ds r h
      exact ⟨k0, fa, fd, ps, k1, k2, k3, k4⟩
    · obtain ⟨fa, fd, ps, k1, k2, k3, k4⟩ := ihn c μ ds r h
      exact ⟨n, fa, fd, ps, rfl, k1, k2, k3, k4⟩
    · obtain ⟨k0, fa, fd, ps, k1, k2, k3, k4, k5⟩ := meth c "__init__" μ ds r h
      obtain ⟨k6, k7⟩ := k5 rfl
      exact ⟨fa, fd, ps, k7, k6, k3, k4⟩
/-- the law's promise: it tells True -/
def spLawM (K : PySem.W.Frag) (φ : Mu → List D → Option RO) : Sp := fun vs H Q _ => ∃ F ds k μ, Sub F H ∧ Rps ⟨K, fun _ => none, [], fun _ => 0⟩ F vs ds ∧ φ [] ds = some (.ok k (.bool true) μ) ∧ ∀ H', Q (.bl true) H'
theorem law_okM {T : TbM} (no : noOps T.r.tab = true) {fu n : Nat} {d : DefM} {f : Str} {fa : Addr} {fd : FuncData} {st : Stmt} (O : TopOK K mg cs hc ht es ea) (U : ∃ fI, PySem.UnsX.UnsTxt K mg (ea "Unsafe") fI) (DA : ∀ p ∈ T.r.tab, ∃ fa fd st, DefAt K mg cs hc ht es p.1 p.2 fa fd st) (MA : ∀ x ∈ T.r.mt, MtAt K ca cs hc ht es x)
    (hcl : ∀ c f, (c, f) ∈ T.r.fl → Cls K (ca c) ∧ NoAttr K (ca c) f) (DM : ∀ p ∈ T.fn, ∃ fa fd st, DefAtM K mg cs hc ht es p.1 p.2 fa fd st) (MM : ∀ x ∈ T.mt, MtAtM K mg ca cs hc ht es x) (A : DefAtM K mg cs hc ht es f d fa fd st) (ho : isOp f = false) (h : T.fn.lookup f = some d) :
    FnOk P w K mg base (L2.CX P w) (n + 1) fa fd (d.nm.take d.np) (spLawM K fun μ => runM T fu (n + 1) μ f) := by
  have F := fn_atM (fu := fu) (P := P) (w := w) (base := base) O U A.toDefAtM0 (all_okM (T := T) (fu := fu) no O U DA MA hcl DM MM n).1
  refine F.imp fun vs H Q E ⟨F', ds, k, μ, h1, h2, h3, h4⟩ => ⟨fun _ => none, [], F', ds, .ok k (.bool true) μ, h1, ⟨fun n c e => by simp at e, fun n m a e => by simp at e, fun n a e => by simp at e⟩, Rps.up (κ := ⟨K, fun _ => none, [], fun _ => 0⟩) (κ' := ⟨K, fun _ => none, [], ca⟩) rfl (fun _ _ e => e) h2, ?_, ?_⟩
  · have h3' : stepM T fu (fun μ => runR T.r μ fu n) (runM2 T fu n).1 (runM2 T fu n).2 [] f ds = some (.ok k (.bool true) μ) := h3
    unfold stepM at h3'
    rw [mtAtM_none ho] at h3'
    simp only [ho, Bool.false_eq_true, if_false, h] at h3'
    exact h3'
  · exact fun v H' F2 io' g hm r f nf => by rw [r.boolV]; exact h4 H'
end
/-- the end of a law row -/
theorem law_walkM {l : PySem.W.OpenLaw} {n : Nat} {q : Program} {loose : List Str} {XP : (Str → Option Value) → Heap → Prop} {YP : World → Heap → Prop} {dr : DefRec} {K : Params → PySem.W.Frag} {T : TbM} {fu : Nat} {cs : List (Str × Int)} {hc ht es : List Str} {d : DefM} {x : Str}
    (hn : l.most = some 63) (hdf : dr.params.defaults = []) (hr : Room (n + 1) callerA) (hx : d.nm.take d.np = [x]) (hl : T.fn.lookup dr.name = some d) (ho : isOp dr.name = false) (no : noOps T.r.tab = true)
    (hY : ∀ (w : World) (h : Heap), YP w h → (K w.params).In h)
    (F : ∀ (w : World) (mg : Str → Option Value) (h : Heap), (K w.params).In h → h.Ns mainGlobals mg →
      ∃ ea ca fa fd st, TopOK (K w.params) mg cs hc ht es ea ∧ (∃ fI, PySem.UnsX.UnsTxt (K w.params) mg (ea "Unsafe") fI) ∧ (∀ p ∈ T.r.tab, ∃ fa fd st, DefAt (K w.params) mg cs hc ht es p.1 p.2 fa fd st) ∧ (∀ x ∈ T.r.mt, MtAt (K w.params) ca cs hc ht es x) ∧
        (∀ c f, (c, f) ∈ T.r.fl → Cls (K w.params) (ca c) ∧ NoAttr (K w.params) (ca c) f) ∧ (∀ p ∈ T.fn, ∃ fa fd st, DefAtM (K w.params) mg cs hc ht es p.1 p.2 fa fd st) ∧ (∀ x ∈ T.mt, MtAtM (K w.params) mg ca cs hc ht es x) ∧ DefAtM (K w.params) mg cs hc ht es dr.name d fa fd st)
    (hrun : ∀ ns : List Int, ns.length ≤ 63 → ∃ k μ, runM T fu (n + 1) [] dr.name [scrD ns] = some (.ok k (.bool true) μ)) :
    PySem.W.WalkO q loose XP YP l.row.toRowW dr [] (fun f vs => PySem.call f vs) := by
  refine L2.walk_of (n := 63) (k := n + 1) (x := x) (CX := fun w => L2.CX l.prog w) (sp := fun w => spLawM (K w.params) fun μ => runM T fu (n + 1) μ dr.name) hn (by decide) hdf hr hY (fun w mg fa h X G hm => ?_) (fun w H a ns hlen _ hS => ?_) fun w H s e s' z => ?_
  · obtain ⟨ea, ca, fa', fd, st, O, U, DA, MA, hcl, DM, MM, A⟩ := F w mg h X G
    have e := hm.symm.trans A.g
    cases e
    refine ⟨fd, fun s u => ?_, fun base _ _ => ?_⟩
    · have := A.ba [u] (by rw [hx]; rfl)
      rw [hx] at this
      exact .of_eq this
    · rw [← hx]
      exact law_okM no O U DA MA hcl DM MM A ho hl
  · obtain ⟨k, μ, e⟩ := hrun ns hlen
    exact ⟨H, [scrD ns], k, μ, Sub.refl H, .cons (.scr hS) .nil, e, fun _ => rfl⟩
  · obtain ⟨_, _, _, _, _, _, _, _, _, _, _, _, z⟩ := z
    exact z
end Dv

/-! Dm, part J: what is fixed in the text itself. -/
namespace Dv
open PySem PySem.Spec PyProof.Rows L2

structure DefS0 (cs : List (Str × Int)) (hc ht es : List Str) (x qn : Str) (d : DefI) (st : Stmt) : Prop where
  sc : FnScope d.nm (d.nm.take d.np) (defScope st)
  bd : mSs ⟨d.nm, cs, hc, ht⟩ (defScope st) d.body (defBody st) = true
  rs : ∀ c ∈ raisesL d.body, c ∈ es
  np : d.np ≤ d.nm.length
  ba : ∀ (kV doc pm : Value) (an : Option Addr) (cdv ct : Value) (us : List Value), us.length = (d.nm.take d.np).length → bindArgs (PySem.W.fnOf x qn (defArgs st) (defBody st) (defScope st) .none kV doc pm an cdv ct) ⟨us, []⟩ = pure ((d.nm.take d.np).zip us)
structure DefSM (cs : List (Str × Int)) (hc ht es : List Str) (x qn : Str) (d : DefM) (st : Stmt) : Prop where
  sc : FnScope d.nm (d.nm.take d.np) (defScope st)
  bd : mMs ⟨d.nm, cs, hc, ht⟩ (defScope st) d.body (defBody st) = true
  rs : ∀ c ∈ raisesMs d.body, c ∈ es
  np : d.np ≤ d.nm.length
  ba : ∀ (kV doc pm : Value) (an : Option Addr) (cdv ct : Value) (us : List Value), us.length = (d.nm.take d.np).length → bindArgs (PySem.W.fnOf x qn (defArgs st) (defBody st) (defScope st) .none kV doc pm an cdv ct) ⟨us, []⟩ = pure ((d.nm.take d.np).zip us)
section
variable {K : PySem.W.Frag} {h : Heap} {mg : Str → Option Value} {cs : List (Str × Int)} {hc ht es : List Str} {x qn : Str} {st : Stmt} {fa : Addr} {oc : Value} {od an : Option Addr} {osl : Array (Option Value)} {kV doc pm cdv ct : Value}
theorem DefS0.at0 {d : DefI} (S : DefS0 cs hc ht es x qn d st) (l : K.lookup fa = some ⟨oc, od, .func (PySem.W.fnOf x qn (defArgs st) (defBody st) (defScope st) .none kV doc pm an cdv ct), osl⟩) (c : PySem.W.codeIn K cdv qn = true) (k : PySem.W.keepIn K (.ref fa) = true) :
    DefAt0 K cs hc ht es x qn d fa (PySem.W.fnOf x qn (defArgs st) (defBody st) (defScope st) .none kV doc pm an cdv ct) st := ⟨fun_mk l c k, S.ba kV doc pm an cdv ct, S.sc, S.bd, S.rs, S.np⟩
theorem DefSM.at0 {d : DefM} (S : DefSM cs hc ht es x qn d st) (l : K.lookup fa = some ⟨oc, od, .func (PySem.W.fnOf x qn (defArgs st) (defBody st) (defScope st) .none kV doc pm an cdv ct), osl⟩) (c : PySem.W.codeIn K cdv qn = true) (k : PySem.W.keepIn K (.ref fa) = true) :
    DefAtM0 K cs hc ht es x qn d fa (PySem.W.fnOf x qn (defArgs st) (defBody st) (defScope st) .none kV doc pm an cdv ct) st := ⟨fun_mk l c k, S.ba kV doc pm an cdv ct, S.sc, S.bd, S.rs, S.np⟩
theorem DefSM.at {d : DefM} (S : DefSM cs hc ht es x x d st) (X : K.In h) (G : h.Ns mainGlobals mg) (a : PySem.W.nsIn K mainGlobals x = some (some (.ref fa))) (l : K.lookup fa = some ⟨oc, od, .func (PySem.W.fnOf x x (defArgs st) (defBody st) (defScope st) .none kV doc pm an cdv ct), osl⟩) (c : PySem.W.codeIn K cdv x = true) (k : PySem.W.keepIn K (.ref fa) = true) :
    DefAtM K mg cs hc ht es x d fa (PySem.W.fnOf x x (defArgs st) (defBody st) (defScope st) .none kV doc pm an cdv ct) st := ⟨S.at0 l c k, PySem.W.mg_of X G a⟩
/-- a method that reads -/
theorem mt_at {ca : Str → Addr} {c m : Str} {d : DefI} {fd : FuncData} (C : Cls K (ca c)) (a : PySem.W.findIn K (.ref (ca c)) m = some (some (.ref fa))) (i : PySem.W.isFn K (.ref fa) = true) (k : PySem.W.keepIn K (.ref fa) = true) (A : DefAt0 K cs hc ht es m qn d fa fd st) : MtAt K ca cs hc ht es (c, m, d) := ⟨fa, fd, st, qn, C, ⟨a, i, k⟩, A⟩
/-- a method that changes cells -/
theorem mtM_at {ca : Str → Addr} {c m : Str} {d : DefM} {fd : FuncData} (C : Cls K (ca c)) (a : PySem.W.findIn K (.ref (ca c)) m = some (some (.ref fa))) (i : PySem.W.isFn K (.ref fa) = true) (k : PySem.W.keepIn K (.ref fa) = true) (ne : m ≠ "__init__") (A : DefAtM0 K cs hc ht es m qn d fa fd st) : MtAtM K mg ca cs hc ht es (c, m, d) :=
  ⟨fa, fd, st, qn, C, ⟨a, i, k⟩, A, fun e => absurd e ne⟩
theorem init_at {ca : Str → Addr} {c : Str} {d : DefM} {fd : FuncData} (C : Cls K (ca c)) (a : PySem.W.findIn K (.ref (ca c)) "__init__" = some (some (.ref fa))) (i : PySem.W.isFn K (.ref fa) = true) (k : PySem.W.keepIn K (.ref fa) = true) (mk : PySem.W.makesIn K (ca c) = true) (kc : PySem.W.keepIn K (.ref (ca c)) = true) (g : mg c = some (.ref (ca c))) (A : DefAtM0 K cs hc ht es "__init__" qn d fa fd st) : MtAtM K mg ca cs hc ht es (c, "__init__", d) :=
  ⟨fa, fd, st, qn, C, ⟨a, i, k⟩, A, fun _ => ⟨⟨mk, a, i, kc⟩, g⟩⟩
theorem exm_self {S : Addr} (h1 : PySem.W.subIn K (.ref S) (.type "BaseException") = some true) (h2 : PySem.W.isClsIn K S = true) (h3 : PySem.W.typeIn K (.ref S) = some (.type "type")) (h4 : PySem.W.subIn K (.ref S) (.ref S) = some true) : PySem.W.exmOne K (.ref S) (.ref S) = some true := exm_own h1 h2 h3 h4
end
end Dv

namespace Law
open PySem PySem.Spec PyProof.Rows L2 Dv

def top (i : Nat) : Stmt := PySem.Challenge.pw_liveswap_k02_ran.main.body.getD i (.Pass ⟨0, 0, 0, 0⟩)
def cs : List (Str × Int) := []
def es : List Str := ["BadCount", "BadState"]
def hc : List Str := ["BadCount", "BadState"]
def ht : List Str := ["SwapError", "BadCount", "BadPlaces", "BadProgram", "BadState", "Busy", "Over", "Unsafe"]
def d_is_among : DefI := ⟨3, ["thing", "least", "most"], [
    .ret (.and [.isi (.var 0) .int, .not (.isi (.var 0) .bool), .chn .le .le (.var 1) (.var 0) (.var 2)])]⟩
def i_is_begin_0 : List E := []
def e_is_begin_1 : E := .call "is_among" [.var 2, .int 0, .idx (.var 0) (.int 1)]
def d_is_begin : DefI := ⟨2, ["program", "thing", "number"], [
    .ite (.or [.not (.isi (.var 1) .tuple), .cmp .ne (.fn .len (.var 1)) (.idx (.var 0) (.int 0))]) [
      .ret (.bl false)] [
],
    .ret (.fn .all (.cmpL e_is_begin_1 2 (.var 1) i_is_begin_0))]⟩
def d_need_state : DefI := ⟨2, ["program", "thing"], [
    .ite (.or [.not (.isi (.var 1) .tuple), .cmp .ne (.fn .len (.var 1)) (.int 2), .not (.call "is_among" [.idx (.var 1) (.int 0), .int 0, .bin .sub (.fn .len (.idx (.var 0) (.int 2))) (.int 1)])]) [
      .rai "BadState"] [
],
    .ite (.not (.call "is_begin" [.var 0, .idx (.var 1) (.int 1)])) [
      .rai "BadState"] [
],
    .ret (.var 1)]⟩
def d_with_number : DefI := ⟨3, ["numbers", "box", "number"], [
    .ret (.bin .add (.bin .add (.slc (.var 0) none (some (.var 1))) (.tup [.var 2])) (.slc (.var 0) (some (.bin .add (.var 1) (.int 1))) none))]⟩
def d_next_state : DefI := ⟨2, ["program", "state", "at", "numbers", "row"], [
    .setT [2, 3] (.var 1),
    .set 4 (.idx (.idx (.var 0) (.int 2)) (.var 2)),
    .ite (.cmp .eq (.idx (.var 4) (.int 0)) (.str "stop")) [
      .ret .non] [
],
    .ite (.cmp .eq (.idx (.var 4) (.int 0)) (.str "go")) [
      .ret (.tup [.idx (.var 4) (.int 1), .var 3])] [
],
    .ite (.cmp .eq (.idx (.var 4) (.int 0)) (.str "ask")) [
      .ret (.tup [.ife (.cmp .eq (.idx (.var 3) (.idx (.var 4) (.int 1))) (.int 0)) (.idx (.var 4) (.int 2)) (.bin .add (.var 2) (.int 1)), .var 3])] [
],
    .ite (.cmp .eq (.idx (.var 4) (.int 0)) (.str "put")) [
      .ret (.tup [.bin .add (.var 2) (.int 1), .call "with_number" [.var 3, .idx (.var 4) (.int 1), .idx (.var 4) (.int 2)]])] [
],
    .ite (.cmp .eq (.idx (.var 4) (.int 0)) (.str "more")) [
      .ret (.tup [.bin .add (.var 2) (.int 1), .call "with_number" [.var 3, .idx (.var 4) (.int 1), .bin .mod (.bin .add (.idx (.var 3) (.idx (.var 4) (.int 1))) (.int 1)) (.bin .add (.idx (.var 0) (.int 1)) (.int 1))]])] [
],
    .ite (.cmp .eq (.idx (.var 4) (.int 0)) (.str "copy")) [
      .ret (.tup [.bin .add (.var 2) (.int 1), .call "with_number" [.var 3, .idx (.var 4) (.int 1), .idx (.var 3) (.idx (.var 4) (.int 2))]])] [
],
    .ret (.tup [.bin .add (.var 2) (.int 1), .var 3])]⟩
def d_step : DefI := ⟨2, ["program", "state", "row"], [
    .exp (.call "need_state" [.var 0, .var 1]),
    .set 2 (.idx (.idx (.var 0) (.int 2)) (.idx (.var 1) (.int 0))),
    .ite (.cmp .eq (.idx (.var 2) (.int 0)) (.str "tell")) [
      .ret (.tup [.call "next_state" [.var 0, .var 1], .idx (.idx (.var 1) (.int 1)) (.idx (.var 2) (.int 1))])] [
],
    .ret (.tup [.call "next_state" [.var 0, .var 1], .non])]⟩
def e_ran_0M : E := .and [.cmp .isn (.var 1) .non, .cmp .lt (.var 4) (.var 2)]
def b_ran_1M : List S := [
  .setT [1, 5] (.call "step" [.var 0, .var 1]),
  .ite (.cmp .isn (.var 5) .non) [
    .app 3 (.var 5)] [
],
  .set 4 (.bin .add (.var 4) (.int 1))]
def d_ranM : DefM := ⟨3, ["program", "state", "most", "found", "many", "told"], [
    .p (.exp (.call "need_state" [.var 0, .var 1])),
    .p (.ite (.or [.not (.isi (.var 2) .int), .isi (.var 2) .bool, .cmp .lt (.var 2) (.int 0)]) [
  .rai "BadCount"] [
]),
    .p (.set 3 (.lst [])),
    .p (.set 4 (.int 0)),
    .p (.whl e_ran_0M b_ran_1M),
    .retC 3 (.var 1)]⟩
def e_ran_0 : E := .and [.cmp .isn (.var 1) .non, .cmp .lt (.var 4) (.var 2)]
def b_ran_1 : List S := [
      .setT [1, 5] (.call "step" [.var 0, .var 1]),
      .ite (.cmp .isn (.var 5) .non) [
        .app 3 (.var 5)] [
],
      .set 4 (.bin .add (.var 4) (.int 1))]
def d_ran : DefI := ⟨3, ["program", "state", "most", "found", "many", "told"], [
    .exp (.call "need_state" [.var 0, .var 1]),
    .ite (.or [.not (.isi (.var 2) .int), .isi (.var 2) .bool, .cmp .lt (.var 2) (.int 0)]) [
      .rai "BadCount"] [
],
    .set 3 (.lst []),
    .set 4 (.int 0),
    .whl e_ran_0 b_ran_1,
    .frz 3,
    .ret (.tup [.var 3, .var 1])]⟩
def d_law_cell_at : DefI := ⟨2, ["_law_script", "_law_k"], [
    .ite (.cmp .lt (.var 1) (.fn .len (.var 0))) [
      .ret (.idx (.var 0) (.var 1))] [
],
    .ret (.int 0)]⟩
def d_law_next : DefI := ⟨1, ["_law_seed"], [
    .ret (.bin .mod (.bin .add (.bin .mul (.var 0) (.int 48271)) (.int 11)) (.int 2147483647))]⟩
def d_law_row : DefI := ⟨4, ["_law_seed", "_law_boxes", "_law_most", "_law_many", "_law_pick", "_law_box"], [
    .set 4 (.bin .mod (.var 0) (.int 10)),
    .ite (.cmp .eq (.var 1) (.int 0)) [
      .ret (.idx (.lst [.tup [.str "go", .bin .mod (.bin .fdiv (.var 0) (.int 10)) (.var 3)], .tup [.str "stop"]]) (.bin .fdiv (.var 4) (.int 7)))] [
],
    .set 5 (.bin .mod (.bin .fdiv (.var 0) (.int 10)) (.var 1)),
    .ite (.cmp .lt (.var 4) (.int 2)) [
      .ret (.tup [.str "put", .var 5, .bin .mod (.bin .fdiv (.var 0) (.int 50)) (.bin .add (.var 2) (.int 1))])] [
],
    .ite (.cmp .lt (.var 4) (.int 4)) [
      .ret (.tup [.str "more", .var 5])] [
],
    .ite (.cmp .eq (.var 4) (.int 4)) [
      .ret (.tup [.str "copy", .var 5, .bin .mod (.bin .fdiv (.var 0) (.int 50)) (.var 1)])] [
],
    .ite (.cmp .lt (.var 4) (.int 7)) [
      .ret (.tup [.str "tell", .var 5])] [
],
    .ite (.cmp .eq (.var 4) (.int 7)) [
      .ret (.idx (.lst [.tup [.str "go", .bin .mod (.bin .fdiv (.var 0) (.int 50)) (.var 3)], .tup [.str "stop"]]) (.bin .mod (.bin .fdiv (.var 0) (.int 20)) (.int 2)))] [
],
    .ret (.tup [.str "ask", .var 5, .bin .mod (.bin .fdiv (.var 0) (.int 50)) (.var 3)])]⟩
def b_law_program_0 : List S := [
      .set 1 (.call "_law_next" [.bin .add (.var 1) (.var 6)]),
      .app 5 (.call "_law_row" [.var 1, .var 2, .var 3, .var 4])]
def d_law_program : DefI := ⟨1, ["_law_cell", "_law_seed", "_law_boxes", "_law_most", "_law_many", "_law_rows", "_law_k"], [
    .set 1 (.call "_law_next" [.var 0]),
    .set 2 (.idx (.lst [.int 1, .int 2, .int 1, .int 2, .int 0, .int 3]) (.bin .mod (.var 1) (.int 6))),
    .set 3 (.bin .add (.int 1) (.bin .mod (.bin .fdiv (.var 1) (.int 6)) (.int 4))),
    .set 4 (.bin .add (.bin .add (.int 1) (.bin .mod (.bin .fdiv (.var 1) (.int 24)) (.int 7))) (.bin .mul (.int 9) (.fn .int (.cmp .eq (.bin .mod (.bin .fdiv (.var 1) (.int 200)) (.int 8)) (.int 3))))),
    .set 5 (.lst []),
    .forR 6 (.var 4) b_law_program_0,
    .ite (.cmp .nmem (.idx (.idx (.var 5) (.neg (.int 1))) (.int 0)) (.tup [.str "go", .str "stop"])) [
      .setI 5 (.neg (.int 1)) (.idx (.lst [.tup [.str "go", .bin .mod (.bin .fdiv (.var 1) (.int 7)) (.var 4)], .tup [.str "stop"]]) (.bin .fdiv (.bin .mod (.bin .fdiv (.var 1) (.int 1000)) (.int 3)) (.int 2)))] [
],
    .frz 5,
    .ret (.tup [.var 2, .var 3, .var 5])]⟩
def b_law_numbers_0 : List S := [
      .set 0 (.call "_law_next" [.bin .add (.var 0) (.var 3)]),
      .set 2 (.bin .add (.var 2) (.tup [.bin .mod (.bin .fdiv (.var 0) (.int 3)) (.bin .add (.idx (.var 1) (.int 1)) (.int 1))]))]
def d_law_numbers : DefI := ⟨2, ["_law_seed", "_law_program_here", "_law_found", "_law_box"], [
    .set 2 (.tup []),
    .forR 3 (.idx (.var 1) (.int 0)) b_law_numbers_0,
    .ret (.var 2)]⟩
def d_law_put : DefI := ⟨3, ["_law_numbers_here", "_law_box", "_law_number", "_law_row_here"], [
    .set 3 (.fn .lst (.var 0)),
    .setI 3 (.var 1) (.var 2),
    .ret (.fn .tup (.var 3))]⟩
def d_law_step : DefI := ⟨2, ["_law_program_here", "_law_state", "_law_at", "_law_numbers_here", "_law_row_here", "_law_more"], [
    .set 2 (.idx (.var 1) (.int 0)),
    .set 3 (.idx (.var 1) (.int 1)),
    .set 4 (.idx (.idx (.var 0) (.int 2)) (.var 2)),
    .ite (.cmp .eq (.idx (.var 4) (.int 0)) (.str "stop")) [
      .ret (.tup [.non, .non])] [
],
    .ite (.cmp .eq (.idx (.var 4) (.int 0)) (.str "tell")) [
      .ret (.tup [.tup [.bin .add (.var 2) (.int 1), .var 3], .idx (.var 3) (.idx (.var 4) (.int 1))])] [
],
    .ite (.or [.cmp .eq (.idx (.var 4) (.int 0)) (.str "go"), .and [.cmp .eq (.idx (.var 4) (.int 0)) (.str "ask"), .cmp .eq (.idx (.var 3) (.idx (.var 4) (.int 1))) (.int 0)]]) [
      .ret (.tup [.tup [.idx (.var 4) (.neg (.int 1)), .var 3], .non])] [
],
    .ite (.cmp .eq (.idx (.var 4) (.int 0)) (.str "put")) [
      .set 3 (.call "_law_put" [.var 3, .idx (.var 4) (.int 1), .idx (.var 4) (.int 2)])] [
],
    .ite (.cmp .eq (.idx (.var 4) (.int 0)) (.str "copy")) [
      .set 3 (.call "_law_put" [.var 3, .idx (.var 4) (.int 1), .idx (.var 3) (.idx (.var 4) (.int 2))])] [
],
    .ite (.cmp .eq (.idx (.var 4) (.int 0)) (.str "more")) [
      .set 5 (.bin .add (.idx (.var 3) (.idx (.var 4) (.int 1))) (.int 1)),
      .set 3 (.call "_law_put" [.var 3, .idx (.var 4) (.int 1), .idx (.lst [.var 5, .int 0]) (.fn .int (.cmp .gt (.var 5) (.idx (.var 0) (.int 1))))])] [
],
    .ret (.tup [.tup [.bin .add (.var 2) (.int 1), .var 3], .non])]⟩
def d_law_whole : DefI := ⟨1, ["_law_found"], [
    .ret (.and [.isi (.var 0) .int, .not (.isi (.var 0) .bool)])]⟩
def b_law_due_0 : List S := [
      .ite (.cmp .isn (.var 1) .non) [
        .setT [1, 5] (.call "_law_step" [.var 0, .var 1]),
        .ite (.cmp .isn (.var 5) .non) [
          .app 3 (.var 5)] [
]] [
]]
def d_law_due : DefI := ⟨3, ["_law_program_here", "_law_state", "_law_most", "_law_told", "_law_turn", "_law_number"], [
    .set 3 (.lst []),
    .forR 4 (.var 2) b_law_due_0,
    .frz 3,
    .ret (.tup [.var 3, .var 1])]⟩
def i_law_is_0 : List E := []
def e_law_is_1 : E := .call "_law_whole" [.var 2]
def d_law_is : DefI := ⟨2, ["_law_found", "_law_due_here", "_law_number"], [
    .ite (.or [.not (.isi (.var 0) .tuple), .cmp .ne (.fn .len (.var 0)) (.int 2), .not (.isi (.idx (.var 0) (.int 0)) .list), .cmp .ne (.var 0) (.var 1)]) [
      .ret (.bl false)] [
],
    .ret (.fn .all (.cmpL e_law_is_1 2 (.idx (.var 0) (.int 0)) i_law_is_0))]⟩
def d_law_word : DefI := ⟨3, ["_law_program_here", "_law_state", "_law_most", "e", "_law_words", "_law_others"], [
    .tryC 3 (.call "ran" [.var 0, .var 1, .var 2]) hc [(4, .add (.rep "state" (.isE "BadState")) (.rep "count" (.isE "BadCount"))), (5, .isEs ["BadPlaces", "BadProgram", "Busy", "Over", "Unsafe"])] (.add (.add (.var 4) (.rep "others" (.var 5))) (.rep "value" (.isV))),
    .ret (.lst [])]⟩
def d_lawM : DefM := ⟨1, ["_law_script", "_law_program_here", "_law_kept", "_law_state", "_law_most", "_law_odd", "_law_strange", "_law_due_here", "_law_found", "_law_again"], [
    .p (.set 1 (.call "_law_program" [.call "_law_cell_at" [.var 0, .int 0]])),
    .p (.set 2 (.tup [.idx (.var 1) (.int 0), .idx (.var 1) (.int 1), .fn .lst (.idx (.var 1) (.int 2))])),
    .p (.set 3 (.tup [.bin .mod (.call "_law_cell_at" [.var 0, .int 1]) (.fn .len (.idx (.var 1) (.int 2))), .call "_law_numbers" [.call "_law_cell_at" [.var 0, .int 2], .var 1]])),
    .p (.set 4 (.bin .mod (.bin .fdiv (.call "_law_cell_at" [.var 0, .int 3]) (.int 4)) (.int 41))),
    .p (.ite (.cmp .eq (.bin .mod (.call "_law_cell_at" [.var 0, .int 3]) (.int 4)) (.int 1)) [
  .set 5 (.idx (.lst [.bin .sub (.neg (.int 1)) (.bin .mod (.call "_law_cell_at" [.var 0, .int 4]) (.bin .pow (.int 10) (.int 12))), .bl true, .non, .str "3", .bl false, .lst [.int 3]]) (.bin .mod (.bin .fdiv (.call "_law_cell_at" [.var 0, .int 3]) (.int 4)) (.int 6))),
  .set 6 (.tup [.fn .len (.idx (.var 1) (.int 2)), .idx (.var 3) (.int 1)]),
  .ite (.cmp .ne (.call "_law_word" [.var 1, .var 6, .var 5]) (.lst [.str "state", .str "value"])) [
    .ret (.bl false)] [
],
  .ite (.cmp .ne (.call "_law_word" [.var 1, .var 6, .var 4]) (.lst [.str "state", .str "value"])) [
    .ret (.bl false)] [
],
  .ret (.cmp .eq (.call "_law_word" [.var 1, .var 3, .var 5]) (.lst [.str "count", .str "value"]))] [
]),
    .p (.set 7 (.call "_law_due" [.var 1, .var 3, .var 4])),
    .effS 8 (.call (.fn "ran") [.var 1, .var 3, .var 4]),
    .iteV (.or [.not (.call "_law_is" [.var 8, .var 7]), .cmp .ne (.var 1) (.var 2)]) [
      .p (.ret (.bl false))] [
],
    .p (.set 9 (.call "ran" [.var 1, .var 3, .bin .add (.var 4) (.int 1)])),
    .iteV (.or [.not (.call "_law_is" [.var 9, .call "_law_due" [.var 1, .var 3, .bin .add (.var 4) (.int 1)]]), .cmp .ne (.var 8) (.var 7)]) [
      .p (.ret (.bl false))] [
],
    .appC (.idx (.var 8) (.int 0)) (.int 9),
    .p (.ret (.and [.call "_law_is" [.call "ran" [.var 1, .var 3, .var 4], .var 7], .cmp .eq (.var 1) (.var 2)]))]⟩
def tab : List (Str × DefI) := [("is_among", d_is_among), ("is_begin", d_is_begin), ("need_state", d_need_state), ("with_number", d_with_number), ("next_state", d_next_state), ("step", d_step), ("ran", d_ran), ("_law_cell_at", d_law_cell_at), ("_law_next", d_law_next), ("_law_row", d_law_row), ("_law_program", d_law_program), ("_law_numbers", d_law_numbers), ("_law_put", d_law_put), ("_law_step", d_law_step), ("_law_whole", d_law_whole), ("_law_due", d_law_due), ("_law_is", d_law_is), ("_law_word", d_law_word)]
def TB : TbM := ⟨⟨tab, [], []⟩, [("ran", d_ranM), ("law", d_lawM)], []⟩
theorem run_is_among {fu n : Nat} : run tab fu (n + 1) "is_among" = runD (run tab fu n) fu d_is_among := run_eq rfl
theorem run_is_begin {fu n : Nat} : run tab fu (n + 1) "is_begin" = runD (run tab fu n) fu d_is_begin := run_eq rfl
theorem run_need_state {fu n : Nat} : run tab fu (n + 1) "need_state" = runD (run tab fu n) fu d_need_state := run_eq rfl
theorem run_with_number {fu n : Nat} : run tab fu (n + 1) "with_number" = runD (run tab fu n) fu d_with_number := run_eq rfl
theorem run_next_state {fu n : Nat} : run tab fu (n + 1) "next_state" = runD (run tab fu n) fu d_next_state := run_eq rfl
theorem run_step {fu n : Nat} : run tab fu (n + 1) "step" = runD (run tab fu n) fu d_step := run_eq rfl
theorem run_ran {fu n : Nat} : run tab fu (n + 1) "ran" = runD (run tab fu n) fu d_ran := run_eq rfl
theorem run_law_cell_at {fu n : Nat} : run tab fu (n + 1) "_law_cell_at" = runD (run tab fu n) fu d_law_cell_at := run_eq rfl
theorem run_law_next {fu n : Nat} : run tab fu (n + 1) "_law_next" = runD (run tab fu n) fu d_law_next := run_eq rfl
theorem run_law_row {fu n : Nat} : run tab fu (n + 1) "_law_row" = runD (run tab fu n) fu d_law_row := run_eq rfl
theorem run_law_program {fu n : Nat} : run tab fu (n + 1) "_law_program" = runD (run tab fu n) fu d_law_program := run_eq rfl
theorem run_law_numbers {fu n : Nat} : run tab fu (n + 1) "_law_numbers" = runD (run tab fu n) fu d_law_numbers := run_eq rfl
theorem run_law_put {fu n : Nat} : run tab fu (n + 1) "_law_put" = runD (run tab fu n) fu d_law_put := run_eq rfl
theorem run_law_step {fu n : Nat} : run tab fu (n + 1) "_law_step" = runD (run tab fu n) fu d_law_step := run_eq rfl
theorem run_law_whole {fu n : Nat} : run tab fu (n + 1) "_law_whole" = runD (run tab fu n) fu d_law_whole := run_eq rfl
theorem run_law_due {fu n : Nat} : run tab fu (n + 1) "_law_due" = runD (run tab fu n) fu d_law_due := run_eq rfl
theorem run_law_is {fu n : Nat} : run tab fu (n + 1) "_law_is" = runD (run tab fu n) fu d_law_is := run_eq rfl
theorem run_law_word {fu n : Nat} : run tab fu (n + 1) "_law_word" = runD (run tab fu n) fu d_law_word := run_eq rfl
theorem s_is_among : DefS cs hc ht es "is_among" d_is_among (top 10) :=
  ⟨⟨rfl, rfl, rfl, by decide +kernel, rfl, by decide +kernel, by decide +kernel⟩, by decide +kernel, by decide +kernel, by decide, fun _ _ _ _ _ _ us hl => match us, hl with | [_, _, _], _ => rfl⟩
theorem s_is_begin : DefS cs hc ht es "is_begin" d_is_begin (top 11) :=
  ⟨⟨rfl, rfl, rfl, by decide +kernel, rfl, by decide +kernel, by decide +kernel⟩, by decide +kernel, by decide +kernel, by decide, fun _ _ _ _ _ _ us hl => match us, hl with | [_, _], _ => rfl⟩
theorem s_need_state : DefS cs hc ht es "need_state" d_need_state (top 12) :=
  ⟨⟨rfl, rfl, rfl, by decide +kernel, rfl, by decide +kernel, by decide +kernel⟩, by decide +kernel, by decide +kernel, by decide, fun _ _ _ _ _ _ us hl => match us, hl with | [_, _], _ => rfl⟩
theorem s_with_number : DefS cs hc ht es "with_number" d_with_number (top 13) :=
  ⟨⟨rfl, rfl, rfl, by decide +kernel, rfl, by decide +kernel, by decide +kernel⟩, by decide +kernel, by decide +kernel, by decide, fun _ _ _ _ _ _ us hl => match us, hl with | [_, _, _], _ => rfl⟩
theorem s_next_state : DefS cs hc ht es "next_state" d_next_state (top 14) :=
  ⟨⟨rfl, rfl, rfl, by decide +kernel, rfl, by decide +kernel, by decide +kernel⟩, by decide +kernel, by decide +kernel, by decide, fun _ _ _ _ _ _ us hl => match us, hl with | [_, _], _ => rfl⟩
theorem s_step : DefS cs hc ht es "step" d_step (top 15) :=
  ⟨⟨rfl, rfl, rfl, by decide +kernel, rfl, by decide +kernel, by decide +kernel⟩, by decide +kernel, by decide +kernel, by decide, fun _ _ _ _ _ _ us hl => match us, hl with | [_, _], _ => rfl⟩
theorem s_ranM : DefSM cs hc ht es "ran" "ran" d_ranM (top 16) :=
  ⟨⟨rfl, rfl, rfl, by decide +kernel, rfl, by decide +kernel, by decide +kernel⟩, by decide +kernel, by decide +kernel, by decide, fun _ _ _ _ _ _ us hl => match us, hl with | [_, _, _], _ => rfl⟩
theorem s_ran : DefS cs hc ht es "ran" d_ran (top 16) :=
  ⟨⟨rfl, rfl, rfl, by decide +kernel, rfl, by decide +kernel, by decide +kernel⟩, by decide +kernel, by decide +kernel, by decide, fun _ _ _ _ _ _ us hl => match us, hl with | [_, _, _], _ => rfl⟩
theorem s_law_cell_at : DefS cs hc ht es "_law_cell_at" d_law_cell_at (top 18) :=
  ⟨⟨rfl, rfl, rfl, by decide +kernel, rfl, by decide +kernel, by decide +kernel⟩, by decide +kernel, by decide +kernel, by decide, fun _ _ _ _ _ _ us hl => match us, hl with | [_, _], _ => rfl⟩
theorem s_law_next : DefS cs hc ht es "_law_next" d_law_next (top 19) :=
  ⟨⟨rfl, rfl, rfl, by decide +kernel, rfl, by decide +kernel, by decide +kernel⟩, by decide +kernel, by decide +kernel, by decide, fun _ _ _ _ _ _ us hl => match us, hl with | [_], _ => rfl⟩
theorem s_law_row : DefS cs hc ht es "_law_row" d_law_row (top 20) :=
  ⟨⟨rfl, rfl, rfl, by decide +kernel, rfl, by decide +kernel, by decide +kernel⟩, by decide +kernel, by decide +kernel, by decide, fun _ _ _ _ _ _ us hl => match us, hl with | [_, _, _, _], _ => rfl⟩
theorem s_law_program : DefS cs hc ht es "_law_program" d_law_program (top 21) :=
  ⟨⟨rfl, rfl, rfl, by decide +kernel, rfl, by decide +kernel, by decide +kernel⟩, by decide +kernel, by decide +kernel, by decide, fun _ _ _ _ _ _ us hl => match us, hl with | [_], _ => rfl⟩
theorem s_law_numbers : DefS cs hc ht es "_law_numbers" d_law_numbers (top 22) :=
  ⟨⟨rfl, rfl, rfl, by decide +kernel, rfl, by decide +kernel, by decide +kernel⟩, by decide +kernel, by decide +kernel, by decide, fun _ _ _ _ _ _ us hl => match us, hl with | [_, _], _ => rfl⟩
theorem s_law_put : DefS cs hc ht es "_law_put" d_law_put (top 23) :=
  ⟨⟨rfl, rfl, rfl, by decide +kernel, rfl, by decide +kernel, by decide +kernel⟩, by decide +kernel, by decide +kernel, by decide, fun _ _ _ _ _ _ us hl => match us, hl with | [_, _, _], _ => rfl⟩
theorem s_law_step : DefS cs hc ht es "_law_step" d_law_step (top 24) :=
  ⟨⟨rfl, rfl, rfl, by decide +kernel, rfl, by decide +kernel, by decide +kernel⟩, by decide +kernel, by decide +kernel, by decide, fun _ _ _ _ _ _ us hl => match us, hl with | [_, _], _ => rfl⟩
theorem s_law_whole : DefS cs hc ht es "_law_whole" d_law_whole (top 25) :=
  ⟨⟨rfl, rfl, rfl, by decide +kernel, rfl, by decide +kernel, by decide +kernel⟩, by decide +kernel, by decide +kernel, by decide, fun _ _ _ _ _ _ us hl => match us, hl with | [_], _ => rfl⟩
theorem s_law_due : DefS cs hc ht es "_law_due" d_law_due (top 26) :=
  ⟨⟨rfl, rfl, rfl, by decide +kernel, rfl, by decide +kernel, by decide +kernel⟩, by decide +kernel, by decide +kernel, by decide, fun _ _ _ _ _ _ us hl => match us, hl with | [_, _, _], _ => rfl⟩
theorem s_law_is : DefS cs hc ht es "_law_is" d_law_is (top 27) :=
  ⟨⟨rfl, rfl, rfl, by decide +kernel, rfl, by decide +kernel, by decide +kernel⟩, by decide +kernel, by decide +kernel, by decide, fun _ _ _ _ _ _ us hl => match us, hl with | [_, _], _ => rfl⟩
theorem s_law_word : DefS cs hc ht es "_law_word" d_law_word (top 28) :=
  ⟨⟨rfl, rfl, rfl, by decide +kernel, rfl, by decide +kernel, by decide +kernel⟩, by decide +kernel, by decide +kernel, by decide, fun _ _ _ _ _ _ us hl => match us, hl with | [_, _, _], _ => rfl⟩
theorem s_lawM : DefSM cs hc ht es "law" "law" d_lawM (top 29) :=
  ⟨⟨rfl, rfl, rfl, by decide +kernel, rfl, by decide +kernel, by decide +kernel⟩, by decide +kernel, by decide +kernel, by decide, fun _ _ _ _ _ _ us hl => match us, hl with | [_], _ => rfl⟩
theorem all_mk {K : PySem.W.Frag} {h : Heap} {mg : Str → Option Value} (X : K.In h) (G : h.Ns mainGlobals mg)
    {fa0 : Addr} {od0 an0 : Option Addr} {sl0 : Array (Option Value)} {oc0 kV0 dc0 pm0 cd0 ct0 : Value}
    {fa1 : Addr} {od1 an1 : Option Addr} {sl1 : Array (Option Value)} {oc1 kV1 dc1 pm1 cd1 ct1 : Value}
    {fa2 : Addr} {od2 an2 : Option Addr} {sl2 : Array (Option Value)} {oc2 kV2 dc2 pm2 cd2 ct2 : Value}
    {fa3 : Addr} {od3 an3 : Option Addr} {sl3 : Array (Option Value)} {oc3 kV3 dc3 pm3 cd3 ct3 : Value}
    {fa4 : Addr} {od4 an4 : Option Addr} {sl4 : Array (Option Value)} {oc4 kV4 dc4 pm4 cd4 ct4 : Value}
    {fa5 : Addr} {od5 an5 : Option Addr} {sl5 : Array (Option Value)} {oc5 kV5 dc5 pm5 cd5 ct5 : Value}
    {fa6 : Addr} {od6 an6 : Option Addr} {sl6 : Array (Option Value)} {oc6 kV6 dc6 pm6 cd6 ct6 : Value}
    {fa7 : Addr} {od7 an7 : Option Addr} {sl7 : Array (Option Value)} {oc7 kV7 dc7 pm7 cd7 ct7 : Value}
    {fa8 : Addr} {od8 an8 : Option Addr} {sl8 : Array (Option Value)} {oc8 kV8 dc8 pm8 cd8 ct8 : Value}
    {fa9 : Addr} {od9 an9 : Option Addr} {sl9 : Array (Option Value)} {oc9 kV9 dc9 pm9 cd9 ct9 : Value}
    {fa10 : Addr} {od10 an10 : Option Addr} {sl10 : Array (Option Value)} {oc10 kV10 dc10 pm10 cd10 ct10 : Value}
    {fa11 : Addr} {od11 an11 : Option Addr} {sl11 : Array (Option Value)} {oc11 kV11 dc11 pm11 cd11 ct11 : Value}
    {fa12 : Addr} {od12 an12 : Option Addr} {sl12 : Array (Option Value)} {oc12 kV12 dc12 pm12 cd12 ct12 : Value}
    {fa13 : Addr} {od13 an13 : Option Addr} {sl13 : Array (Option Value)} {oc13 kV13 dc13 pm13 cd13 ct13 : Value}
    {fa14 : Addr} {od14 an14 : Option Addr} {sl14 : Array (Option Value)} {oc14 kV14 dc14 pm14 cd14 ct14 : Value}
    {fa15 : Addr} {od15 an15 : Option Addr} {sl15 : Array (Option Value)} {oc15 kV15 dc15 pm15 cd15 ct15 : Value}
    {fa16 : Addr} {od16 an16 : Option Addr} {sl16 : Array (Option Value)} {oc16 kV16 dc16 pm16 cd16 ct16 : Value}
    {fa17 : Addr} {od17 an17 : Option Addr} {sl17 : Array (Option Value)} {oc17 kV17 dc17 pm17 cd17 ct17 : Value}
    {fa18 : Addr} {od18 an18 : Option Addr} {sl18 : Array (Option Value)} {oc18 kV18 dc18 pm18 cd18 ct18 : Value}
    {C0 : Addr}
    {C1 : Addr}
    {C2 : Addr}
    {C3 : Addr}
    {C4 : Addr}
    {C5 : Addr}
    {C6 : Addr}
    {C7 : Addr}
    {CS fU NU : Addr} {nmU qU : Str} {bsU : List Value} {snU : List Str} {subU : List Value} {abU : Bool} {colU : Option Bool} {ddU : Option Addr} {u0 u1 u2 u3 u5 : Option Value} {odU anU : Option Addr} {slU : Array (Option Value)} {ocU dcU pmU cdU ctU : Value}
    (a0 : PySem.W.nsIn K mainGlobals "is_among" = some (some (.ref fa0))) (l0 : K.lookup fa0 = some ⟨oc0, od0, .func (PySem.W.fnOf "is_among" "is_among" (defArgs (top 10)) (defBody (top 10)) (defScope (top 10)) .none kV0 dc0 pm0 an0 cd0 ct0), sl0⟩) (c0 : PySem.W.codeIn K cd0 "is_among" = true) (k0 : PySem.W.keepIn K (.ref fa0) = true)
    (a1 : PySem.W.nsIn K mainGlobals "is_begin" = some (some (.ref fa1))) (l1 : K.lookup fa1 = some ⟨oc1, od1, .func (PySem.W.fnOf "is_begin" "is_begin" (defArgs (top 11)) (defBody (top 11)) (defScope (top 11)) .none kV1 dc1 pm1 an1 cd1 ct1), sl1⟩) (c1 : PySem.W.codeIn K cd1 "is_begin" = true) (k1 : PySem.W.keepIn K (.ref fa1) = true)
    (a2 : PySem.W.nsIn K mainGlobals "need_state" = some (some (.ref fa2))) (l2 : K.lookup fa2 = some ⟨oc2, od2, .func (PySem.W.fnOf "need_state" "need_state" (defArgs (top 12)) (defBody (top 12)) (defScope (top 12)) .none kV2 dc2 pm2 an2 cd2 ct2), sl2⟩) (c2 : PySem.W.codeIn K cd2 "need_state" = true) (k2 : PySem.W.keepIn K (.ref fa2) = true)
    (a3 : PySem.W.nsIn K mainGlobals "with_number" = some (some (.ref fa3))) (l3 : K.lookup fa3 = some ⟨oc3, od3, .func (PySem.W.fnOf "with_number" "with_number" (defArgs (top 13)) (defBody (top 13)) (defScope (top 13)) .none kV3 dc3 pm3 an3 cd3 ct3), sl3⟩) (c3 : PySem.W.codeIn K cd3 "with_number" = true) (k3 : PySem.W.keepIn K (.ref fa3) = true)
    (a4 : PySem.W.nsIn K mainGlobals "next_state" = some (some (.ref fa4))) (l4 : K.lookup fa4 = some ⟨oc4, od4, .func (PySem.W.fnOf "next_state" "next_state" (defArgs (top 14)) (defBody (top 14)) (defScope (top 14)) .none kV4 dc4 pm4 an4 cd4 ct4), sl4⟩) (c4 : PySem.W.codeIn K cd4 "next_state" = true) (k4 : PySem.W.keepIn K (.ref fa4) = true)
    (a5 : PySem.W.nsIn K mainGlobals "step" = some (some (.ref fa5))) (l5 : K.lookup fa5 = some ⟨oc5, od5, .func (PySem.W.fnOf "step" "step" (defArgs (top 15)) (defBody (top 15)) (defScope (top 15)) .none kV5 dc5 pm5 an5 cd5 ct5), sl5⟩) (c5 : PySem.W.codeIn K cd5 "step" = true) (k5 : PySem.W.keepIn K (.ref fa5) = true)
    (a6 : PySem.W.nsIn K mainGlobals "ran" = some (some (.ref fa6))) (l6 : K.lookup fa6 = some ⟨oc6, od6, .func (PySem.W.fnOf "ran" "ran" (defArgs (top 16)) (defBody (top 16)) (defScope (top 16)) .none kV6 dc6 pm6 an6 cd6 ct6), sl6⟩) (c6 : PySem.W.codeIn K cd6 "ran" = true) (k6 : PySem.W.keepIn K (.ref fa6) = true)
    (a7 : PySem.W.nsIn K mainGlobals "_law_cell_at" = some (some (.ref fa7))) (l7 : K.lookup fa7 = some ⟨oc7, od7, .func (PySem.W.fnOf "_law_cell_at" "_law_cell_at" (defArgs (top 18)) (defBody (top 18)) (defScope (top 18)) .none kV7 dc7 pm7 an7 cd7 ct7), sl7⟩) (c7 : PySem.W.codeIn K cd7 "_law_cell_at" = true) (k7 : PySem.W.keepIn K (.ref fa7) = true)
    (a8 : PySem.W.nsIn K mainGlobals "_law_next" = some (some (.ref fa8))) (l8 : K.lookup fa8 = some ⟨oc8, od8, .func (PySem.W.fnOf "_law_next" "_law_next" (defArgs (top 19)) (defBody (top 19)) (defScope (top 19)) .none kV8 dc8 pm8 an8 cd8 ct8), sl8⟩) (c8 : PySem.W.codeIn K cd8 "_law_next" = true) (k8 : PySem.W.keepIn K (.ref fa8) = true)
    (a9 : PySem.W.nsIn K mainGlobals "_law_row" = some (some (.ref fa9))) (l9 : K.lookup fa9 = some ⟨oc9, od9, .func (PySem.W.fnOf "_law_row" "_law_row" (defArgs (top 20)) (defBody (top 20)) (defScope (top 20)) .none kV9 dc9 pm9 an9 cd9 ct9), sl9⟩) (c9 : PySem.W.codeIn K cd9 "_law_row" = true) (k9 : PySem.W.keepIn K (.ref fa9) = true)
    (a10 : PySem.W.nsIn K mainGlobals "_law_program" = some (some (.ref fa10))) (l10 : K.lookup fa10 = some ⟨oc10, od10, .func (PySem.W.fnOf "_law_program" "_law_program" (defArgs (top 21)) (defBody (top 21)) (defScope (top 21)) .none kV10 dc10 pm10 an10 cd10 ct10), sl10⟩) (c10 : PySem.W.codeIn K cd10 "_law_program" = true) (k10 : PySem.W.keepIn K (.ref fa10) = true)
    (a11 : PySem.W.nsIn K mainGlobals "_law_numbers" = some (some (.ref fa11))) (l11 : K.lookup fa11 = some ⟨oc11, od11, .func (PySem.W.fnOf "_law_numbers" "_law_numbers" (defArgs (top 22)) (defBody (top 22)) (defScope (top 22)) .none kV11 dc11 pm11 an11 cd11 ct11), sl11⟩) (c11 : PySem.W.codeIn K cd11 "_law_numbers" = true) (k11 : PySem.W.keepIn K (.ref fa11) = true)
    (a12 : PySem.W.nsIn K mainGlobals "_law_put" = some (some (.ref fa12))) (l12 : K.lookup fa12 = some ⟨oc12, od12, .func (PySem.W.fnOf "_law_put" "_law_put" (defArgs (top 23)) (defBody (top 23)) (defScope (top 23)) .none kV12 dc12 pm12 an12 cd12 ct12), sl12⟩) (c12 : PySem.W.codeIn K cd12 "_law_put" = true) (k12 : PySem.W.keepIn K (.ref fa12) = true)
    (a13 : PySem.W.nsIn K mainGlobals "_law_step" = some (some (.ref fa13))) (l13 : K.lookup fa13 = some ⟨oc13, od13, .func (PySem.W.fnOf "_law_step" "_law_step" (defArgs (top 24)) (defBody (top 24)) (defScope (top 24)) .none kV13 dc13 pm13 an13 cd13 ct13), sl13⟩) (c13 : PySem.W.codeIn K cd13 "_law_step" = true) (k13 : PySem.W.keepIn K (.ref fa13) = true)
    (a14 : PySem.W.nsIn K mainGlobals "_law_whole" = some (some (.ref fa14))) (l14 : K.lookup fa14 = some ⟨oc14, od14, .func (PySem.W.fnOf "_law_whole" "_law_whole" (defArgs (top 25)) (defBody (top 25)) (defScope (top 25)) .none kV14 dc14 pm14 an14 cd14 ct14), sl14⟩) (c14 : PySem.W.codeIn K cd14 "_law_whole" = true) (k14 : PySem.W.keepIn K (.ref fa14) = true)
    (a15 : PySem.W.nsIn K mainGlobals "_law_due" = some (some (.ref fa15))) (l15 : K.lookup fa15 = some ⟨oc15, od15, .func (PySem.W.fnOf "_law_due" "_law_due" (defArgs (top 26)) (defBody (top 26)) (defScope (top 26)) .none kV15 dc15 pm15 an15 cd15 ct15), sl15⟩) (c15 : PySem.W.codeIn K cd15 "_law_due" = true) (k15 : PySem.W.keepIn K (.ref fa15) = true)
    (a16 : PySem.W.nsIn K mainGlobals "_law_is" = some (some (.ref fa16))) (l16 : K.lookup fa16 = some ⟨oc16, od16, .func (PySem.W.fnOf "_law_is" "_law_is" (defArgs (top 27)) (defBody (top 27)) (defScope (top 27)) .none kV16 dc16 pm16 an16 cd16 ct16), sl16⟩) (c16 : PySem.W.codeIn K cd16 "_law_is" = true) (k16 : PySem.W.keepIn K (.ref fa16) = true)
    (a17 : PySem.W.nsIn K mainGlobals "_law_word" = some (some (.ref fa17))) (l17 : K.lookup fa17 = some ⟨oc17, od17, .func (PySem.W.fnOf "_law_word" "_law_word" (defArgs (top 28)) (defBody (top 28)) (defScope (top 28)) .none kV17 dc17 pm17 an17 cd17 ct17), sl17⟩) (c17 : PySem.W.codeIn K cd17 "_law_word" = true) (k17 : PySem.W.keepIn K (.ref fa17) = true)
    (a18 : PySem.W.nsIn K mainGlobals "law" = some (some (.ref fa18))) (l18 : K.lookup fa18 = some ⟨oc18, od18, .func (PySem.W.fnOf "law" "law" (defArgs (top 29)) (defBody (top 29)) (defScope (top 29)) .none kV18 dc18 pm18 an18 cd18 ct18), sl18⟩) (c18 : PySem.W.codeIn K cd18 "law" = true) (k18 : PySem.W.keepIn K (.ref fa18) = true)
    (z0 : PySem.W.nsIn K mainGlobals "len" = some none)
    (z1 : PySem.W.nsIn K mainGlobals "range" = some none)
    (z2 : PySem.W.nsIn K mainGlobals "int" = some none)
    (z3 : PySem.W.nsIn K mainGlobals "str" = some none)
    (z4 : PySem.W.nsIn K mainGlobals "tuple" = some none)
    (z5 : PySem.W.nsIn K mainGlobals "list" = some none)
    (z6 : PySem.W.nsIn K mainGlobals "all" = some none)
    (z7 : PySem.W.nsIn K mainGlobals "isinstance" = some none)
    (z8 : PySem.W.nsIn K mainGlobals "bool" = some none)
    (z9 : PySem.W.nsIn K mainGlobals "dict" = some none)
    (z10 : PySem.W.nsIn K mainGlobals "ValueError" = some none)
    (z11 : PySem.W.nsIn K mainGlobals "set" = some none)
    (z12 : PySem.W.nsIn K mainGlobals "any" = some none)
    (xg0 : PySem.W.nsIn K mainGlobals "BadCount" = some (some (.ref C0)))
    (xq0 : PySem.W.excIn K C0 [.type "ValueError", .type "Exception", .type "BaseException", .type "object"] "ValueError.__new__" = true) (xk0 : PySem.W.keepIn K (.ref C0) = true) (xb0 : PySem.W.subIn K (.ref C0) (.type "BaseException") = some true) (xt0 : PySem.W.typeIn K (.ref C0) = some (.type "type"))
    (xg1 : PySem.W.nsIn K mainGlobals "BadState" = some (some (.ref C1)))
    (xq1 : PySem.W.excIn K C1 [.type "ValueError", .type "Exception", .type "BaseException", .type "object"] "ValueError.__new__" = true) (xk1 : PySem.W.keepIn K (.ref C1) = true) (xb1 : PySem.W.subIn K (.ref C1) (.type "BaseException") = some true) (xt1 : PySem.W.typeIn K (.ref C1) = some (.type "type"))
    (xg2 : PySem.W.nsIn K mainGlobals "SwapError" = some (some (.ref C2)))
    (xg3 : PySem.W.nsIn K mainGlobals "BadPlaces" = some (some (.ref C3)))
    (xg4 : PySem.W.nsIn K mainGlobals "BadProgram" = some (some (.ref C4)))
    (xg5 : PySem.W.nsIn K mainGlobals "Busy" = some (some (.ref C5)))
    (xg6 : PySem.W.nsIn K mainGlobals "Over" = some (some (.ref C6)))
    (xg7 : PySem.W.nsIn K mainGlobals "Unsafe" = some (some (.ref C7)))
    (i2_ : PySem.W.isClsIn K C2 = true)
    (y2 : PySem.W.typeIn K (.ref C2) = some (.type "type"))
    (s2_ : PySem.W.subIn K (.ref C2) (.ref C2) = some true)
    (yb : PySem.W.subIn K (.ref C2) (.type "BaseException") = some true)
    (i0_ : PySem.W.isClsIn K C0 = true)
    (y0 : PySem.W.typeIn K (.ref C0) = some (.type "type"))
    (s0_ : PySem.W.subIn K (.ref C0) (.ref C0) = some true)
    (i3_ : PySem.W.isClsIn K C3 = true)
    (y3 : PySem.W.typeIn K (.ref C3) = some (.type "type"))
    (s3_ : PySem.W.subIn K (.ref C3) (.ref C3) = some true)
    (i4_ : PySem.W.isClsIn K C4 = true)
    (y4 : PySem.W.typeIn K (.ref C4) = some (.type "type"))
    (s4_ : PySem.W.subIn K (.ref C4) (.ref C4) = some true)
    (i1_ : PySem.W.isClsIn K C1 = true)
    (y1 : PySem.W.typeIn K (.ref C1) = some (.type "type"))
    (s1_ : PySem.W.subIn K (.ref C1) (.ref C1) = some true)
    (i5_ : PySem.W.isClsIn K C5 = true)
    (y5 : PySem.W.typeIn K (.ref C5) = some (.type "type"))
    (s5_ : PySem.W.subIn K (.ref C5) (.ref C5) = some true)
    (i6_ : PySem.W.isClsIn K C6 = true)
    (y6 : PySem.W.typeIn K (.ref C6) = some (.type "type"))
    (s6_ : PySem.W.subIn K (.ref C6) (.ref C6) = some true)
    (i7_ : PySem.W.isClsIn K C7 = true)
    (y7 : PySem.W.typeIn K (.ref C7) = some (.type "type"))
    (s7_ : PySem.W.subIn K (.ref C7) (.ref C7) = some true)
    (hg0 : PySem.W.findIn K (.ref C0) "__getattribute__" = some (some (.builtin "BaseException.__getattribute__")))
    (hk0 : PySem.W.findIn K (.ref C0) "__getattr__" = some none)
    (hs0 : PySem.W.subIn K (.ref C0) (.type "BaseException") = some true)
    (hd0 : PySem.W.hasDictIn K C0 = true)
    (ha0 : PySem.W.findIn K (.ref C0) "__class__" = some (some (.builtin "object.__class__")))
    (hn0 : PySem.W.specialIn K (.builtin "object.__class__") "__get__" = some (some (.builtin "getset_descriptor.__get__")))
    (ht0 : PySem.W.takesIn K (.builtin "object.__class__") = some true)
    (hm0 : PySem.W.mroIn K C0 (.type "object") = some true)
    (kv0 : PySem.W.subIn K (.ref C0) (.type "ValueError") = some true)
    (ko2_0 : PySem.W.subIn K (.ref C0) (.ref C2) = some true)
    (ko0_0 : PySem.W.subIn K (.ref C0) (.ref C0) = some true)
    (ko3_0 : PySem.W.subIn K (.ref C0) (.ref C3) = some false)
    (ko4_0 : PySem.W.subIn K (.ref C0) (.ref C4) = some false)
    (ko1_0 : PySem.W.subIn K (.ref C0) (.ref C1) = some false)
    (ko5_0 : PySem.W.subIn K (.ref C0) (.ref C5) = some false)
    (ko6_0 : PySem.W.subIn K (.ref C0) (.ref C6) = some false)
    (ko7_0 : PySem.W.subIn K (.ref C0) (.ref C7) = some false)
    (hg1 : PySem.W.findIn K (.ref C1) "__getattribute__" = some (some (.builtin "BaseException.__getattribute__")))
    (hk1 : PySem.W.findIn K (.ref C1) "__getattr__" = some none)
    (hs1 : PySem.W.subIn K (.ref C1) (.type "BaseException") = some true)
    (hd1 : PySem.W.hasDictIn K C1 = true)
    (ha1 : PySem.W.findIn K (.ref C1) "__class__" = some (some (.builtin "object.__class__")))
    (hn1 : PySem.W.specialIn K (.builtin "object.__class__") "__get__" = some (some (.builtin "getset_descriptor.__get__")))
    (ht1 : PySem.W.takesIn K (.builtin "object.__class__") = some true)
    (hm1 : PySem.W.mroIn K C1 (.type "object") = some true)
    (kv1 : PySem.W.subIn K (.ref C1) (.type "ValueError") = some true)
    (ko2_1 : PySem.W.subIn K (.ref C1) (.ref C2) = some true)
    (ko0_1 : PySem.W.subIn K (.ref C1) (.ref C0) = some false)
    (ko3_1 : PySem.W.subIn K (.ref C1) (.ref C3) = some false)
    (ko4_1 : PySem.W.subIn K (.ref C1) (.ref C4) = some false)
    (ko1_1 : PySem.W.subIn K (.ref C1) (.ref C1) = some true)
    (ko5_1 : PySem.W.subIn K (.ref C1) (.ref C5) = some false)
    (ko6_1 : PySem.W.subIn K (.ref C1) (.ref C6) = some false)
    (ko7_1 : PySem.W.subIn K (.ref C1) (.ref C7) = some false)
    (xU : K.lookup C7 = some (PySem.excClassObj nmU qU C7 NU bsU [.ref CS, .type "ValueError", .type "Exception", .type "BaseException", .type "object"] true snU subU abU colU ddU u0 u1 u2 u3 u5 "ValueError.__new__"))
    (saU : PySem.W.findIn K (.ref C7) "__setattr__" = some (some (.builtin "object.__setattr__")))
    (gaU : PySem.W.findIn K (.ref C7) "__getattribute__" = some (some (.builtin "BaseException.__getattribute__")))
    (ggU : PySem.W.findIn K (.ref C7) "__getattr__" = some none)
    (nbU : PySem.W.findIn K (.ref C7) "shown" = some none)
    (a1U : PySem.W.findIn K (.ref C7) "__init__" = some (some (.ref fU)))
    (t1U : PySem.W.typeIn K (.ref fU) = some (.type "function"))
    (l1U : K.lookup fU = some ⟨ocU, odU, .func (PySem.W.fnOf "__init__" "Unsafe.__init__" (defArgs (inClass (top 8) 0)) (defBody (inClass (top 8) 0)) (defScope (inClass (top 8) 0)) .none .none dcU pmU anU cdU ctU), slU⟩)
    (c1U : PySem.W.codeIn K cdU "Unsafe.__init__" = true)
    (kCU : PySem.W.keepIn K (.ref C7) = true)
    (eCU : PySem.W.subIn K (.ref C7) (.type "BaseException") = some true)
    (hCU : PySem.W.hasDictIn K C7 = true) :
    ∃ ea ca fa fd st, TopOK K mg cs hc ht es ea ∧ (∃ fI, PySem.UnsX.UnsTxt K mg (ea "Unsafe") fI) ∧ (∀ p ∈ TB.r.tab, ∃ fa fd st, DefAt K mg cs hc ht es p.1 p.2 fa fd st) ∧ (∀ x ∈ TB.r.mt, MtAt K ca cs hc ht es x) ∧ (∀ c f, (c, f) ∈ TB.r.fl → Cls K (ca c) ∧ NoAttr K (ca c) f) ∧ (∀ p ∈ TB.fn, ∃ fa fd st, DefAtM K mg cs hc ht es p.1 p.2 fa fd st) ∧ (∀ x ∈ TB.mt, MtAtM K mg ca cs hc ht es x) ∧ DefAtM K mg cs hc ht es "law" d_lawM fa fd st :=
  ⟨fun c => if c = "BadCount" then C0 else if c = "BadState" then C1 else if c = "SwapError" then C2 else if c = "BadPlaces" then C3 else if c = "BadProgram" then C4 else if c = "Busy" then C5 else if c = "Over" then C6 else if c = "Unsafe" then C7 else 0, fun _ => 0, _, _, _, ⟨List.forall_mem_cons.mpr ⟨PySem.W.mg_none_of X G z0, List.forall_mem_cons.mpr ⟨PySem.W.mg_none_of X G z1, List.forall_mem_cons.mpr ⟨PySem.W.mg_none_of X G z2, List.forall_mem_cons.mpr ⟨PySem.W.mg_none_of X G z3, List.forall_mem_cons.mpr ⟨PySem.W.mg_none_of X G z4, List.forall_mem_cons.mpr ⟨PySem.W.mg_none_of X G z5, List.forall_mem_cons.mpr ⟨PySem.W.mg_none_of X G z6, List.forall_mem_cons.mpr ⟨PySem.W.mg_none_of X G z7, List.forall_mem_cons.mpr ⟨PySem.W.mg_none_of X G z8, List.forall_mem_cons.mpr ⟨PySem.W.mg_none_of X G z9, List.forall_mem_cons.mpr ⟨PySem.W.mg_none_of X G z10, List.forall_mem_cons.mpr ⟨PySem.W.mg_none_of X G z11, List.forall_mem_cons.mpr ⟨PySem.W.mg_none_of X G z12, fun _ m => absurd m List.not_mem_nil⟩⟩⟩⟩⟩⟩⟩⟩⟩⟩⟩⟩⟩, fun x i m => absurd m List.not_mem_nil, List.forall_mem_cons.mpr ⟨⟨PySem.W.mg_of X G xg0, xq0, xk0, xb0, xt0⟩, List.forall_mem_cons.mpr ⟨⟨PySem.W.mg_of X G xg1, xq1, xk1, xb1, xt1⟩, fun _ m => absurd m List.not_mem_nil⟩⟩, List.forall_mem_cons.mpr ⟨⟨⟨hg0, hk0, hs0, hd0, ha0, hn0, ht0, hm0⟩, (List.forall_mem_cons.mpr ⟨kit_own i2_ y2 s2_ ko2_0, List.forall_mem_cons.mpr ⟨kit_own i0_ y0 s0_ ko0_0, List.forall_mem_cons.mpr ⟨kit_own i3_ y3 s3_ ko3_0, List.forall_mem_cons.mpr ⟨kit_own i4_ y4 s4_ ko4_0, List.forall_mem_cons.mpr ⟨kit_own i1_ y1 s1_ ko1_0, List.forall_mem_cons.mpr ⟨kit_own i5_ y5 s5_ ko5_0, List.forall_mem_cons.mpr ⟨kit_own i6_ y6 s6_ ko6_0, List.forall_mem_cons.mpr ⟨kit_own i7_ y7 s7_ ko7_0, fun _ m => absurd m List.not_mem_nil⟩⟩⟩⟩⟩⟩⟩⟩), kit_val (by decide +kernel) kv0, exm_own yb i2_ y2 ko2_0⟩, List.forall_mem_cons.mpr ⟨⟨⟨hg1, hk1, hs1, hd1, ha1, hn1, ht1, hm1⟩, (List.forall_mem_cons.mpr ⟨kit_own i2_ y2 s2_ ko2_1, List.forall_mem_cons.mpr ⟨kit_own i0_ y0 s0_ ko0_1, List.forall_mem_cons.mpr ⟨kit_own i3_ y3 s3_ ko3_1, List.forall_mem_cons.mpr ⟨kit_own i4_ y4 s4_ ko4_1, List.forall_mem_cons.mpr ⟨kit_own i1_ y1 s1_ ko1_1, List.forall_mem_cons.mpr ⟨kit_own i5_ y5 s5_ ko5_1, List.forall_mem_cons.mpr ⟨kit_own i6_ y6 s6_ ko6_1, List.forall_mem_cons.mpr ⟨kit_own i7_ y7 s7_ ko7_1, fun _ m => absurd m List.not_mem_nil⟩⟩⟩⟩⟩⟩⟩⟩), kit_val (by decide +kernel) kv1, exm_own yb i2_ y2 ko2_1⟩, fun _ m => absurd m List.not_mem_nil⟩⟩, List.forall_mem_cons.mpr ⟨PySem.W.mg_of X G xg2, List.forall_mem_cons.mpr ⟨PySem.W.mg_of X G xg0, List.forall_mem_cons.mpr ⟨PySem.W.mg_of X G xg3, List.forall_mem_cons.mpr ⟨PySem.W.mg_of X G xg4, List.forall_mem_cons.mpr ⟨PySem.W.mg_of X G xg1, List.forall_mem_cons.mpr ⟨PySem.W.mg_of X G xg5, List.forall_mem_cons.mpr ⟨PySem.W.mg_of X G xg6, List.forall_mem_cons.mpr ⟨PySem.W.mg_of X G xg7, fun _ m => absurd m List.not_mem_nil⟩⟩⟩⟩⟩⟩⟩⟩⟩,
    ⟨fU, { gC := PySem.W.mg_of X G xg7, cls := ⟨nmU, qU, NU, bsU, _, snU, subU, abU, colU, ddU, u0, u1, u2, u3, u5, xU, rfl⟩, sa := saU, ga := gaU, gg := ggU, noN := nbU, iC := a1U, tC := t1U, kC := kCU, exC := eCU, tyC := y7, hdC := hCU, te := exm_self eCU i7_ y7 s7_, fn := ⟨ocU, odU, dcU, pmU, anU, cdU, ctU, slU, _, _, _, _, _, _, l1U, c1U⟩ }⟩,
    List.forall_mem_cons.mpr ⟨⟨_, _, _, s_is_among.at X G a0 l0 c0 k0⟩, List.forall_mem_cons.mpr ⟨⟨_, _, _, s_is_begin.at X G a1 l1 c1 k1⟩, List.forall_mem_cons.mpr ⟨⟨_, _, _, s_need_state.at X G a2 l2 c2 k2⟩, List.forall_mem_cons.mpr ⟨⟨_, _, _, s_with_number.at X G a3 l3 c3 k3⟩, List.forall_mem_cons.mpr ⟨⟨_, _, _, s_next_state.at X G a4 l4 c4 k4⟩, List.forall_mem_cons.mpr ⟨⟨_, _, _, s_step.at X G a5 l5 c5 k5⟩, List.forall_mem_cons.mpr ⟨⟨_, _, _, s_ran.at X G a6 l6 c6 k6⟩, List.forall_mem_cons.mpr ⟨⟨_, _, _, s_law_cell_at.at X G a7 l7 c7 k7⟩, List.forall_mem_cons.mpr ⟨⟨_, _, _, s_law_next.at X G a8 l8 c8 k8⟩, List.forall_mem_cons.mpr ⟨⟨_, _, _, s_law_row.at X G a9 l9 c9 k9⟩, List.forall_mem_cons.mpr ⟨⟨_, _, _, s_law_program.at X G a10 l10 c10 k10⟩, List.forall_mem_cons.mpr ⟨⟨_, _, _, s_law_numbers.at X G a11 l11 c11 k11⟩, List.forall_mem_cons.mpr ⟨⟨_, _, _, s_law_put.at X G a12 l12 c12 k12⟩, List.forall_mem_cons.mpr ⟨⟨_, _, _, s_law_step.at X G a13 l13 c13 k13⟩, List.forall_mem_cons.mpr ⟨⟨_, _, _, s_law_whole.at X G a14 l14 c14 k14⟩, List.forall_mem_cons.mpr ⟨⟨_, _, _, s_law_due.at X G a15 l15 c15 k15⟩, List.forall_mem_cons.mpr ⟨⟨_, _, _, s_law_is.at X G a16 l16 c16 k16⟩, List.forall_mem_cons.mpr ⟨⟨_, _, _, s_law_word.at X G a17 l17 c17 k17⟩, fun _ m => absurd m List.not_mem_nil⟩⟩⟩⟩⟩⟩⟩⟩⟩⟩⟩⟩⟩⟩⟩⟩⟩⟩,
    fun _ m => absurd m List.not_mem_nil,
    fun _ _ m => absurd m List.not_mem_nil,
    List.forall_mem_cons.mpr ⟨⟨_, _, _, s_ranM.at X G a6 l6 c6 k6⟩, List.forall_mem_cons.mpr ⟨⟨_, _, _, s_lawM.at X G a18 l18 c18 k18⟩, fun _ m => absurd m List.not_mem_nil⟩⟩,
    fun _ m => absurd m List.not_mem_nil,
    s_lawM.at X G a18 l18 c18 k18⟩
end Law

namespace Law
open PySem Dv
theorem eqv_ii (i j : Int) : PyData.eqv (.int i) (.int j) = (i == j) := by simp [PyData.eqv]
theorem eqv_ss (x y : Str) : PyData.eqv (.str x) (.str y) = (x == y) := by simp [PyData.eqv]
theorem eqv_bb (x y : Bool) : PyData.eqv (.bool x) (.bool y) = (x == y) := by simp [PyData.eqv]
theorem eqv_nn : PyData.eqv .none .none = true := by simp [PyData.eqv]
theorem eqv_in (i : Int) : PyData.eqv (.int i) .none = false := by simp [PyData.eqv]
theorem eqv_ni (i : Int) : PyData.eqv .none (.int i) = false := by simp [PyData.eqv]
theorem eqv_tn (xs : List D) : PyData.eqv (.tuple xs) .none = false := by simp [PyData.eqv]
theorem eqv_nt (xs : List D) : PyData.eqv .none (.tuple xs) = false := by simp [PyData.eqv]
theorem eqv_ti (xs : List D) (i : Int) : PyData.eqv (.tuple xs) (.int i) = false := by simp [PyData.eqv]
theorem eqv_tt (xs ys : List D) : PyData.eqv (.tuple xs) (.tuple ys) = PyData.eqvAll xs ys := by simp [PyData.eqv]
theorem eqv_ll (xs ys : List D) : PyData.eqv (.list xs) (.list ys) = PyData.eqvAll xs ys := by simp [PyData.eqv]
theorem eqvAll_nil : PyData.eqvAll [] [] = true := by simp [PyData.eqvAll]
theorem eqvAll_cons (x y : D) (xs ys : List D) : PyData.eqvAll (x :: xs) (y :: ys) = (PyData.eqv x y && PyData.eqvAll xs ys) := by simp [PyData.eqvAll]
theorem eqvAll_nc (y : D) (ys : List D) : PyData.eqvAll [] (y :: ys) = false := by simp [PyData.eqvAll]
theorem eqvAll_cn (y : D) (ys : List D) : PyData.eqvAll (y :: ys) [] = false := by simp [PyData.eqvAll]
mutual
theorem eqv_refl : ∀ d : D, d.canLay0 = true → PyData.eqv d d = true
  | .none, _ => by simp [PyData.eqv]
  | .bool b, _ => by simp [PyData.eqv]
  | .int i, _ => by simp [PyData.eqv]
  | .str s, _ => by simp [PyData.eqv]
  | .list xs, h => by rw [eqv_ll]; exact eqvAll_refl xs (by simpa [PyData.canLay0] using h)
  | .tuple xs, h => by rw [eqv_tt]; exact eqvAll_refl xs (by simpa [PyData.canLay0] using h)
  | .dict _, h => by simp [PyData.canLay0] at h
theorem eqvAll_refl : ∀ ds : List D, PyData.canLayAll0 ds = true → PyData.eqvAll ds ds = true
  | [], _ => eqvAll_nil
  | d :: ds, h => by
    simp only [PyData.canLayAll0, Bool.and_eq_true] at h
    rw [eqvAll_cons, eqv_refl d h.1, eqvAll_refl ds h.2]
    rfl
end
/-- told by parts: may be compared -/
def fine (n : Nat) (d : D) : Prop := d.canLay0 = true ∧ d.depth ≤ n
theorem fine.shaped {n : Nat} {d : D} (h : fine n d) (hn : n ≤ 64) : SeqAt.shaped d = true := by
  unfold SeqAt.shaped
  rw [h.1, Bool.true_and]
  exact decide_eq_true (Nat.le_trans h.2 hn)
theorem fine.refl {n : Nat} {d : D} (h : fine n d) : PyData.eqv d d = true := eqv_refl d h.1
theorem fine_all {n : Nat} : ∀ ds : List D, (∀ d ∈ ds, fine n d) → PyData.canLayAll0 ds = true ∧ PyData.depthAll ds ≤ n
  | [], _ => ⟨by simp [PyData.canLayAll0], by simp [PyData.depthAll]⟩
  | d :: ds, h => by
    have h1 := h d (by simp)
    have h2 := fine_all ds fun x hx => h x (by simp [hx])
    refine ⟨by simp only [PyData.canLayAll0, h1.1, h2.1]; rfl, ?_⟩
    simp only [PyData.depthAll]
    exact Nat.max_le.mpr ⟨h1.2, h2.2⟩
theorem fine_tup {n : Nat} {ds : List D} (h : ∀ d ∈ ds, fine n d) : fine (n + 1) (.tuple ds) := by
  obtain ⟨h1, h2⟩ := fine_all ds h
  exact ⟨by simp only [PyData.canLay0]; exact h1, by simp only [PyData.depth]; omega⟩
theorem fine_lst {n : Nat} {ds : List D} (h : ∀ d ∈ ds, fine n d) : fine (n + 1) (.list ds) := by
  obtain ⟨h1, h2⟩ := fine_all ds h
  exact ⟨by simp only [PyData.canLay0]; exact h1, by simp only [PyData.depth]; omega⟩
theorem fine_int (n : Nat) (i : Int) : fine n (.int i) := ⟨by simp [PyData.canLay0], by simp [PyData.depth]⟩
theorem fine_none (n : Nat) : fine n .none := ⟨by simp [PyData.canLay0], by simp [PyData.depth]⟩
theorem fine_bool (n : Nat) (b : Bool) : fine n (.bool b) := ⟨by simp [PyData.canLay0], by simp [PyData.depth]⟩
theorem fine_str (n : Nat) (s : Str) (h : PyData.strOk s = true) : fine n (.str s) := ⟨by simp [PyData.canLay0, h], by simp [PyData.depth]⟩
theorem fine.up {n m : Nat} {d : D} (h : fine n d) (hm : n ≤ m) : fine m d := ⟨h.1, Nat.le_trans h.2 hm⟩
theorem shaped_int (i : Int) : SeqAt.shaped (.int i) = true := (fine_int 0 i).shaped (by decide)
theorem shaped_none : SeqAt.shaped .none = true := (fine_none 0).shaped (by decide)
theorem shaped_bool (b : Bool) : SeqAt.shaped (.bool b) = true := (fine_bool 0 b).shaped (by decide)
theorem evSs_append (Φ : Str → List D → Option EO) (fu : Nat) : ∀ (a b : List S) (st : Ev), evSs Φ fu (a ++ b) st = thenS (evSs Φ fu a st) (evSs Φ fu b)
  | [], b, st => by simp [evSs, thenS]
  | s :: a, b, st => by
    rw [List.cons_append, evSs, evSs]
    cases h : evS Φ fu s st with
    | none => simp [thenS]
    | some r =>
      cases r with
      | nx st' => simp only [thenS]; exact evSs_append Φ fu a b st'
      | rt k d => simp [thenS]
      | ex c => simp [thenS]
end Law
namespace Law
open PySem Dv
section
variable {Φ : Str → List D → Option EO} {fu : Nat} {st : Ev} {i j : Int} {k : Kd} {d : D} {c : Str} {b : Bool} {xs ys : List D}
theorem evSs_nil : evSs Φ fu [] st = some (.nx st) := by rw [evSs]
theorem evSs_cons {s : S} {ss : List S} : evSs Φ fu (s :: ss) st = thenS (evS Φ fu s st) (evSs Φ fu ss) := by rw [evSs]









theorem thenS_nx {f : Ev → Option SO} : thenS (some (.nx st)) f = f st := rfl
theorem thenS_rt {f : Ev → Option SO} : thenS (some (.rt k d)) f = some (.rt k d) := rfl
theorem thenS_ex {f : Ev → Option SO} : thenS (some (.ex c)) f = some (.ex c) := rfl
theorem onV_ok {f : Kd → D → Option SO} : onV (some (.ok k d)) f = f k d := rfl
theorem onV_ex {f : Kd → D → Option SO} : onV (some (.ex c)) f = some (.ex c) := rfl
theorem onB_ok {f : Bool → Option SO} : onB (some (.ok .shr (.bool b))) f = f b := rfl
theorem onB_ex {f : Bool → Option SO} : onB (some (.ex c)) f = some (.ex c) := rfl
theorem bindV_ok {f : Kd → D → Option EO} : bindV (some (.ok k d)) f = f k d := rfl
theorem bindV_ex {f : Kd → D → Option EO} : bindV (some (.ex c)) f = some (.ex c) := rfl
theorem boolV_ok {f : Bool → Option EO} : boolV (some (.ok .shr (.bool b))) f = f b := rfl
theorem bindA_ok {f : List (Kd × D) → Option EO} {as : List (Kd × D)} : bindA (some (.ok as)) f = f as := rfl
theorem consA_ok {as : List (Kd × D)} : consA (some (.ok k d)) (some (.ok as)) = some (.ok ((k, d) :: as)) := rfl
theorem optI_none {f : Option Int → Option EO} : optI none f = f none := rfl
theorem optI_some {f : Option Int → Option EO} : optI (some (some (.ok .shr (.int i)))) f = f (some i) := rfl
theorem outcome_nx : outcome (some (.nx st)) = some (.ok .shr .none) := rfl
theorem outcome_shr : outcome (some (.rt .shr d)) = some (.ok .shr d) := rfl
theorem outcome_frs : outcome (some (.rt .frs d)) = some (.ok .frs d) := rfl
theorem outcome_ex : outcome (some (.ex c)) = some (.ex c) := rfl
theorem setV_shr {n : Nat} : setV st n .shr d = some (.nx (st.set n (some (false, d)))) := rfl
theorem setV_frs {n : Nat} : setV st n .frs d = some (.nx (st.set n (some (true, d)))) := rfl
theorem binD_add : binD .add (.int i) (.int j) = some (.ok .shr (.int (i + j))) := rfl
theorem binD_addT : binD .add (.tuple xs) (.tuple ys) = if xs.length + ys.length ≤ lim then some (.ok .shr (.tuple (xs ++ ys))) else none := rfl
theorem binD_addL : binD .add (.list xs) (.list ys) = if xs.length + ys.length ≤ lim then some (.ok .frs (.list (xs ++ ys))) else none := rfl
theorem binD_sub : binD .sub (.int i) (.int j) = some (.ok .shr (.int (i - j))) := rfl
theorem binD_mul : binD .mul (.int i) (.int j) = if (-(2 ^ 64) < i ∧ i < 2 ^ 64) ∨ (-(2 ^ 64) < j ∧ j < 2 ^ 64) then some (.ok .shr (.int (i * j))) else none := rfl
theorem binD_mulL : binD .mul (.list xs) (.int j) = if j ≤ 1000 ∧ -1000 ≤ j ∧ xs.length * j.toNat ≤ lim then some (.ok .frs (.list (List.replicate j.toNat xs).flatten)) else none := rfl
theorem binD_fdiv : binD .fdiv (.int i) (.int j) = if 0 < j ∧ j < 1073741824 then some (.ok .shr (.int (i / j))) else none := rfl
theorem binD_mod : binD .mod (.int i) (.int j) = if 0 < j then some (.ok .shr (.int (i % j))) else none := rfl
theorem cmpD_lt : cmpD .lt (.int i) (.int j) = some (decide (i < j)) := rfl
theorem cmpD_le : cmpD .le (.int i) (.int j) = some (decide (i ≤ j)) := rfl
theorem cmpD_gt : cmpD .gt (.int i) (.int j) = some (decide (j < i)) := rfl
theorem cmpD_ge : cmpD .ge (.int i) (.int j) = some (decide (j ≤ i)) := rfl
theorem cmpD_eq {x y : D} : cmpD .eq x y = if SeqAt.shaped x = true ∧ SeqAt.shaped y = true then some (PyData.eqv x y) else none := by cases x <;> cases y <;> rfl
theorem cmpD_ne {x y : D} : cmpD .ne x y = if SeqAt.shaped x = true ∧ SeqAt.shaped y = true then some (!PyData.eqv x y) else none := by cases x <;> cases y <;> rfl
theorem cmpD_is {x : D} : cmpD .is x .none = some (isNone x) := by cases x <;> rfl
theorem cmpD_isn {x : D} : cmpD .isn x .none = some (!isNone x) := by cases x <;> rfl
theorem cmpD_memL {x : D} : cmpD .mem x (.list ys) = if SeqAt.shaped x = true ∧ SeqAt.shaped (.list ys) = true then some (ys.any fun z => PyData.eqv z x) else none := by cases x <;> rfl
theorem cmpD_nmemL {x : D} : cmpD .nmem x (.list ys) = if SeqAt.shaped x = true ∧ SeqAt.shaped (.list ys) = true then some (!ys.any fun z => PyData.eqv z x) else none := by cases x <;> rfl
theorem cmpD_memT {x : D} : cmpD .mem x (.tuple ys) = if flat x = true ∧ ys.all flat = true then some (ys.any fun z => PyData.eqv z x) else none := by cases x <;> rfl
theorem cmpD_nmemT {x : D} : cmpD .nmem x (.tuple ys) = if flat x = true ∧ ys.all flat = true then some (!ys.any fun z => PyData.eqv z x) else none := by cases x <;> rfl
theorem isN_none : isNone .none = true := rfl
theorem isN_int : isNone (.int i) = false := rfl
theorem isN_tup : isNone (.tuple xs) = false := rfl
theorem isN_lst : isNone (.list xs) = false := rfl
theorem isN_bool : isNone (.bool b) = false := rfl
theorem isN_str : isNone (.str c) = false := rfl
theorem flat_int : flat (.int i) = true := rfl
theorem flat_str : flat (.str c) = true := rfl
theorem flat_none : flat .none = true := rfl
theorem flat_bool : flat (.bool b) = true := rfl
theorem fnD_lenL : fnD .len (.list xs) = some (.ok .shr (.int xs.length)) := rfl
theorem fnD_lenT : fnD .len (.tuple xs) = some (.ok .shr (.int xs.length)) := rfl
theorem fnD_lenS : fnD .len (.dict [(.none, .list xs)]) = some (.ok .shr (.int xs.length)) := rfl
theorem fnD_intB : fnD .int (.bool b) = some (.ok .shr (.int (if b = true then 1 else 0))) := rfl
theorem fnD_str : fnD .str (.int i) = if i.natAbs < 2 ^ 64 then some (.ok .shr (.str (toString i))) else none := rfl
theorem fnD_tupL : fnD .tup (.list xs) = some (.ok .shr (.tuple xs)) := rfl
theorem fnD_tupT : fnD .tup (.tuple xs) = some (.ok .shr (.tuple xs)) := rfl
theorem fnD_lstL : fnD .lst (.list xs) = some (.ok .frs (.list xs)) := rfl
theorem fnD_lstT : fnD .lst (.tuple xs) = some (.ok .frs (.list xs)) := rfl
theorem fnD_all : fnD .all (.list xs) = (bools xs).map fun bs => .ok .shr (.bool (bs.all id)) := rfl
theorem idxD_L : idxD (.list xs) (.int i) = L2.atI xs i := rfl
theorem idxD_T : idxD (.tuple xs) (.int i) = L2.atI xs i := rfl
theorem idxD_S : idxD (.dict [(.none, .list xs)]) (.int i) = L2.atI xs i := rfl
theorem slcD_L {l h : Option Int} : slcD (.list xs) l h = some (.ok .frs (.list (cutD xs l h))) := rfl
theorem slcD_T {l h : Option Int} : slcD (.tuple xs) l h = some (.ok .shr (.tuple (cutD xs l h))) := rfl
theorem itemsD_L : itemsD (.list xs) = some xs := rfl
theorem itemsD_T : itemsD (.tuple xs) = some xs := rfl
theorem asD_shr : asD (some (.ok .shr d)) = some d := rfl
theorem asD_frs : asD (some (.ok .frs d)) = some d := rfl
theorem asB_ok : asB (some (.ok .shr (.bool b))) = some b := rfl
theorem okCall_t {as : List (Kd × D)} {r : Option EO} (h : noBrw as = true) : okCall as r = r := by unfold okCall; rw [if_pos h]
theorem okCall_s {as : List (Kd × D)} (h : scalar d = true) : okCall as (some (.ok .shr d)) = some (.ok .shr d) := by
  unfold okCall
  split
  · rfl
  · simp only [h, if_true]
theorem noBrw_nil : noBrw [] = true := rfl
theorem noBrw_shr {as : List (Kd × D)} : noBrw ((.shr, d) :: as) = noBrw as := by simp [noBrw]
theorem noBrw_frs {as : List (Kd × D)} : noBrw ((.frs, d) :: as) = noBrw as := by simp [noBrw]
theorem tests_nil : tests [] = some true := rfl
theorem tests_one {r : Option EO} : tests [r] = asB r := rfl
theorem sized_some {ys : List D} (h : ys.length ≤ lim) : sized (some ys) = some (.ok .frs (.list ys)) := by simp [sized, h]
theorem at0 : L2.atI (d :: xs) 0 = some d := by simp [L2.atI, L2.ixN]
theorem at1 {e : D} : L2.atI (d :: e :: xs) 1 = some e := by
  have : (1 : Int) < xs.length + 1 + 1 := by omega
  simp [L2.atI, L2.ixN, this]
theorem at2 {e f : D} : L2.atI (d :: e :: f :: xs) 2 = some f := by
  have : (2 : Int) < xs.length + 1 + 1 + 1 := by omega
  simp [L2.atI, L2.ixN, this]
theorem atN {n : Nat} {α : Type} {ys : List α} {y : α} (h : ys[n]? = some y) : L2.atI ys (n : Int) = some y := L2.atI_nat h
theorem atL {α : Type} {ys : List α} {y : α} (h : ys.getLast? = some y) : L2.atI ys (-1) = some y := by
  obtain ⟨zs, rfl⟩ := List.getLast?_eq_some_iff.mp h
  exact L2.atI_last zs y
theorem lim_eq : lim = 100000 := rfl
end
end Law
namespace Law
open PySem Dv
section
variable {Φ : Str → List D → Option EO} {fu : Nat} {st st' : Ev} {i j : Int} {k : Kd} {d : D} {c : Str} {b : Bool} {xs ys : List D}
/-- the bounds of a product, shut -/
def mulOk (i j : Int) : Prop := (-(2 ^ 64) < i ∧ i < 2 ^ 64) ∨ (-(2 ^ 64) < j ∧ j < 2 ^ 64)
instance : Decidable (mulOk i j) := by unfold mulOk; infer_instance
theorem mulOk_r (h1 : -18446744073709551616 < j) (h2 : j < 18446744073709551616) : mulOk i j := Or.inr ⟨by simpa using h1, by simpa using h2⟩
theorem mulOk_l (h1 : -18446744073709551616 < i) (h2 : i < 18446744073709551616) : mulOk i j := Or.inl ⟨by simpa using h1, by simpa using h2⟩
theorem binD_mul' (h : mulOk i j) : binD .mul (.int i) (.int j) = some (.ok .shr (.int (i * j))) := by rw [binD_mul]; exact if_pos h
theorem binD_mulr (h1 : -18446744073709551616 < j) (h2 : j < 18446744073709551616) : binD .mul (.int i) (.int j) = some (.ok .shr (.int (i * j))) := binD_mul' (mulOk_r h1 h2)
theorem binD_mull (h1 : -18446744073709551616 < i) (h2 : i < 18446744073709551616) : binD .mul (.int i) (.int j) = some (.ok .shr (.int (i * j))) := binD_mul' (mulOk_l h1 h2)
theorem binD_fdiv' (h1 : 0 < j) (h2 : j < 1073741824) : binD .fdiv (.int i) (.int j) = some (.ok .shr (.int (i / j))) := by rw [binD_fdiv]; exact if_pos ⟨h1, h2⟩
theorem binD_mod' (h1 : 0 < j) : binD .mod (.int i) (.int j) = some (.ok .shr (.int (i % j))) := by rw [binD_mod]; exact if_pos h1
theorem cmpD_eqi : cmpD .eq (.int i) (.int j) = some (i == j) := by rw [cmpD_eq, if_pos ⟨shaped_int i, shaped_int j⟩, eqv_ii]
theorem cmpD_nei : cmpD .ne (.int i) (.int j) = some (!(i == j)) := by rw [cmpD_ne, if_pos ⟨shaped_int i, shaped_int j⟩, eqv_ii]
theorem cmpD_eqs {x y : Str} (hx : PyData.strOk x = true) (hy : PyData.strOk y = true) : cmpD .eq (.str x) (.str y) = some (x == y) := by
  rw [cmpD_eq, if_pos ⟨(fine_str 0 x hx).shaped (by decide), (fine_str 0 y hy).shaped (by decide)⟩, eqv_ss]
theorem cmpD_eqf {n m : Nat} {x y : D} (hx : fine n x) (hy : fine m y) (hn : n ≤ 64) (hm : m ≤ 64) : cmpD .eq x y = some (PyData.eqv x y) := by
  rw [cmpD_eq, if_pos ⟨hx.shaped hn, hy.shaped hm⟩]
theorem cmpD_nef {n m : Nat} {x y : D} (hx : fine n x) (hy : fine m y) (hn : n ≤ 64) (hm : m ≤ 64) : cmpD .ne x y = some (!PyData.eqv x y) := by
  rw [cmpD_ne, if_pos ⟨hx.shaped hn, hy.shaped hm⟩]
theorem atNn {n : Nat} {α : Type} {ys : List α} (h : n < ys.length) : L2.atI ys (n : Int) = some ys[n] := atN (List.getElem?_eq_getElem h)
/-- one statement, and then the rest -/
theorem seq {s : S} {ss : List S} (h : evS Φ fu s st = some (.nx st')) : evSs Φ fu (s :: ss) st = evSs Φ fu ss st' := by rw [evSs_cons, h, thenS_nx]
theorem seq_rt {s : S} {ss : List S} (h : evS Φ fu s st = some (.rt k d)) : evSs Φ fu (s :: ss) st = some (.rt k d) := by rw [evSs_cons, h, thenS_rt]
theorem seq_ex {s : S} {ss : List S} (h : evS Φ fu s st = some (.ex c)) : evSs Φ fu (s :: ss) st = some (.ex c) := by rw [evSs_cons, h, thenS_ex]
theorem forR_of {m : Nat} {i : Nat} {n : E} {bd : List S} (h : evE Φ n st = some (.ok .shr (.int m))) (hm : m ≤ 1000000) : evS Φ fu (.forR i n bd) st = forGo (fun d st => evSs Φ fu bd (st.set i (some (false, d)))) (rngD m) st := by
  rw [evS, h, onV_ok]
  show (if (m : Int) ≤ 1000000 ∧ -1000000 ≤ (m : Int) then _ else none) = _
  rw [if_pos (by omega), Int.toNat_natCast]
theorem for_ofT {i : Nat} {n : E} {bd : List S} (h : evE Φ n st = some (.ok .shr (.tuple xs))) : evS Φ fu (.for i n bd) st = forGo (fun d st => evSs Φ fu bd (st.set i (some (false, d)))) xs st := by
  rw [evS, h, onV_ok]; rfl
theorem for_ofL {i : Nat} {n : E} {bd : List S} (h : evE Φ n st = some (.ok .shr (.list xs))) : evS Φ fu (.for i n bd) st = forGo (fun d st => evSs Φ fu bd (st.set i (some (false, d)))) xs st := by
  rw [evS, h, onV_ok]; rfl
/-- a loop keeps what each turn keeps -/
theorem forGo_inv {f : D → Ev → Option SO} (Inv : Nat → Ev → Prop) : ∀ (ds : List D) (k : Nat) (st : Ev), (∀ (j : Nat) (x : D) (st : Ev), ds[j]? = some x → Inv (k + j) st → ∃ st', f x st = some (.nx st') ∧ Inv (k + j + 1) st') → Inv k st →
    ∃ st', forGo f ds st = some (.nx st') ∧ Inv (k + ds.length) st'
  | [], k, st, _, h => ⟨st, rfl, h⟩
  | d :: ds, k, st, hs, h => by
    obtain ⟨s1, e1, h1⟩ := hs 0 d st rfl h
    obtain ⟨s2, e2, h2⟩ := forGo_inv Inv ds (k + 1) s1 (fun j x s hx hi => by
      have := hs (j + 1) x s (by simpa using hx) (by rw [show k + (j + 1) = k + 1 + j by omega]; exact hi)
      rw [show k + (j + 1) + 1 = k + 1 + j + 1 by omega] at this
      exact this) h1
    refine ⟨s2, ?_, by rw [List.length_cons, show k + (ds.length + 1) = k + 1 + ds.length by omega]; exact h2⟩
    rw [forGo, e1, thenS_nx, e2]
theorem rngD_len (m : Nat) : (rngD m).length = m := by simp [rngD]
theorem rngD_at {m j : Nat} {x : D} (h : (rngD m)[j]? = some x) : j < m ∧ x = .int (j : Int) := by
  have hj : j < (rngD m).length := (List.getElem?_eq_some_iff.mp h).1
  rw [rngD_len] at hj
  refine ⟨hj, ?_⟩
  simp [rngD, hj] at h
  exact h.symm
/-- a loop over a range -/
theorem forGo_rng {f : D → Ev → Option SO} (Inv : Nat → Ev → Prop) (m : Nat) (st : Ev) (hs : ∀ (j : Nat) (st : Ev), j < m → Inv j st → ∃ st', f (.int (j : Int)) st = some (.nx st') ∧ Inv (j + 1) st') (h : Inv 0 st) :
    ∃ st', forGo f (rngD m) st = some (.nx st') ∧ Inv m st' := by
  obtain ⟨s, e, hi⟩ := forGo_inv (f := f) Inv (rngD m) 0 st (fun j x st hx hi => by
    obtain ⟨hj, rfl⟩ := rngD_at hx
    rw [Nat.zero_add] at hi ⊢
    exact hs j st hj hi) h
  rw [rngD_len, Nat.zero_add] at hi
  exact ⟨s, e, hi⟩
/-- a loop over a list, no way out -/
theorem forGo_lst {f : D → Ev → Option SO} (Inv : Nat → Ev → Prop) (ds : List D) (st : Ev) (hs : ∀ (j : Nat) (x : D) (st : Ev), ds[j]? = some x → Inv j st → ∃ st', f x st = some (.nx st') ∧ Inv (j + 1) st') (h : Inv 0 st) :
    ∃ st', forGo f ds st = some (.nx st') ∧ Inv ds.length st' := by
  obtain ⟨s, e, hi⟩ := forGo_inv (f := f) Inv ds 0 st (fun j x st hx hi => by
    rw [Nat.zero_add] at hi ⊢
    exact hs j x st hx hi) h
  rw [Nat.zero_add] at hi
  exact ⟨s, e, hi⟩
/-- a comprehension that lets each one through -/
theorem compGo_all {tt : D → Option Bool} {te : D → Option D} {g : D → D} : ∀ ds : List D, (∀ d ∈ ds, tt d = some true ∧ te d = some (g d)) → compGo tt te ds = some (ds.map g)
  | [], _ => rfl
  | d :: ds, h => by
    rw [compGo, (h d (by simp)).1, (h d (by simp)).2, compGo_all ds (fun x hx => h x (by simp [hx]))]
    rfl
/-- as `compGo_all`, the values told by a property alone -/
theorem compGo_ex {tt : D → Option Bool} {te : D → Option D} (P : D → D → Prop) : ∀ ds : List D, (∀ d ∈ ds, tt d = some true ∧ ∃ y, te d = some y ∧ P d y) → ∃ ys, compGo tt te ds = some ys ∧ ys.length = ds.length ∧ ∀ (j : Nat) (x y : D), ds[j]? = some x → ys[j]? = some y → P x y
  | [], _ => ⟨[], rfl, rfl, fun _ _ _ h => by simp at h⟩
  | d :: ds, h => by
    obtain ⟨ys, e, hl, hp⟩ := compGo_ex P ds (fun x hx => h x (by simp [hx]))
    obtain ⟨h1, y, h2, h3⟩ := h d (by simp)
    refine ⟨y :: ys, by rw [compGo, h1, h2, e]; rfl, by simp [hl], fun j x z hx hz => ?_⟩
    cases j with
    | zero => simp at hx hz; subst hx; subst hz; exact h3
    | succ j => exact hp j x z (by simpa using hx) (by simpa using hz)
theorem runD_rt {f : DefI} {ds : List D} {x : D} (h : ds.length = f.np) (he : evSs Φ fu f.body (Dv.start f ds) = some (.rt .shr x)) : runD Φ fu f ds = some (.ok .shr x) := by
  unfold runD; rw [if_pos h, he]; rfl
theorem runD_frs {f : DefI} {ds : List D} {x : D} (h : ds.length = f.np) (he : evSs Φ fu f.body (Dv.start f ds) = some (.rt .frs x)) : runD Φ fu f ds = some (.ok .frs x) := by
  unfold runD; rw [if_pos h, he]; rfl
theorem runD_ex {f : DefI} {ds : List D} {x : Str} (h : ds.length = f.np) (he : evSs Φ fu f.body (Dv.start f ds) = some (.ex x)) : runD Φ fu f ds = some (.ex x) := by
  unfold runD; rw [if_pos h, he]; rfl
end
end Law
namespace Law
open PySem Dv
/-! ### programs as plain data -/
inductive Row where
  | put (b n : Nat) | more (b : Nat) | copy (b c : Nat) | tell (b : Nat) | go (r : Nat) | ask (b r : Nat) | stop
def Row.d : Row → D
  | .put b n => .tuple [.str "put", .int b, .int n]
  | .more b => .tuple [.str "more", .int b]
  | .copy b c => .tuple [.str "copy", .int b, .int c]
  | .tell b => .tuple [.str "tell", .int b]
  | .go r => .tuple [.str "go", .int r]
  | .ask b r => .tuple [.str "ask", .int b, .int r]
  | .stop => .tuple [.str "stop"]
def RowOk (boxes most many : Nat) : Row → Prop
  | .put b n => b < boxes ∧ n ≤ most
  | .more b => b < boxes
  | .copy b c => b < boxes ∧ c < boxes
  | .tell b => b < boxes
  | .go r => r < many
  | .ask b r => b < boxes ∧ r < many
  | .stop => True
def isEnd : Row → Prop
  | .go _ => True
  | .stop => True
  | _ => False
structure Prog where
  boxes : Nat
  most : Nat
  rows : List Row
def Prog.d (p : Prog) : D := .tuple [.int p.boxes, .int p.most, .list (p.rows.map Row.d)]
structure Prog.Ok (p : Prog) : Prop where
  boxes : p.boxes ≤ 3
  most0 : 1 ≤ p.most
  most : p.most ≤ 4
  rows0 : 1 ≤ p.rows.length
  rows : p.rows.length ≤ 16
  row : ∀ r ∈ p.rows, RowOk p.boxes p.most p.rows.length r
  last : ∀ r, p.rows.getLast? = some r → isEnd r

/-! ### the law's own draws -/
def nextS (c : Int) : Int := (c * 48271 + 11) % 2147483647
theorem nextS_nn (c : Int) : 0 ≤ nextS c := Int.emod_nonneg _ (by decide)
theorem next_ok {fu n : Nat} (c : Int) : run tab fu (n + 1) "_law_next" [.int c] = some (.ok .shr (.int (nextS c))) := by
  rw [run_law_next]
  simp [runD, d_law_next, Dv.start, evSs, evS, evE, bindV, binD, onV, thenS, outcome, nextS]
theorem cell_ok {fu n : Nat} (ns : List Int) (k : Nat) : run tab fu (n + 1) "_law_cell_at" [scrD ns, .int k] = some (.ok .shr (.int (ns.getD k 0))) := by
  rw [run_law_cell_at]
  simp [runD, d_law_cell_at, Dv.start, evSs, evS, evE, bindV, binD, onV, onB, thenS, outcome, cmpD, fnD, scrD, scrOf, idxD, L2.atI, L2.ixN]
  by_cases h : k < ns.length
  · simp [h, thenS]
  · simp [h, thenS]
theorem mod_nat (s : Int) {m : Nat} (h : 0 < m) : ∃ k : Nat, s % (m : Int) = k ∧ k < m := by
  have h1 : 0 ≤ s % (m : Int) := Int.emod_nonneg _ (by omega)
  have h2 : s % (m : Int) < m := Int.emod_lt_of_pos _ (by omega)
  exact ⟨(s % (m : Int)).toNat, by omega, by omega⟩
theorem ten (s : Int) : s % 10 = 0 ∨ s % 10 = 1 ∨ s % 10 = 2 ∨ s % 10 = 3 ∨ s % 10 = 4 ∨ s % 10 = 5 ∨ s % 10 = 6 ∨ s % 10 = 7 ∨ s % 10 = 8 ∨ s % 10 = 9 := by omega
theorem row_ok {fu n : Nat} (s : Int) (boxes most many : Nat) (hm : 0 < many) : ∃ r, RowOk boxes most many r ∧ run tab fu (n + 1) "_law_row" [.int s, .int boxes, .int most, .int many] = some (.ok .shr r.d) := by
  rw [run_law_row]
  obtain ⟨r0, e0, h0⟩ := mod_nat (s / 10) hm
  obtain ⟨r1, e1, h1⟩ := mod_nat (s / 50) hm
  obtain ⟨n1, e2, h2⟩ := mod_nat (s / 50) (m := most + 1) (by omega)
  have e2' : s / 50 % ((most : Int) + 1) = n1 := by simpa using e2
  have hp : (0 : Int) < most + 1 := by omega
  by_cases hb : boxes = 0
  · subst hb
    by_cases h7 : s % 10 < 7
    · have h : s % 10 / 7 = 0 := by omega
      refine ⟨.go r0, h0, ?_⟩
      simp [runD, Dv.start, evSs_nil, evSs_cons, evS, evE, evL, evB, evAnd, evOr, evO, onOwn, guardO, setAll, thenS_nx, thenS_rt, thenS_ex, onV_ok, onV_ex, onB_ok, onB_ex, bindV_ok, bindV_ex, boolV_ok, bindA_ok, consA_ok, optI_none, optI_some, outcome_nx, outcome_shr, outcome_frs, outcome_ex, setV_shr, setV_frs, binD_add, binD_addT, binD_addL, binD_sub, binD_mulr, binD_mull, binD_fdiv', binD_mod', cmpD_lt, cmpD_le, cmpD_gt, cmpD_ge, cmpD_eqi, cmpD_nei, cmpD_is, cmpD_isn, cmpD_memL, cmpD_nmemL, cmpD_memT, cmpD_nmemT, isN_none, isN_int, isN_tup, isN_lst, isN_bool, isN_str, flat_int, flat_str, flat_none, flat_bool, fnD_lenL, fnD_lenT, fnD_lenS, fnD_intB, fnD_str, fnD_tupL, fnD_tupT, fnD_lstL, fnD_lstT, fnD_all, idxD_L, idxD_T, idxD_S, slcD_L, slcD_T, itemsD_L, itemsD_T, asD_shr, asD_frs, asB_ok, okCall_t, noBrw_nil, noBrw_shr, noBrw_frs, tests_nil, tests_one, at0, at1, at2, lim_eq, d_law_row, eqv_ii, eqv_nn, eqv_in, eqv_ni, eqv_bb, eqv_ss, shaped_int, shaped_none, shaped_bool, h, hm, e0, Row.d]
    · have h : s % 10 / 7 = 1 := by omega
      refine ⟨.stop, trivial, ?_⟩
      simp [runD, Dv.start, evSs_nil, evSs_cons, evS, evE, evL, evB, evAnd, evOr, evO, onOwn, guardO, setAll, thenS_nx, thenS_rt, thenS_ex, onV_ok, onV_ex, onB_ok, onB_ex, bindV_ok, bindV_ex, boolV_ok, bindA_ok, consA_ok, optI_none, optI_some, outcome_nx, outcome_shr, outcome_frs, outcome_ex, setV_shr, setV_frs, binD_add, binD_addT, binD_addL, binD_sub, binD_mulr, binD_mull, binD_fdiv', binD_mod', cmpD_lt, cmpD_le, cmpD_gt, cmpD_ge, cmpD_eqi, cmpD_nei, cmpD_is, cmpD_isn, cmpD_memL, cmpD_nmemL, cmpD_memT, cmpD_nmemT, isN_none, isN_int, isN_tup, isN_lst, isN_bool, isN_str, flat_int, flat_str, flat_none, flat_bool, fnD_lenL, fnD_lenT, fnD_lenS, fnD_intB, fnD_str, fnD_tupL, fnD_tupT, fnD_lstL, fnD_lstT, fnD_all, idxD_L, idxD_T, idxD_S, slcD_L, slcD_T, itemsD_L, itemsD_T, asD_shr, asD_frs, asB_ok, okCall_t, noBrw_nil, noBrw_shr, noBrw_frs, tests_nil, tests_one, at0, at1, at2, lim_eq, d_law_row, eqv_ii, eqv_nn, eqv_in, eqv_ni, eqv_bb, eqv_ss, shaped_int, shaped_none, shaped_bool, h, hm, e0, Row.d]
  · have hb' : 0 < boxes := by omega
    obtain ⟨b, e3, h3⟩ := mod_nat (s / 10) hb'
    obtain ⟨c, e4, h4⟩ := mod_nat (s / 50) hb'
    by_cases g2 : s % 10 < 2
    · refine ⟨.put b n1, ⟨h3, by omega⟩, ?_⟩
      simp [runD, Dv.start, evSs_nil, evSs_cons, evS, evE, evL, evB, evAnd, evOr, evO, onOwn, guardO, setAll, thenS_nx, thenS_rt, thenS_ex, onV_ok, onV_ex, onB_ok, onB_ex, bindV_ok, bindV_ex, boolV_ok, bindA_ok, consA_ok, optI_none, optI_some, outcome_nx, outcome_shr, outcome_frs, outcome_ex, setV_shr, setV_frs, binD_add, binD_addT, binD_addL, binD_sub, binD_mulr, binD_mull, binD_fdiv', binD_mod', cmpD_lt, cmpD_le, cmpD_gt, cmpD_ge, cmpD_eqi, cmpD_nei, cmpD_is, cmpD_isn, cmpD_memL, cmpD_nmemL, cmpD_memT, cmpD_nmemT, isN_none, isN_int, isN_tup, isN_lst, isN_bool, isN_str, flat_int, flat_str, flat_none, flat_bool, fnD_lenL, fnD_lenT, fnD_lenS, fnD_intB, fnD_str, fnD_tupL, fnD_tupT, fnD_lstL, fnD_lstT, fnD_all, idxD_L, idxD_T, idxD_S, slcD_L, slcD_T, itemsD_L, itemsD_T, asD_shr, asD_frs, asB_ok, okCall_t, noBrw_nil, noBrw_shr, noBrw_frs, tests_nil, tests_one, at0, at1, at2, lim_eq, d_law_row, eqv_ii, eqv_nn, eqv_in, eqv_ni, eqv_bb, eqv_ss, shaped_int, shaped_none, shaped_bool, g2, hm, hb, hb', hp, e2', e3, Row.d]
    by_cases g4 : s % 10 < 4
    · refine ⟨.more b, h3, ?_⟩
      simp [runD, Dv.start, evSs_nil, evSs_cons, evS, evE, evL, evB, evAnd, evOr, evO, onOwn, guardO, setAll, thenS_nx, thenS_rt, thenS_ex, onV_ok, onV_ex, onB_ok, onB_ex, bindV_ok, bindV_ex, boolV_ok, bindA_ok, consA_ok, optI_none, optI_some, outcome_nx, outcome_shr, outcome_frs, outcome_ex, setV_shr, setV_frs, binD_add, binD_addT, binD_addL, binD_sub, binD_mulr, binD_mull, binD_fdiv', binD_mod', cmpD_lt, cmpD_le, cmpD_gt, cmpD_ge, cmpD_eqi, cmpD_nei, cmpD_is, cmpD_isn, cmpD_memL, cmpD_nmemL, cmpD_memT, cmpD_nmemT, isN_none, isN_int, isN_tup, isN_lst, isN_bool, isN_str, flat_int, flat_str, flat_none, flat_bool, fnD_lenL, fnD_lenT, fnD_lenS, fnD_intB, fnD_str, fnD_tupL, fnD_tupT, fnD_lstL, fnD_lstT, fnD_all, idxD_L, idxD_T, idxD_S, slcD_L, slcD_T, itemsD_L, itemsD_T, asD_shr, asD_frs, asB_ok, okCall_t, noBrw_nil, noBrw_shr, noBrw_frs, tests_nil, tests_one, at0, at1, at2, lim_eq, d_law_row, eqv_ii, eqv_nn, eqv_in, eqv_ni, eqv_bb, eqv_ss, shaped_int, shaped_none, shaped_bool, g2, g4, hm, hb, hb', hp, e3, Row.d]
    by_cases f4 : s % 10 = 4
    · refine ⟨.copy b c, ⟨h3, h4⟩, ?_⟩
      simp [runD, Dv.start, evSs_nil, evSs_cons, evS, evE, evL, evB, evAnd, evOr, evO, onOwn, guardO, setAll, thenS_nx, thenS_rt, thenS_ex, onV_ok, onV_ex, onB_ok, onB_ex, bindV_ok, bindV_ex, boolV_ok, bindA_ok, consA_ok, optI_none, optI_some, outcome_nx, outcome_shr, outcome_frs, outcome_ex, setV_shr, setV_frs, binD_add, binD_addT, binD_addL, binD_sub, binD_mulr, binD_mull, binD_fdiv', binD_mod', cmpD_lt, cmpD_le, cmpD_gt, cmpD_ge, cmpD_eqi, cmpD_nei, cmpD_is, cmpD_isn, cmpD_memL, cmpD_nmemL, cmpD_memT, cmpD_nmemT, isN_none, isN_int, isN_tup, isN_lst, isN_bool, isN_str, flat_int, flat_str, flat_none, flat_bool, fnD_lenL, fnD_lenT, fnD_lenS, fnD_intB, fnD_str, fnD_tupL, fnD_tupT, fnD_lstL, fnD_lstT, fnD_all, idxD_L, idxD_T, idxD_S, slcD_L, slcD_T, itemsD_L, itemsD_T, asD_shr, asD_frs, asB_ok, okCall_t, noBrw_nil, noBrw_shr, noBrw_frs, tests_nil, tests_one, at0, at1, at2, lim_eq, d_law_row, eqv_ii, eqv_nn, eqv_in, eqv_ni, eqv_bb, eqv_ss, shaped_int, shaped_none, shaped_bool, f4, hm, hb, hb', hp, e3, e4, Row.d]
    by_cases g7 : s % 10 < 7
    · refine ⟨.tell b, h3, ?_⟩
      simp [runD, Dv.start, evSs_nil, evSs_cons, evS, evE, evL, evB, evAnd, evOr, evO, onOwn, guardO, setAll, thenS_nx, thenS_rt, thenS_ex, onV_ok, onV_ex, onB_ok, onB_ex, bindV_ok, bindV_ex, boolV_ok, bindA_ok, consA_ok, optI_none, optI_some, outcome_nx, outcome_shr, outcome_frs, outcome_ex, setV_shr, setV_frs, binD_add, binD_addT, binD_addL, binD_sub, binD_mulr, binD_mull, binD_fdiv', binD_mod', cmpD_lt, cmpD_le, cmpD_gt, cmpD_ge, cmpD_eqi, cmpD_nei, cmpD_is, cmpD_isn, cmpD_memL, cmpD_nmemL, cmpD_memT, cmpD_nmemT, isN_none, isN_int, isN_tup, isN_lst, isN_bool, isN_str, flat_int, flat_str, flat_none, flat_bool, fnD_lenL, fnD_lenT, fnD_lenS, fnD_intB, fnD_str, fnD_tupL, fnD_tupT, fnD_lstL, fnD_lstT, fnD_all, idxD_L, idxD_T, idxD_S, slcD_L, slcD_T, itemsD_L, itemsD_T, asD_shr, asD_frs, asB_ok, okCall_t, noBrw_nil, noBrw_shr, noBrw_frs, tests_nil, tests_one, at0, at1, at2, lim_eq, d_law_row, eqv_ii, eqv_nn, eqv_in, eqv_ni, eqv_bb, eqv_ss, shaped_int, shaped_none, shaped_bool, g2, g4, f4, g7, hm, hb, hb', hp, e3, Row.d]
    by_cases f7 : s % 10 = 7
    · rcases (show s / 20 % 2 = 0 ∨ s / 20 % 2 = 1 by omega) with g | g
      · refine ⟨.go r1, h1, ?_⟩
        simp [runD, Dv.start, evSs_nil, evSs_cons, evS, evE, evL, evB, evAnd, evOr, evO, onOwn, guardO, setAll, thenS_nx, thenS_rt, thenS_ex, onV_ok, onV_ex, onB_ok, onB_ex, bindV_ok, bindV_ex, boolV_ok, bindA_ok, consA_ok, optI_none, optI_some, outcome_nx, outcome_shr, outcome_frs, outcome_ex, setV_shr, setV_frs, binD_add, binD_addT, binD_addL, binD_sub, binD_mulr, binD_mull, binD_fdiv', binD_mod', cmpD_lt, cmpD_le, cmpD_gt, cmpD_ge, cmpD_eqi, cmpD_nei, cmpD_is, cmpD_isn, cmpD_memL, cmpD_nmemL, cmpD_memT, cmpD_nmemT, isN_none, isN_int, isN_tup, isN_lst, isN_bool, isN_str, flat_int, flat_str, flat_none, flat_bool, fnD_lenL, fnD_lenT, fnD_lenS, fnD_intB, fnD_str, fnD_tupL, fnD_tupT, fnD_lstL, fnD_lstT, fnD_all, idxD_L, idxD_T, idxD_S, slcD_L, slcD_T, itemsD_L, itemsD_T, asD_shr, asD_frs, asB_ok, okCall_t, noBrw_nil, noBrw_shr, noBrw_frs, tests_nil, tests_one, at0, at1, at2, lim_eq, d_law_row, eqv_ii, eqv_nn, eqv_in, eqv_ni, eqv_bb, eqv_ss, shaped_int, shaped_none, shaped_bool, f7, hm, hb, hb', hp, e1, e3, g, Row.d]
      · refine ⟨.stop, trivial, ?_⟩
        simp [runD, Dv.start, evSs_nil, evSs_cons, evS, evE, evL, evB, evAnd, evOr, evO, onOwn, guardO, setAll, thenS_nx, thenS_rt, thenS_ex, onV_ok, onV_ex, onB_ok, onB_ex, bindV_ok, bindV_ex, boolV_ok, bindA_ok, consA_ok, optI_none, optI_some, outcome_nx, outcome_shr, outcome_frs, outcome_ex, setV_shr, setV_frs, binD_add, binD_addT, binD_addL, binD_sub, binD_mulr, binD_mull, binD_fdiv', binD_mod', cmpD_lt, cmpD_le, cmpD_gt, cmpD_ge, cmpD_eqi, cmpD_nei, cmpD_is, cmpD_isn, cmpD_memL, cmpD_nmemL, cmpD_memT, cmpD_nmemT, isN_none, isN_int, isN_tup, isN_lst, isN_bool, isN_str, flat_int, flat_str, flat_none, flat_bool, fnD_lenL, fnD_lenT, fnD_lenS, fnD_intB, fnD_str, fnD_tupL, fnD_tupT, fnD_lstL, fnD_lstT, fnD_all, idxD_L, idxD_T, idxD_S, slcD_L, slcD_T, itemsD_L, itemsD_T, asD_shr, asD_frs, asB_ok, okCall_t, noBrw_nil, noBrw_shr, noBrw_frs, tests_nil, tests_one, at0, at1, at2, lim_eq, d_law_row, eqv_ii, eqv_nn, eqv_in, eqv_ni, eqv_bb, eqv_ss, shaped_int, shaped_none, shaped_bool, f7, hm, hb, hb', hp, e1, e3, g, Row.d]
    · refine ⟨.ask b r1, ⟨h3, h1⟩, ?_⟩
      simp [runD, Dv.start, evSs_nil, evSs_cons, evS, evE, evL, evB, evAnd, evOr, evO, onOwn, guardO, setAll, thenS_nx, thenS_rt, thenS_ex, onV_ok, onV_ex, onB_ok, onB_ex, bindV_ok, bindV_ex, boolV_ok, bindA_ok, consA_ok, optI_none, optI_some, outcome_nx, outcome_shr, outcome_frs, outcome_ex, setV_shr, setV_frs, binD_add, binD_addT, binD_addL, binD_sub, binD_mulr, binD_mull, binD_fdiv', binD_mod', cmpD_lt, cmpD_le, cmpD_gt, cmpD_ge, cmpD_eqi, cmpD_nei, cmpD_is, cmpD_isn, cmpD_memL, cmpD_nmemL, cmpD_memT, cmpD_nmemT, isN_none, isN_int, isN_tup, isN_lst, isN_bool, isN_str, flat_int, flat_str, flat_none, flat_bool, fnD_lenL, fnD_lenT, fnD_lenS, fnD_intB, fnD_str, fnD_tupL, fnD_tupT, fnD_lstL, fnD_lstT, fnD_all, idxD_L, idxD_T, idxD_S, slcD_L, slcD_T, itemsD_L, itemsD_T, asD_shr, asD_frs, asB_ok, okCall_t, noBrw_nil, noBrw_shr, noBrw_frs, tests_nil, tests_one, at0, at1, at2, lim_eq, d_law_row, eqv_ii, eqv_nn, eqv_in, eqv_ni, eqv_bb, eqv_ss, shaped_int, shaped_none, shaped_bool, g2, g4, f4, g7, f7, hm, hb, hb', hp, e1, e3, Row.d]
end Law
namespace Law
open PySem Dv
theorem prog_loop {fu n : Nat} (boxes most many : Nat) (hm : 0 < many) (c : Int) : ∀ (ks : List Nat) (s : Int) (rs : List Row) (k6 : Option (Bool × D)), (∀ r ∈ rs, RowOk boxes most many r) → rs.length + ks.length ≤ 16 →
    ∃ (s' : Int) (rs' : List Row) (k' : Option (Bool × D)), rs'.length = rs.length + ks.length ∧ (∀ r ∈ rs', RowOk boxes most many r) ∧
      forGo (fun d st => evSs (run tab fu (n + 1)) fu b_law_program_0 (List.set st 6 (some (false, d)))) (ks.map fun (k : Nat) => PyData.int (k : Int))
        [some (false, .int c), some (false, .int s), some (false, .int boxes), some (false, .int most), some (false, .int many), some (true, .list (rs.map Row.d)), k6] =
      some (.nx [some (false, .int c), some (false, .int s'), some (false, .int boxes), some (false, .int most), some (false, .int many), some (true, .list (rs'.map Row.d)), k'])
  | [], s, rs, k6, h, _ => ⟨s, rs, k6, by simp, h, by simp [forGo]⟩
  | k :: ks, s, rs, k6, h, hl => by
    obtain ⟨r, hr, er⟩ := row_ok (fu := fu) (n := n) (nextS (s + k)) boxes most many hm
    rw [List.length_cons] at hl
    obtain ⟨s', rs', k', h1, h2, h3⟩ := prog_loop (fu := fu) (n := n) boxes most many hm c ks (nextS (s + k)) (rs ++ [r]) (some (false, .int k)) (fun x hx => by
      rcases List.mem_append.mp hx with hx | hx
      · exact h x hx
      · simp at hx; subst hx; exact hr) (by rw [List.length_append, List.length_singleton]; omega)
    refine ⟨s', rs', k', by rw [h1]; simp; omega, h2, ?_⟩
    rw [← h3]
    have hz : rs.length < 100000 := by omega
    simp [forGo, b_law_program_0, runD, Dv.start, evSs_nil, evSs_cons, evS, evE, evL, evB, evAnd, evOr, evO, onOwn, guardO, setAll, thenS_nx, thenS_rt, thenS_ex, onV_ok, onV_ex, onB_ok, onB_ex, bindV_ok, bindV_ex, boolV_ok, bindA_ok, consA_ok, optI_none, optI_some, outcome_nx, outcome_shr, outcome_frs, outcome_ex, setV_shr, setV_frs, binD_add, binD_addT, binD_addL, binD_sub, binD_mulr, binD_mull, binD_fdiv', binD_mod', cmpD_lt, cmpD_le, cmpD_gt, cmpD_ge, cmpD_eqi, cmpD_nei, cmpD_is, cmpD_isn, cmpD_memL, cmpD_nmemL, cmpD_memT, cmpD_nmemT, isN_none, isN_int, isN_tup, isN_lst, isN_bool, isN_str, flat_int, flat_str, flat_none, flat_bool, fnD_lenL, fnD_lenT, fnD_lenS, fnD_intB, fnD_str, fnD_tupL, fnD_tupT, fnD_lstL, fnD_lstT, fnD_all, idxD_L, idxD_T, idxD_S, slcD_L, slcD_T, itemsD_L, itemsD_T, asD_shr, asD_frs, asB_ok, okCall_t, noBrw_nil, noBrw_shr, noBrw_frs, tests_nil, tests_one, at0, at1, at2, lim_eq, next_ok, er, hz]
/-- the last row made an end -/
theorem fix_last {rs : List Row} {b m k : Nat} {x : Row} (hx : RowOk b m k x) (he : isEnd x) (h : ∀ r ∈ rs, RowOk b m k r) (hz : rs ≠ []) : (∀ r ∈ rs.set (rs.length - 1) x, RowOk b m k r) ∧ ∀ r, (rs.set (rs.length - 1) x).getLast? = some r → isEnd r := by
  refine ⟨fun r hr => ?_, fun r hr => ?_⟩
  · rcases List.mem_or_eq_of_mem_set hr with q | q
    · exact h r q
    · subst q; exact hx
  · rw [List.getLast?_eq_getElem?, List.length_set] at hr
    have hp : 0 < rs.length := List.length_pos_iff.mpr hz
    rw [List.getElem?_set_self (by omega)] at hr
    cases hr
    exact he
theorem isEnd_cases (r : Row) : (isEnd r ∧ ∃ ds, (r.d = .tuple (.str "go" :: ds) ∨ r.d = .tuple (.str "stop" :: ds))) ∨ (¬ isEnd r ∧ ∃ w ds, r.d = .tuple (.str w :: ds) ∧ (w == ("go" : Str)) = false ∧ (w == ("stop" : Str)) = false) := by
  cases r with
  | go r => exact .inl ⟨trivial, _, .inl rfl⟩
  | stop => exact .inl ⟨trivial, _, .inr rfl⟩
  | put b n => exact .inr ⟨fun h => h, _, _, rfl, by decide +kernel, by decide +kernel⟩
  | more b => exact .inr ⟨fun h => h, _, _, rfl, by decide +kernel, by decide +kernel⟩
  | copy b n => exact .inr ⟨fun h => h, _, _, rfl, by decide +kernel, by decide +kernel⟩
  | tell b => exact .inr ⟨fun h => h, _, _, rfl, by decide +kernel, by decide +kernel⟩
  | ask b n => exact .inr ⟨fun h => h, _, _, rfl, by decide +kernel, by decide +kernel⟩
theorem prog_pick {c : Int} : ∃ b : Nat, L2.atI [PyData.int 1, .int 2, .int 1, .int 2, .int 0, .int 3] (nextS c % 6) = some (.int b) ∧ b ≤ 3 := by
  have h : nextS c % 6 = 0 ∨ nextS c % 6 = 1 ∨ nextS c % 6 = 2 ∨ nextS c % 6 = 3 ∨ nextS c % 6 = 4 ∨ nextS c % 6 = 5 := by omega
  rcases h with h | h | h | h | h | h
  · exact ⟨1, by rw [h]; rfl, by decide⟩
  · exact ⟨2, by rw [h]; rfl, by decide⟩
  · exact ⟨1, by rw [h]; rfl, by decide⟩
  · exact ⟨2, by rw [h]; rfl, by decide⟩
  · exact ⟨0, by rw [h]; rfl, by decide⟩
  · exact ⟨3, by rw [h]; rfl, by decide⟩
theorem program_ok {fu n : Nat} (c : Int) : ∃ p : Prog, p.Ok ∧ run tab fu (n + 2) "_law_program" [.int c] = some (.ok .shr p.d) := by
  obtain ⟨boxes, eb, hb⟩ := @prog_pick c
  obtain ⟨m0, em, hm⟩ := mod_nat (nextS c / 6) (m := 4) (by decide)
  obtain ⟨k0, ek, hk⟩ := mod_nat (nextS c / 24) (m := 7) (by decide)
  obtain ⟨many, emany, hk0, hk16⟩ : ∃ many : Nat, 1 + nextS c / 24 % 7 + 9 * (if (nextS c / 200 % 8 == 3) = true then 1 else 0) = many ∧ 0 < many ∧ many ≤ 16 := by
    rw [show nextS c / 24 % 7 = k0 from ek]
    split
    · exact ⟨k0 + 10, by omega, by omega, by omega⟩
    · exact ⟨k0 + 1, by omega, by omega, by omega⟩
  obtain ⟨most, emost, hm1, hm4⟩ : ∃ most : Nat, 1 + nextS c / 6 % 4 = most ∧ 1 ≤ most ∧ most ≤ 4 := ⟨m0 + 1, by rw [show nextS c / 6 % 4 = m0 from em]; omega, by omega, by omega⟩
  obtain ⟨s', rs, k6, hl, hr, el⟩ := prog_loop (fu := fu) (n := n) boxes most many hk0 c (List.range many) (nextS c) [] none (by simp) (by simpa using hk16)
  rw [run_law_program]
  have hne : rs ≠ [] := by intro h; rw [h] at hl; simp at hl; omega
  have hl' : rs.length = many := by simpa using hl
  obtain ⟨r0, er0, hr0⟩ := mod_nat (s' / 7) hk0
  have hkz : (0 : Int) < many := by omega
  have main : ∀ rs2 : List Row, (∀ r ∈ rs2, RowOk boxes most many r) → rs2.length = many → (∀ r, rs2.getLast? = some r → isEnd r) →
      ∃ p : Prog, p.Ok ∧ p.d = .tuple [.int boxes, .int most, .list (rs2.map Row.d)] := fun rs2 h1 h2 h3 =>
    ⟨⟨boxes, most, rs2⟩, ⟨hb, hm1, hm4, by rw [h2]; exact hk0, by rw [h2]; exact hk16, fun r hr => by rw [h2]; exact h1 r hr, h3⟩, rfl⟩
  have pre : ∀ Z : Option SO, evSs (run tab fu (n + 1)) fu (d_law_program.body.drop 6) [some (false, .int c), some (false, .int s'), some (false, .int boxes), some (false, .int most), some (false, .int many), some (true, .list (rs.map Row.d)), k6] = Z →
      evSs (run tab fu (n + 1)) fu d_law_program.body [some (false, .int c), none, none, none, none, none, none] = Z := by
    intro Z hZ
    unfold d_law_program
    refine (seq (by simp only [runD, Dv.start, evSs_nil, evSs_cons, evS, evE, evL, evB, evAnd, evOr, evO, onOwn, guardO, setAll, thenS_nx, thenS_rt, thenS_ex, onV_ok, onV_ex, onB_ok, onB_ex, bindV_ok, bindV_ex, boolV_ok, bindA_ok, consA_ok, optI_none, optI_some, outcome_nx, outcome_shr, outcome_frs, outcome_ex, setV_shr, setV_frs, binD_add, binD_addT, binD_addL, binD_sub, binD_mulr, binD_mull, binD_fdiv', binD_mod', cmpD_lt, cmpD_le, cmpD_gt, cmpD_ge, cmpD_eqi, cmpD_nei, cmpD_is, cmpD_isn, cmpD_memL, cmpD_nmemL, cmpD_memT, cmpD_nmemT, isN_none, isN_int, isN_tup, isN_lst, isN_bool, isN_str, flat_int, flat_str, flat_none, flat_bool, fnD_lenL, fnD_lenT, fnD_lenS, fnD_intB, fnD_str, fnD_tupL, fnD_tupT, fnD_lstL, fnD_lstT, fnD_all, idxD_L, idxD_T, idxD_S, slcD_L, slcD_T, itemsD_L, itemsD_T, asD_shr, asD_frs, asB_ok, okCall_t, noBrw_nil, noBrw_shr, noBrw_frs, tests_nil, tests_one, at0, at1, at2, lim_eq, List.set_cons_zero, List.set_cons_succ, List.getElem?_cons_zero, List.getElem?_cons_succ, List.length_cons, List.length_nil, List.map_cons, List.map_nil, Option.map_some, Option.map_none, if_true, if_false, ite_true, ite_false, reduceIte, reduceCtorEq, decide_true, decide_false, Nat.reduceAdd, Nat.reduceSub, Nat.reduceEqDiff, Int.reduceNeg, Int.reduceLT, Int.reduceLE, Bool.not_true, Bool.not_false, Nat.reduceLeDiff, and_self, true_and, and_true, next_ok]; rfl)).trans ?_
    refine (seq (by simp only [runD, Dv.start, evSs_nil, evSs_cons, evS, evE, evL, evB, evAnd, evOr, evO, onOwn, guardO, setAll, thenS_nx, thenS_rt, thenS_ex, onV_ok, onV_ex, onB_ok, onB_ex, bindV_ok, bindV_ex, boolV_ok, bindA_ok, consA_ok, optI_none, optI_some, outcome_nx, outcome_shr, outcome_frs, outcome_ex, setV_shr, setV_frs, binD_add, binD_addT, binD_addL, binD_sub, binD_mulr, binD_mull, binD_fdiv', binD_mod', cmpD_lt, cmpD_le, cmpD_gt, cmpD_ge, cmpD_eqi, cmpD_nei, cmpD_is, cmpD_isn, cmpD_memL, cmpD_nmemL, cmpD_memT, cmpD_nmemT, isN_none, isN_int, isN_tup, isN_lst, isN_bool, isN_str, flat_int, flat_str, flat_none, flat_bool, fnD_lenL, fnD_lenT, fnD_lenS, fnD_intB, fnD_str, fnD_tupL, fnD_tupT, fnD_lstL, fnD_lstT, fnD_all, idxD_L, idxD_T, idxD_S, slcD_L, slcD_T, itemsD_L, itemsD_T, asD_shr, asD_frs, asB_ok, okCall_t, noBrw_nil, noBrw_shr, noBrw_frs, tests_nil, tests_one, at0, at1, at2, lim_eq, List.set_cons_zero, List.set_cons_succ, List.getElem?_cons_zero, List.getElem?_cons_succ, List.length_cons, List.length_nil, List.map_cons, List.map_nil, Option.map_some, Option.map_none, if_true, if_false, ite_true, ite_false, reduceIte, reduceCtorEq, decide_true, decide_false, Nat.reduceAdd, Nat.reduceSub, Nat.reduceEqDiff, Int.reduceNeg, Int.reduceLT, Int.reduceLE, Bool.not_true, Bool.not_false, Nat.reduceLeDiff, and_self, true_and, and_true, eb]; rfl)).trans ?_
    refine (seq (by simp only [runD, Dv.start, evSs_nil, evSs_cons, evS, evE, evL, evB, evAnd, evOr, evO, onOwn, guardO, setAll, thenS_nx, thenS_rt, thenS_ex, onV_ok, onV_ex, onB_ok, onB_ex, bindV_ok, bindV_ex, boolV_ok, bindA_ok, consA_ok, optI_none, optI_some, outcome_nx, outcome_shr, outcome_frs, outcome_ex, setV_shr, setV_frs, binD_add, binD_addT, binD_addL, binD_sub, binD_mulr, binD_mull, binD_fdiv', binD_mod', cmpD_lt, cmpD_le, cmpD_gt, cmpD_ge, cmpD_eqi, cmpD_nei, cmpD_is, cmpD_isn, cmpD_memL, cmpD_nmemL, cmpD_memT, cmpD_nmemT, isN_none, isN_int, isN_tup, isN_lst, isN_bool, isN_str, flat_int, flat_str, flat_none, flat_bool, fnD_lenL, fnD_lenT, fnD_lenS, fnD_intB, fnD_str, fnD_tupL, fnD_tupT, fnD_lstL, fnD_lstT, fnD_all, idxD_L, idxD_T, idxD_S, slcD_L, slcD_T, itemsD_L, itemsD_T, asD_shr, asD_frs, asB_ok, okCall_t, noBrw_nil, noBrw_shr, noBrw_frs, tests_nil, tests_one, at0, at1, at2, lim_eq, List.set_cons_zero, List.set_cons_succ, List.getElem?_cons_zero, List.getElem?_cons_succ, List.length_cons, List.length_nil, List.map_cons, List.map_nil, Option.map_some, Option.map_none, if_true, if_false, ite_true, ite_false, reduceIte, reduceCtorEq, decide_true, decide_false, Nat.reduceAdd, Nat.reduceSub, Nat.reduceEqDiff, Int.reduceNeg, Int.reduceLT, Int.reduceLE, Bool.not_true, Bool.not_false, Nat.reduceLeDiff, and_self, true_and, and_true, emost]; rfl)).trans ?_
    refine (seq (by simp only [runD, Dv.start, evSs_nil, evSs_cons, evS, evE, evL, evB, evAnd, evOr, evO, onOwn, guardO, setAll, thenS_nx, thenS_rt, thenS_ex, onV_ok, onV_ex, onB_ok, onB_ex, bindV_ok, bindV_ex, boolV_ok, bindA_ok, consA_ok, optI_none, optI_some, outcome_nx, outcome_shr, outcome_frs, outcome_ex, setV_shr, setV_frs, binD_add, binD_addT, binD_addL, binD_sub, binD_mulr, binD_mull, binD_fdiv', binD_mod', cmpD_lt, cmpD_le, cmpD_gt, cmpD_ge, cmpD_eqi, cmpD_nei, cmpD_is, cmpD_isn, cmpD_memL, cmpD_nmemL, cmpD_memT, cmpD_nmemT, isN_none, isN_int, isN_tup, isN_lst, isN_bool, isN_str, flat_int, flat_str, flat_none, flat_bool, fnD_lenL, fnD_lenT, fnD_lenS, fnD_intB, fnD_str, fnD_tupL, fnD_tupT, fnD_lstL, fnD_lstT, fnD_all, idxD_L, idxD_T, idxD_S, slcD_L, slcD_T, itemsD_L, itemsD_T, asD_shr, asD_frs, asB_ok, okCall_t, noBrw_nil, noBrw_shr, noBrw_frs, tests_nil, tests_one, at0, at1, at2, lim_eq, List.set_cons_zero, List.set_cons_succ, List.getElem?_cons_zero, List.getElem?_cons_succ, List.length_cons, List.length_nil, List.map_cons, List.map_nil, Option.map_some, Option.map_none, if_true, if_false, ite_true, ite_false, reduceIte, reduceCtorEq, decide_true, decide_false, Nat.reduceAdd, Nat.reduceSub, Nat.reduceEqDiff, Int.reduceNeg, Int.reduceLT, Int.reduceLE, Bool.not_true, Bool.not_false, Nat.reduceLeDiff, and_self, true_and, and_true, emany]; rfl)).trans ?_
    refine (seq (by simp only [runD, Dv.start, evSs_nil, evSs_cons, evS, evE, evL, evB, evAnd, evOr, evO, onOwn, guardO, setAll, thenS_nx, thenS_rt, thenS_ex, onV_ok, onV_ex, onB_ok, onB_ex, bindV_ok, bindV_ex, boolV_ok, bindA_ok, consA_ok, optI_none, optI_some, outcome_nx, outcome_shr, outcome_frs, outcome_ex, setV_shr, setV_frs, binD_add, binD_addT, binD_addL, binD_sub, binD_mulr, binD_mull, binD_fdiv', binD_mod', cmpD_lt, cmpD_le, cmpD_gt, cmpD_ge, cmpD_eqi, cmpD_nei, cmpD_is, cmpD_isn, cmpD_memL, cmpD_nmemL, cmpD_memT, cmpD_nmemT, isN_none, isN_int, isN_tup, isN_lst, isN_bool, isN_str, flat_int, flat_str, flat_none, flat_bool, fnD_lenL, fnD_lenT, fnD_lenS, fnD_intB, fnD_str, fnD_tupL, fnD_tupT, fnD_lstL, fnD_lstT, fnD_all, idxD_L, idxD_T, idxD_S, slcD_L, slcD_T, itemsD_L, itemsD_T, asD_shr, asD_frs, asB_ok, okCall_t, noBrw_nil, noBrw_shr, noBrw_frs, tests_nil, tests_one, at0, at1, at2, lim_eq, List.set_cons_zero, List.set_cons_succ, List.getElem?_cons_zero, List.getElem?_cons_succ, List.length_cons, List.length_nil, List.map_cons, List.map_nil, Option.map_some, Option.map_none, if_true, if_false, ite_true, ite_false, reduceIte, reduceCtorEq, decide_true, decide_false, Nat.reduceAdd, Nat.reduceSub, Nat.reduceEqDiff, Int.reduceNeg, Int.reduceLT, Int.reduceLE, Bool.not_true, Bool.not_false, Nat.reduceLeDiff, and_self, true_and, and_true, Nat.zero_le]; rfl)).trans ?_
    refine (seq ((forR_of (m := many) ?_ (by omega)).trans el)).trans ?_
    · simp only [runD, Dv.start, evSs_nil, evSs_cons, evS, evE, evL, evB, evAnd, evOr, evO, onOwn, guardO, setAll, thenS_nx, thenS_rt, thenS_ex, onV_ok, onV_ex, onB_ok, onB_ex, bindV_ok, bindV_ex, boolV_ok, bindA_ok, consA_ok, optI_none, optI_some, outcome_nx, outcome_shr, outcome_frs, outcome_ex, setV_shr, setV_frs, binD_add, binD_addT, binD_addL, binD_sub, binD_mulr, binD_mull, binD_fdiv', binD_mod', cmpD_lt, cmpD_le, cmpD_gt, cmpD_ge, cmpD_eqi, cmpD_nei, cmpD_is, cmpD_isn, cmpD_memL, cmpD_nmemL, cmpD_memT, cmpD_nmemT, isN_none, isN_int, isN_tup, isN_lst, isN_bool, isN_str, flat_int, flat_str, flat_none, flat_bool, fnD_lenL, fnD_lenT, fnD_lenS, fnD_intB, fnD_str, fnD_tupL, fnD_tupT, fnD_lstL, fnD_lstT, fnD_all, idxD_L, idxD_T, idxD_S, slcD_L, slcD_T, itemsD_L, itemsD_T, asD_shr, asD_frs, asB_ok, okCall_t, noBrw_nil, noBrw_shr, noBrw_frs, tests_nil, tests_one, at0, at1, at2, lim_eq, List.set_cons_zero, List.set_cons_succ, List.getElem?_cons_zero, List.getElem?_cons_succ, List.length_cons, List.length_nil, List.map_cons, List.map_nil, Option.map_some, Option.map_none, if_true, if_false, ite_true, ite_false, reduceIte, reduceCtorEq, decide_true, decide_false, Nat.reduceAdd, Nat.reduceSub, Nat.reduceEqDiff, Int.reduceNeg, Int.reduceLT, Int.reduceLE, Bool.not_true, Bool.not_false, Nat.reduceLeDiff, and_self, true_and, and_true]
    · exact hZ
  obtain ⟨r, hlast⟩ : ∃ r, rs.getLast? = some r := by
    rw [List.getLast?_eq_getElem?]
    exact ⟨_, List.getElem?_eq_getElem (by omega)⟩
  have hlast2 : L2.atI (rs.map Row.d) (-1) = some r.d := atL (by rw [List.getLast?_map, hlast]; rfl)
  obtain ⟨r2, hr2, he2, ee2⟩ : ∃ r2, RowOk boxes most many r2 ∧ isEnd r2 ∧ L2.atI [PyData.tuple [.str "go", .int r0], .tuple [.str "stop"]] (s' / 1000 % 3 / 2) = some r2.d := by
    rcases (show s' / 1000 % 3 / 2 = 0 ∨ s' / 1000 % 3 / 2 = 1 by omega) with h | h
    · exact ⟨.go r0, hr0, trivial, by rw [h]; rfl⟩
    · exact ⟨.stop, trivial, trivial, by rw [h]; rfl⟩
  rcases isEnd_cases r with ⟨he, ds, hd⟩ | ⟨he, w, ds, hd, w1, w2⟩
  · obtain ⟨p, hp, ep⟩ := main rs hr hl' (fun x hx => by rw [hlast] at hx; cases hx; exact he)
    refine ⟨p, hp, ?_⟩
    refine congrArg outcome ((pre (some (.rt .shr p.d)) ?_))
    unfold d_law_program
    refine (seq (st' := [some (false, .int c), some (false, .int s'), some (false, .int boxes), some (false, .int most), some (false, .int many), some (true, .list (rs.map Row.d)), k6]) ?_).trans ?_
    · rcases hd with hd | hd
      · simp only [runD, Dv.start, evSs_nil, evSs_cons, evS, evE, evL, evB, evAnd, evOr, evO, onOwn, guardO, setAll, thenS_nx, thenS_rt, thenS_ex, onV_ok, onV_ex, onB_ok, onB_ex, bindV_ok, bindV_ex, boolV_ok, bindA_ok, consA_ok, optI_none, optI_some, outcome_nx, outcome_shr, outcome_frs, outcome_ex, setV_shr, setV_frs, binD_add, binD_addT, binD_addL, binD_sub, binD_mulr, binD_mull, binD_fdiv', binD_mod', cmpD_lt, cmpD_le, cmpD_gt, cmpD_ge, cmpD_eqi, cmpD_nei, cmpD_is, cmpD_isn, cmpD_memL, cmpD_nmemL, cmpD_memT, cmpD_nmemT, isN_none, isN_int, isN_tup, isN_lst, isN_bool, isN_str, flat_int, flat_str, flat_none, flat_bool, fnD_lenL, fnD_lenT, fnD_lenS, fnD_intB, fnD_str, fnD_tupL, fnD_tupT, fnD_lstL, fnD_lstT, fnD_all, idxD_L, idxD_T, idxD_S, slcD_L, slcD_T, itemsD_L, itemsD_T, asD_shr, asD_frs, asB_ok, okCall_t, noBrw_nil, noBrw_shr, noBrw_frs, tests_nil, tests_one, at0, at1, at2, lim_eq, List.set_cons_zero, List.set_cons_succ, List.getElem?_cons_zero, List.getElem?_cons_succ, List.length_cons, List.length_nil, List.map_cons, List.map_nil, Option.map_some, Option.map_none, if_true, if_false, ite_true, ite_false, reduceIte, reduceCtorEq, decide_true, decide_false, Nat.reduceAdd, Nat.reduceSub, Nat.reduceEqDiff, Int.reduceNeg, Int.reduceLT, Int.reduceLE, Bool.not_true, Bool.not_false, Nat.reduceLeDiff, and_self, true_and, and_true, hlast2, hd, List.all_cons, List.all_nil, List.any_cons, List.any_nil, eqv_ss, beq_self_eq_true, Bool.and_self, Bool.true_or, Bool.or_true]
      · simp only [runD, Dv.start, evSs_nil, evSs_cons, evS, evE, evL, evB, evAnd, evOr, evO, onOwn, guardO, setAll, thenS_nx, thenS_rt, thenS_ex, onV_ok, onV_ex, onB_ok, onB_ex, bindV_ok, bindV_ex, boolV_ok, bindA_ok, consA_ok, optI_none, optI_some, outcome_nx, outcome_shr, outcome_frs, outcome_ex, setV_shr, setV_frs, binD_add, binD_addT, binD_addL, binD_sub, binD_mulr, binD_mull, binD_fdiv', binD_mod', cmpD_lt, cmpD_le, cmpD_gt, cmpD_ge, cmpD_eqi, cmpD_nei, cmpD_is, cmpD_isn, cmpD_memL, cmpD_nmemL, cmpD_memT, cmpD_nmemT, isN_none, isN_int, isN_tup, isN_lst, isN_bool, isN_str, flat_int, flat_str, flat_none, flat_bool, fnD_lenL, fnD_lenT, fnD_lenS, fnD_intB, fnD_str, fnD_tupL, fnD_tupT, fnD_lstL, fnD_lstT, fnD_all, idxD_L, idxD_T, idxD_S, slcD_L, slcD_T, itemsD_L, itemsD_T, asD_shr, asD_frs, asB_ok, okCall_t, noBrw_nil, noBrw_shr, noBrw_frs, tests_nil, tests_one, at0, at1, at2, lim_eq, List.set_cons_zero, List.set_cons_succ, List.getElem?_cons_zero, List.getElem?_cons_succ, List.length_cons, List.length_nil, List.map_cons, List.map_nil, Option.map_some, Option.map_none, if_true, if_false, ite_true, ite_false, reduceIte, reduceCtorEq, decide_true, decide_false, Nat.reduceAdd, Nat.reduceSub, Nat.reduceEqDiff, Int.reduceNeg, Int.reduceLT, Int.reduceLE, Bool.not_true, Bool.not_false, Nat.reduceLeDiff, and_self, true_and, and_true, hlast2, hd, List.all_cons, List.all_nil, List.any_cons, List.any_nil, eqv_ss, beq_self_eq_true, Bool.and_self, Bool.true_or, Bool.or_true, Bool.or_false]
    · rw [ep]
      refine (seq (by simp only [runD, Dv.start, evSs_nil, evSs_cons, evS, evE, evL, evB, evAnd, evOr, evO, onOwn, guardO, setAll, thenS_nx, thenS_rt, thenS_ex, onV_ok, onV_ex, onB_ok, onB_ex, bindV_ok, bindV_ex, boolV_ok, bindA_ok, consA_ok, optI_none, optI_some, outcome_nx, outcome_shr, outcome_frs, outcome_ex, setV_shr, setV_frs, binD_add, binD_addT, binD_addL, binD_sub, binD_mulr, binD_mull, binD_fdiv', binD_mod', cmpD_lt, cmpD_le, cmpD_gt, cmpD_ge, cmpD_eqi, cmpD_nei, cmpD_is, cmpD_isn, cmpD_memL, cmpD_nmemL, cmpD_memT, cmpD_nmemT, isN_none, isN_int, isN_tup, isN_lst, isN_bool, isN_str, flat_int, flat_str, flat_none, flat_bool, fnD_lenL, fnD_lenT, fnD_lenS, fnD_intB, fnD_str, fnD_tupL, fnD_tupT, fnD_lstL, fnD_lstT, fnD_all, idxD_L, idxD_T, idxD_S, slcD_L, slcD_T, itemsD_L, itemsD_T, asD_shr, asD_frs, asB_ok, okCall_t, noBrw_nil, noBrw_shr, noBrw_frs, tests_nil, tests_one, at0, at1, at2, lim_eq, List.set_cons_zero, List.set_cons_succ, List.getElem?_cons_zero, List.getElem?_cons_succ, List.length_cons, List.length_nil, List.map_cons, List.map_nil, Option.map_some, Option.map_none, if_true, if_false, ite_true, ite_false, reduceIte, reduceCtorEq, decide_true, decide_false, Nat.reduceAdd, Nat.reduceSub, Nat.reduceEqDiff, Int.reduceNeg, Int.reduceLT, Int.reduceLE, Bool.not_true, Bool.not_false, Nat.reduceLeDiff, and_self, true_and, and_true]; rfl)).trans ?_
      refine (seq_rt (by simp only [runD, Dv.start, evSs_nil, evSs_cons, evS, evE, evL, evB, evAnd, evOr, evO, onOwn, guardO, setAll, thenS_nx, thenS_rt, thenS_ex, onV_ok, onV_ex, onB_ok, onB_ex, bindV_ok, bindV_ex, boolV_ok, bindA_ok, consA_ok, optI_none, optI_some, outcome_nx, outcome_shr, outcome_frs, outcome_ex, setV_shr, setV_frs, binD_add, binD_addT, binD_addL, binD_sub, binD_mulr, binD_mull, binD_fdiv', binD_mod', cmpD_lt, cmpD_le, cmpD_gt, cmpD_ge, cmpD_eqi, cmpD_nei, cmpD_is, cmpD_isn, cmpD_memL, cmpD_nmemL, cmpD_memT, cmpD_nmemT, isN_none, isN_int, isN_tup, isN_lst, isN_bool, isN_str, flat_int, flat_str, flat_none, flat_bool, fnD_lenL, fnD_lenT, fnD_lenS, fnD_intB, fnD_str, fnD_tupL, fnD_tupT, fnD_lstL, fnD_lstT, fnD_all, idxD_L, idxD_T, idxD_S, slcD_L, slcD_T, itemsD_L, itemsD_T, asD_shr, asD_frs, asB_ok, okCall_t, noBrw_nil, noBrw_shr, noBrw_frs, tests_nil, tests_one, at0, at1, at2, lim_eq, List.set_cons_zero, List.set_cons_succ, List.getElem?_cons_zero, List.getElem?_cons_succ, List.length_cons, List.length_nil, List.map_cons, List.map_nil, Option.map_some, Option.map_none, if_true, if_false, ite_true, ite_false, reduceIte, reduceCtorEq, decide_true, decide_false, Nat.reduceAdd, Nat.reduceSub, Nat.reduceEqDiff, Int.reduceNeg, Int.reduceLT, Int.reduceLE, Bool.not_true, Bool.not_false, Nat.reduceLeDiff, and_self, true_and, and_true, Nat.reduceLeDiff])).trans rfl
  · obtain ⟨q1, q2⟩ := fix_last hr2 he2 hr hne
    obtain ⟨p, hp, ep⟩ := main _ q1 (by rw [List.length_set]; exact hl') q2
    refine ⟨p, hp, ?_⟩
    refine congrArg outcome ((pre (some (.rt .shr p.d)) ?_))
    unfold d_law_program
    refine (seq (st' := [some (false, .int c), some (false, .int s'), some (false, .int boxes), some (false, .int most), some (false, .int many), some (true, .list ((rs.set (rs.length - 1) r2).map Row.d)), k6]) ?_).trans ?_
    · have hix : L2.ixN (rs.map Row.d).length (-1) = some (rs.length - 1) := by
        simp only [L2.ixN, List.length_map]
        rw [if_neg (by decide), if_pos (by omega)]
        congr 1
        omega
      simp only [runD, Dv.start, evSs_nil, evSs_cons, evS, evE, evL, evB, evAnd, evOr, evO, onOwn, guardO, setAll, thenS_nx, thenS_rt, thenS_ex, onV_ok, onV_ex, onB_ok, onB_ex, bindV_ok, bindV_ex, boolV_ok, bindA_ok, consA_ok, optI_none, optI_some, outcome_nx, outcome_shr, outcome_frs, outcome_ex, setV_shr, setV_frs, binD_add, binD_addT, binD_addL, binD_sub, binD_mulr, binD_mull, binD_fdiv', binD_mod', cmpD_lt, cmpD_le, cmpD_gt, cmpD_ge, cmpD_eqi, cmpD_nei, cmpD_is, cmpD_isn, cmpD_memL, cmpD_nmemL, cmpD_memT, cmpD_nmemT, isN_none, isN_int, isN_tup, isN_lst, isN_bool, isN_str, flat_int, flat_str, flat_none, flat_bool, fnD_lenL, fnD_lenT, fnD_lenS, fnD_intB, fnD_str, fnD_tupL, fnD_tupT, fnD_lstL, fnD_lstT, fnD_all, idxD_L, idxD_T, idxD_S, slcD_L, slcD_T, itemsD_L, itemsD_T, asD_shr, asD_frs, asB_ok, okCall_t, noBrw_nil, noBrw_shr, noBrw_frs, tests_nil, tests_one, at0, at1, at2, lim_eq, List.set_cons_zero, List.set_cons_succ, List.getElem?_cons_zero, List.getElem?_cons_succ, List.length_cons, List.length_nil, List.map_cons, List.map_nil, Option.map_some, Option.map_none, if_true, if_false, ite_true, ite_false, reduceIte, reduceCtorEq, decide_true, decide_false, Nat.reduceAdd, Nat.reduceSub, Nat.reduceEqDiff, Int.reduceNeg, Int.reduceLT, Int.reduceLE, Bool.not_true, Bool.not_false, Nat.reduceLeDiff, and_self, true_and, and_true, hlast2, hd, List.all_cons, List.all_nil, List.any_cons, List.any_nil, eqv_ss, BEq.comm (a := ("go" : Str)) (b := w), BEq.comm (a := ("stop" : Str)) (b := w), w1, w2, hkz, Bool.or_false, Bool.and_self, Bool.true_or, Bool.or_true, Bool.or_self, er0, ee2, hix, List.map_set]
    · rw [ep]
      refine (seq (by simp only [runD, Dv.start, evSs_nil, evSs_cons, evS, evE, evL, evB, evAnd, evOr, evO, onOwn, guardO, setAll, thenS_nx, thenS_rt, thenS_ex, onV_ok, onV_ex, onB_ok, onB_ex, bindV_ok, bindV_ex, boolV_ok, bindA_ok, consA_ok, optI_none, optI_some, outcome_nx, outcome_shr, outcome_frs, outcome_ex, setV_shr, setV_frs, binD_add, binD_addT, binD_addL, binD_sub, binD_mulr, binD_mull, binD_fdiv', binD_mod', cmpD_lt, cmpD_le, cmpD_gt, cmpD_ge, cmpD_eqi, cmpD_nei, cmpD_is, cmpD_isn, cmpD_memL, cmpD_nmemL, cmpD_memT, cmpD_nmemT, isN_none, isN_int, isN_tup, isN_lst, isN_bool, isN_str, flat_int, flat_str, flat_none, flat_bool, fnD_lenL, fnD_lenT, fnD_lenS, fnD_intB, fnD_str, fnD_tupL, fnD_tupT, fnD_lstL, fnD_lstT, fnD_all, idxD_L, idxD_T, idxD_S, slcD_L, slcD_T, itemsD_L, itemsD_T, asD_shr, asD_frs, asB_ok, okCall_t, noBrw_nil, noBrw_shr, noBrw_frs, tests_nil, tests_one, at0, at1, at2, lim_eq, List.set_cons_zero, List.set_cons_succ, List.getElem?_cons_zero, List.getElem?_cons_succ, List.length_cons, List.length_nil, List.map_cons, List.map_nil, Option.map_some, Option.map_none, if_true, if_false, ite_true, ite_false, reduceIte, reduceCtorEq, decide_true, decide_false, Nat.reduceAdd, Nat.reduceSub, Nat.reduceEqDiff, Int.reduceNeg, Int.reduceLT, Int.reduceLE, Bool.not_true, Bool.not_false, Nat.reduceLeDiff, and_self, true_and, and_true]; rfl)).trans ?_
      refine (seq_rt (by simp only [runD, Dv.start, evSs_nil, evSs_cons, evS, evE, evL, evB, evAnd, evOr, evO, onOwn, guardO, setAll, thenS_nx, thenS_rt, thenS_ex, onV_ok, onV_ex, onB_ok, onB_ex, bindV_ok, bindV_ex, boolV_ok, bindA_ok, consA_ok, optI_none, optI_some, outcome_nx, outcome_shr, outcome_frs, outcome_ex, setV_shr, setV_frs, binD_add, binD_addT, binD_addL, binD_sub, binD_mulr, binD_mull, binD_fdiv', binD_mod', cmpD_lt, cmpD_le, cmpD_gt, cmpD_ge, cmpD_eqi, cmpD_nei, cmpD_is, cmpD_isn, cmpD_memL, cmpD_nmemL, cmpD_memT, cmpD_nmemT, isN_none, isN_int, isN_tup, isN_lst, isN_bool, isN_str, flat_int, flat_str, flat_none, flat_bool, fnD_lenL, fnD_lenT, fnD_lenS, fnD_intB, fnD_str, fnD_tupL, fnD_tupT, fnD_lstL, fnD_lstT, fnD_all, idxD_L, idxD_T, idxD_S, slcD_L, slcD_T, itemsD_L, itemsD_T, asD_shr, asD_frs, asB_ok, okCall_t, noBrw_nil, noBrw_shr, noBrw_frs, tests_nil, tests_one, at0, at1, at2, lim_eq, List.set_cons_zero, List.set_cons_succ, List.getElem?_cons_zero, List.getElem?_cons_succ, List.length_cons, List.length_nil, List.map_cons, List.map_nil, Option.map_some, Option.map_none, if_true, if_false, ite_true, ite_false, reduceIte, reduceCtorEq, decide_true, decide_false, Nat.reduceAdd, Nat.reduceSub, Nat.reduceEqDiff, Int.reduceNeg, Int.reduceLT, Int.reduceLE, Bool.not_true, Bool.not_false, Nat.reduceLeDiff, and_self, true_and, and_true, Nat.reduceLeDiff])).trans rfl
end Law
namespace Law
open PySem Dv
/-! ### numbers as plain data -/
def cellD : Option Nat → D
  | none => .none
  | some n => .int n
def numsD (ns : List Nat) : D := .tuple (ns.map fun (n : Nat) => PyData.int (n : Int))
def NumsOk (p : Prog) (ns : List Nat) : Prop := ns.length = p.boxes ∧ ∀ n ∈ ns, n ≤ p.most
theorem numbers_ok {fu n : Nat} (s : Int) {p : Prog} (hp : p.Ok) : ∃ ns, NumsOk p ns ∧ run tab fu (n + 2) "_law_numbers" [.int s, p.d] = some (.ok .shr (numsD ns)) := by
  rw [run_law_numbers]
  have hb := hp.boxes
  have hm : (0 : Int) < (p.most : Int) + 1 := by omega
  obtain ⟨st', el, s', xs, k3, est, hl, hx⟩ := forGo_rng (f := fun d st => evSs (run tab fu (n + 1)) fu b_law_numbers_0 (List.set st 3 (some (false, d))))
    (fun j st => ∃ (s' : Int) (xs : List Nat) (k3 : Option (Bool × D)), st = [some (false, .int s'), some (false, p.d), some (false, numsD xs), k3] ∧ xs.length = j ∧ ∀ c ∈ xs, c ≤ p.most) p.boxes
    [some (false, .int s), some (false, p.d), some (false, .tuple []), none] (by
      rintro j st hj ⟨s', xs, k3, rfl, hl, hx⟩
      obtain ⟨n0, e0, h0⟩ := mod_nat (nextS (s' + j) / 3) (m := p.most + 1) (by omega)
      have e0' : nextS (s' + j) / 3 % ((p.most : Int) + 1) = n0 := by simpa using e0
      have hl2 : xs.length + 1 ≤ 100000 := by omega
      refine ⟨_, ?_, nextS (s' + j), xs ++ [n0], some (false, .int j), rfl, by rw [List.length_append, hl]; rfl, fun c hc => ?_⟩
      · unfold b_law_numbers_0
        simp only [runD, Dv.start, evSs_nil, evSs_cons, evS, evE, evL, evB, evAnd, evOr, evO, onOwn, guardO, setAll, thenS_nx, thenS_rt, thenS_ex, onV_ok, onV_ex, onB_ok, onB_ex, bindV_ok, bindV_ex, boolV_ok, bindA_ok, consA_ok, optI_none, optI_some, outcome_nx, outcome_shr, outcome_frs, outcome_ex, setV_shr, setV_frs, binD_add, binD_addT, binD_addL, binD_sub, binD_mulr, binD_mull, binD_fdiv', binD_mod', cmpD_lt, cmpD_le, cmpD_gt, cmpD_ge, cmpD_eqi, cmpD_nei, cmpD_is, cmpD_isn, cmpD_memL, cmpD_nmemL, cmpD_memT, cmpD_nmemT, isN_none, isN_int, isN_tup, isN_lst, isN_bool, isN_str, flat_int, flat_str, flat_none, flat_bool, fnD_lenL, fnD_lenT, fnD_lenS, fnD_intB, fnD_str, fnD_tupL, fnD_tupT, fnD_lstL, fnD_lstT, fnD_all, idxD_L, idxD_T, idxD_S, slcD_L, slcD_T, itemsD_L, itemsD_T, asD_shr, asD_frs, asB_ok, okCall_t, noBrw_nil, noBrw_shr, noBrw_frs, tests_nil, tests_one, at0, at1, at2, lim_eq, List.set_cons_zero, List.set_cons_succ, List.getElem?_cons_zero, List.getElem?_cons_succ, List.length_cons, List.length_nil, List.map_cons, List.map_nil, Option.map_some, Option.map_none, if_true, if_false, ite_true, ite_false, reduceIte, reduceCtorEq, decide_true, decide_false, Nat.reduceAdd, Nat.reduceSub, Nat.reduceEqDiff, Int.reduceNeg, Int.reduceLT, Int.reduceLE, Bool.not_true, Bool.not_false, Nat.reduceLeDiff, and_self, true_and, and_true, Prog.d, numsD, next_ok, hm, e0', List.map_append, List.length_map, hl2, Nat.reduceLeDiff, Nat.zero_add]
      · rcases List.mem_append.mp hc with hc | hc
        · exact hx c hc
        · simp at hc; subst hc; omega) ⟨s, [], none, rfl, rfl, by simp⟩
  subst est
  refine ⟨xs, ⟨hl, hx⟩, ?_⟩
  refine congrArg outcome (?_ : _ = some (.rt .shr _))
  unfold d_law_numbers
  rw [show Dv.start _ _ = [some (false, .int s), some (false, p.d), none, none] from rfl]
  refine (seq (by simp only [runD, Dv.start, evSs_nil, evSs_cons, evS, evE, evL, evB, evAnd, evOr, evO, onOwn, guardO, setAll, thenS_nx, thenS_rt, thenS_ex, onV_ok, onV_ex, onB_ok, onB_ex, bindV_ok, bindV_ex, boolV_ok, bindA_ok, consA_ok, optI_none, optI_some, outcome_nx, outcome_shr, outcome_frs, outcome_ex, setV_shr, setV_frs, binD_add, binD_addT, binD_addL, binD_sub, binD_mulr, binD_mull, binD_fdiv', binD_mod', cmpD_lt, cmpD_le, cmpD_gt, cmpD_ge, cmpD_eqi, cmpD_nei, cmpD_is, cmpD_isn, cmpD_memL, cmpD_nmemL, cmpD_memT, cmpD_nmemT, isN_none, isN_int, isN_tup, isN_lst, isN_bool, isN_str, flat_int, flat_str, flat_none, flat_bool, fnD_lenL, fnD_lenT, fnD_lenS, fnD_intB, fnD_str, fnD_tupL, fnD_tupT, fnD_lstL, fnD_lstT, fnD_all, idxD_L, idxD_T, idxD_S, slcD_L, slcD_T, itemsD_L, itemsD_T, asD_shr, asD_frs, asB_ok, okCall_t, noBrw_nil, noBrw_shr, noBrw_frs, tests_nil, tests_one, at0, at1, at2, lim_eq, List.set_cons_zero, List.set_cons_succ, List.getElem?_cons_zero, List.getElem?_cons_succ, List.length_cons, List.length_nil, List.map_cons, List.map_nil, Option.map_some, Option.map_none, if_true, if_false, ite_true, ite_false, reduceIte, reduceCtorEq, decide_true, decide_false, Nat.reduceAdd, Nat.reduceSub, Nat.reduceEqDiff, Int.reduceNeg, Int.reduceLT, Int.reduceLE, Bool.not_true, Bool.not_false, Nat.reduceLeDiff, and_self, true_and, and_true, Nat.zero_le]; rfl)).trans ?_
  refine (seq ((forR_of (m := p.boxes) ?_ (by omega)).trans el)).trans ?_
  · simp only [runD, Dv.start, evSs_nil, evSs_cons, evS, evE, evL, evB, evAnd, evOr, evO, onOwn, guardO, setAll, thenS_nx, thenS_rt, thenS_ex, onV_ok, onV_ex, onB_ok, onB_ex, bindV_ok, bindV_ex, boolV_ok, bindA_ok, consA_ok, optI_none, optI_some, outcome_nx, outcome_shr, outcome_frs, outcome_ex, setV_shr, setV_frs, binD_add, binD_addT, binD_addL, binD_sub, binD_mulr, binD_mull, binD_fdiv', binD_mod', cmpD_lt, cmpD_le, cmpD_gt, cmpD_ge, cmpD_eqi, cmpD_nei, cmpD_is, cmpD_isn, cmpD_memL, cmpD_nmemL, cmpD_memT, cmpD_nmemT, isN_none, isN_int, isN_tup, isN_lst, isN_bool, isN_str, flat_int, flat_str, flat_none, flat_bool, fnD_lenL, fnD_lenT, fnD_lenS, fnD_intB, fnD_str, fnD_tupL, fnD_tupT, fnD_lstL, fnD_lstT, fnD_all, idxD_L, idxD_T, idxD_S, slcD_L, slcD_T, itemsD_L, itemsD_T, asD_shr, asD_frs, asB_ok, okCall_t, noBrw_nil, noBrw_shr, noBrw_frs, tests_nil, tests_one, at0, at1, at2, lim_eq, List.set_cons_zero, List.set_cons_succ, List.getElem?_cons_zero, List.getElem?_cons_succ, List.length_cons, List.length_nil, List.map_cons, List.map_nil, Option.map_some, Option.map_none, if_true, if_false, ite_true, ite_false, reduceIte, reduceCtorEq, decide_true, decide_false, Nat.reduceAdd, Nat.reduceSub, Nat.reduceEqDiff, Int.reduceNeg, Int.reduceLT, Int.reduceLE, Bool.not_true, Bool.not_false, Nat.reduceLeDiff, and_self, true_and, and_true, Prog.d]
  refine (seq_rt (by simp only [runD, Dv.start, evSs_nil, evSs_cons, evS, evE, evL, evB, evAnd, evOr, evO, onOwn, guardO, setAll, thenS_nx, thenS_rt, thenS_ex, onV_ok, onV_ex, onB_ok, onB_ex, bindV_ok, bindV_ex, boolV_ok, bindA_ok, consA_ok, optI_none, optI_some, outcome_nx, outcome_shr, outcome_frs, outcome_ex, setV_shr, setV_frs, binD_add, binD_addT, binD_addL, binD_sub, binD_mulr, binD_mull, binD_fdiv', binD_mod', cmpD_lt, cmpD_le, cmpD_gt, cmpD_ge, cmpD_eqi, cmpD_nei, cmpD_is, cmpD_isn, cmpD_memL, cmpD_nmemL, cmpD_memT, cmpD_nmemT, isN_none, isN_int, isN_tup, isN_lst, isN_bool, isN_str, flat_int, flat_str, flat_none, flat_bool, fnD_lenL, fnD_lenT, fnD_lenS, fnD_intB, fnD_str, fnD_tupL, fnD_tupT, fnD_lstL, fnD_lstT, fnD_all, idxD_L, idxD_T, idxD_S, slcD_L, slcD_T, itemsD_L, itemsD_T, asD_shr, asD_frs, asB_ok, okCall_t, noBrw_nil, noBrw_shr, noBrw_frs, tests_nil, tests_one, at0, at1, at2, lim_eq, List.set_cons_zero, List.set_cons_succ, List.getElem?_cons_zero, List.getElem?_cons_succ, List.length_cons, List.length_nil, List.map_cons, List.map_nil, Option.map_some, Option.map_none, if_true, if_false, ite_true, ite_false, reduceIte, reduceCtorEq, decide_true, decide_false, Nat.reduceAdd, Nat.reduceSub, Nat.reduceEqDiff, Int.reduceNeg, Int.reduceLT, Int.reduceLE, Bool.not_true, Bool.not_false, Nat.reduceLeDiff, and_self, true_and, and_true, numsD])).trans rfl
end Law
namespace Law
open PySem Dv
/-! ### what is a program, told by parts -/
def amongV (d : D) (a b : Int) : Bool := match d with
  | .int i => decide (a ≤ i) && decide (i ≤ b)
  | _ => false
/-- may be asked for its type and compared -/
def plainD : D → Bool
  | .str s => PyData.strOk s
  | .dict (_ :: _) => false
  | _ => true
theorem plain_ty {d : D} (h : plainD d = true) : okTy d = true := by
  cases d with
  | dict xs => cases xs with
    | nil => rfl
    | cons a b => simp [plainD] at h
  | _ => rfl
theorem among_ok {fu n : Nat} {d : D} (h : plainD d = true) (a b : Int) : run tab fu (n + 1) "is_among" [d, .int a, .int b] = some (.ok .shr (.bool (amongV d a b))) := by
  rw [run_is_among]
  refine runD_rt rfl ?_
  unfold d_is_among
  rw [show Dv.start _ _ = [some (false, d), some (false, .int a), some (false, .int b)] from rfl]
  have ht := plain_ty h
  refine (seq_rt ?_).trans rfl
  cases d with
  | int i =>
    by_cases h1 : a ≤ i
    · simp only [runD, Dv.start, evSs_nil, evSs_cons, evS, evE, evL, evB, evAnd, evOr, evO, onOwn, guardO, setAll, thenS_nx, thenS_rt, thenS_ex, onV_ok, onV_ex, onB_ok, onB_ex, bindV_ok, bindV_ex, boolV_ok, bindA_ok, consA_ok, optI_none, optI_some, outcome_nx, outcome_shr, outcome_frs, outcome_ex, setV_shr, setV_frs, binD_add, binD_addT, binD_addL, binD_sub, binD_mulr, binD_mull, binD_fdiv', binD_mod', cmpD_lt, cmpD_le, cmpD_gt, cmpD_ge, cmpD_eqi, cmpD_nei, cmpD_is, cmpD_isn, cmpD_memL, cmpD_nmemL, cmpD_memT, cmpD_nmemT, isN_none, isN_int, isN_tup, isN_lst, isN_bool, isN_str, flat_int, flat_str, flat_none, flat_bool, fnD_lenL, fnD_lenT, fnD_lenS, fnD_intB, fnD_str, fnD_tupL, fnD_tupT, fnD_lstL, fnD_lstT, fnD_all, idxD_L, idxD_T, idxD_S, slcD_L, slcD_T, itemsD_L, itemsD_T, asD_shr, asD_frs, asB_ok, okCall_t, noBrw_nil, noBrw_shr, noBrw_frs, tests_nil, tests_one, at0, at1, at2, lim_eq, List.set_cons_zero, List.set_cons_succ, List.getElem?_cons_zero, List.getElem?_cons_succ, List.length_cons, List.length_nil, List.map_cons, List.map_nil, Option.map_some, Option.map_none, if_true, if_false, ite_true, ite_false, reduceIte, reduceCtorEq, decide_true, decide_false, Nat.reduceAdd, Nat.reduceSub, Nat.reduceEqDiff, Int.reduceNeg, Int.reduceLT, Int.reduceLE, Bool.not_true, Bool.not_false, Nat.reduceLeDiff, and_self, true_and, and_true, ht, isInst, amongV, h1, decide_true, Bool.true_and]
    · simp only [runD, Dv.start, evSs_nil, evSs_cons, evS, evE, evL, evB, evAnd, evOr, evO, onOwn, guardO, setAll, thenS_nx, thenS_rt, thenS_ex, onV_ok, onV_ex, onB_ok, onB_ex, bindV_ok, bindV_ex, boolV_ok, bindA_ok, consA_ok, optI_none, optI_some, outcome_nx, outcome_shr, outcome_frs, outcome_ex, setV_shr, setV_frs, binD_add, binD_addT, binD_addL, binD_sub, binD_mulr, binD_mull, binD_fdiv', binD_mod', cmpD_lt, cmpD_le, cmpD_gt, cmpD_ge, cmpD_eqi, cmpD_nei, cmpD_is, cmpD_isn, cmpD_memL, cmpD_nmemL, cmpD_memT, cmpD_nmemT, isN_none, isN_int, isN_tup, isN_lst, isN_bool, isN_str, flat_int, flat_str, flat_none, flat_bool, fnD_lenL, fnD_lenT, fnD_lenS, fnD_intB, fnD_str, fnD_tupL, fnD_tupT, fnD_lstL, fnD_lstT, fnD_all, idxD_L, idxD_T, idxD_S, slcD_L, slcD_T, itemsD_L, itemsD_T, asD_shr, asD_frs, asB_ok, okCall_t, noBrw_nil, noBrw_shr, noBrw_frs, tests_nil, tests_one, at0, at1, at2, lim_eq, List.set_cons_zero, List.set_cons_succ, List.getElem?_cons_zero, List.getElem?_cons_succ, List.length_cons, List.length_nil, List.map_cons, List.map_nil, Option.map_some, Option.map_none, if_true, if_false, ite_true, ite_false, reduceIte, reduceCtorEq, decide_true, decide_false, Nat.reduceAdd, Nat.reduceSub, Nat.reduceEqDiff, Int.reduceNeg, Int.reduceLT, Int.reduceLE, Bool.not_true, Bool.not_false, Nat.reduceLeDiff, and_self, true_and, and_true, ht, isInst, amongV, h1, decide_false, Bool.false_and]
  | bool i => simp only [runD, Dv.start, evSs_nil, evSs_cons, evS, evE, evL, evB, evAnd, evOr, evO, onOwn, guardO, setAll, thenS_nx, thenS_rt, thenS_ex, onV_ok, onV_ex, onB_ok, onB_ex, bindV_ok, bindV_ex, boolV_ok, bindA_ok, consA_ok, optI_none, optI_some, outcome_nx, outcome_shr, outcome_frs, outcome_ex, setV_shr, setV_frs, binD_add, binD_addT, binD_addL, binD_sub, binD_mulr, binD_mull, binD_fdiv', binD_mod', cmpD_lt, cmpD_le, cmpD_gt, cmpD_ge, cmpD_eqi, cmpD_nei, cmpD_is, cmpD_isn, cmpD_memL, cmpD_nmemL, cmpD_memT, cmpD_nmemT, isN_none, isN_int, isN_tup, isN_lst, isN_bool, isN_str, flat_int, flat_str, flat_none, flat_bool, fnD_lenL, fnD_lenT, fnD_lenS, fnD_intB, fnD_str, fnD_tupL, fnD_tupT, fnD_lstL, fnD_lstT, fnD_all, idxD_L, idxD_T, idxD_S, slcD_L, slcD_T, itemsD_L, itemsD_T, asD_shr, asD_frs, asB_ok, okCall_t, noBrw_nil, noBrw_shr, noBrw_frs, tests_nil, tests_one, at0, at1, at2, lim_eq, List.set_cons_zero, List.set_cons_succ, List.getElem?_cons_zero, List.getElem?_cons_succ, List.length_cons, List.length_nil, List.map_cons, List.map_nil, Option.map_some, Option.map_none, if_true, if_false, ite_true, ite_false, reduceIte, reduceCtorEq, decide_true, decide_false, Nat.reduceAdd, Nat.reduceSub, Nat.reduceEqDiff, Int.reduceNeg, Int.reduceLT, Int.reduceLE, Bool.not_true, Bool.not_false, Nat.reduceLeDiff, and_self, true_and, and_true, ht, isInst, amongV, Bool.false_eq_true]
  | _ => simp only [runD, Dv.start, evSs_nil, evSs_cons, evS, evE, evL, evB, evAnd, evOr, evO, onOwn, guardO, setAll, thenS_nx, thenS_rt, thenS_ex, onV_ok, onV_ex, onB_ok, onB_ex, bindV_ok, bindV_ex, boolV_ok, bindA_ok, consA_ok, optI_none, optI_some, outcome_nx, outcome_shr, outcome_frs, outcome_ex, setV_shr, setV_frs, binD_add, binD_addT, binD_addL, binD_sub, binD_mulr, binD_mull, binD_fdiv', binD_mod', cmpD_lt, cmpD_le, cmpD_gt, cmpD_ge, cmpD_eqi, cmpD_nei, cmpD_is, cmpD_isn, cmpD_memL, cmpD_nmemL, cmpD_memT, cmpD_nmemT, isN_none, isN_int, isN_tup, isN_lst, isN_bool, isN_str, flat_int, flat_str, flat_none, flat_bool, fnD_lenL, fnD_lenT, fnD_lenS, fnD_intB, fnD_str, fnD_tupL, fnD_tupT, fnD_lstL, fnD_lstT, fnD_all, idxD_L, idxD_T, idxD_S, slcD_L, slcD_T, itemsD_L, itemsD_T, asD_shr, asD_frs, asB_ok, okCall_t, noBrw_nil, noBrw_shr, noBrw_frs, tests_nil, tests_one, at0, at1, at2, lim_eq, List.set_cons_zero, List.set_cons_succ, List.getElem?_cons_zero, List.getElem?_cons_succ, List.length_cons, List.length_nil, List.map_cons, List.map_nil, Option.map_some, Option.map_none, if_true, if_false, ite_true, ite_false, reduceIte, reduceCtorEq, decide_true, decide_false, Nat.reduceAdd, Nat.reduceSub, Nat.reduceEqDiff, Int.reduceNeg, Int.reduceLT, Int.reduceLE, Bool.not_true, Bool.not_false, Nat.reduceLeDiff, and_self, true_and, and_true, ht, isInst, amongV, Bool.false_eq_true]
/-- a part, None where there is none -/
def part (xs : List D) (k : Nat) : D := xs.getD k .none
theorem at1' {xs : List D} {d : D} (h : 1 ≤ xs.length) : L2.atI (d :: xs) 1 = some (part xs 0) := by
  cases xs with
  | nil => simp at h
  | cons a xs => exact at1
theorem at2' {xs : List D} {d : D} (h : 2 ≤ xs.length) : L2.atI (d :: xs) 2 = some (part xs 1) := by
  match xs, h with
  | a :: b :: xs, _ => exact at2
theorem among_int {d : D} {a b : Int} (h : amongV d a b = true) : ∃ i, d = .int i := by
  cases d <;> first | exact ⟨_, rfl⟩ | simp [amongV] at h
theorem among_yes {i : Int} {a b : Int} (h1 : a ≤ i) (h2 : i ≤ b) : amongV (.int i) a b = true := by simp [amongV, h1, h2]
theorem am_lo {i b : Int} (h : i < 0) : amongV (.int i) 0 b = false := by
  have : ¬ (0 ≤ i) := by omega
  simp [amongV, this]
theorem am_hi {i b : Int} (h : b < i) : amongV (.int i) 0 b = false := by
  have : ¬ (i ≤ b) := by omega
  simp [amongV, this]
theorem bools_map {α : Type} (f : α → Bool) : ∀ l : List α, bools (l.map fun r => .bool (f r)) = some (l.map f)
  | [] => rfl
  | a :: l => by rw [List.map_cons, bools, bools_map f l]; rfl
end Law
namespace Law
open PySem Dv
theorem row_fine (r : Row) : fine 1 r.d := by
  have i : ∀ (n : Nat), fine 0 (.int n) := fun n => fine_int 0 _
  cases r <;> refine fine_tup fun d hd => ?_ <;> simp only [List.mem_cons, List.not_mem_nil, or_false] at hd
  · rcases hd with rfl | rfl | rfl
    · exact fine_str 0 _ (by decide +kernel)
    · exact i _
    · exact i _
  · rcases hd with rfl | rfl
    · exact fine_str 0 _ (by decide +kernel)
    · exact i _
  · rcases hd with rfl | rfl | rfl
    · exact fine_str 0 _ (by decide +kernel)
    · exact i _
    · exact i _
  · rcases hd with rfl | rfl
    · exact fine_str 0 _ (by decide +kernel)
    · exact i _
  · rcases hd with rfl | rfl
    · exact fine_str 0 _ (by decide +kernel)
    · exact i _
  · rcases hd with rfl | rfl | rfl
    · exact fine_str 0 _ (by decide +kernel)
    · exact i _
    · exact i _
  · subst hd
    exact fine_str 0 _ (by decide +kernel)
theorem prog_fine (p : Prog) : fine 3 p.d := by
  refine fine_tup fun d hd => ?_
  simp only [List.mem_cons, List.not_mem_nil, or_false] at hd
  rcases hd with rfl | rfl | rfl
  · exact fine_int 2 _
  · exact fine_int 2 _
  · refine fine_lst fun d hd => ?_
    obtain ⟨r, _, rfl⟩ := List.mem_map.mp hd
    exact row_fine r
theorem prog_eq (p : Prog) : cmpD .eq p.d p.d = some true := by rw [cmpD_eqf (prog_fine p) (prog_fine p) (by decide) (by decide), (prog_fine p).refl]
theorem prog_ne (p : Prog) : cmpD .ne p.d p.d = some false := by rw [cmpD_nef (prog_fine p) (prog_fine p) (by decide) (by decide), (prog_fine p).refl]; rfl
end Law
namespace Law
open PySem Dv
theorem cut_take {xs : List D} {k : Nat} (h : k ≤ xs.length) : cutD xs none (some (k : Int)) = xs.take k := by
  unfold cutD
  rw [HT.sIx_none, HT.sIx_nat, Nat.min_eq_left h, List.drop_zero, Nat.sub_zero]
theorem cut_drop {xs : List D} {k : Nat} (h : k ≤ xs.length) : cutD xs (some (k : Int)) none = xs.drop k := by
  unfold cutD
  rw [HT.sIx_nat, HT.sIx_none, Nat.min_eq_left h, List.take_of_length_le (by rw [List.length_drop]; exact Nat.le_refl _)]
end Law
namespace Law
open PySem Dv
/-! ### states -/
def stD (s : Nat × List Nat) : D := .tuple [.int s.1, numsD s.2]
def optS : Option (Nat × List Nat) → D
  | none => .none
  | some s => stD s
def StateOk (p : Prog) (s : Nat × List Nat) : Prop := s.1 < p.rows.length ∧ NumsOk p s.2
/-- a step, told by parts -/
def stepR (p : Prog) (s : Nat × List Nat) : Row → Option (Nat × List Nat) × Option Nat
  | .put b n => (some (s.1 + 1, s.2.set b n), none)
  | .more b => (some (s.1 + 1, s.2.set b ((s.2.getD b 0 + 1) % (p.most + 1))), none)
  | .copy b c => (some (s.1 + 1, s.2.set b (s.2.getD c 0)), none)
  | .tell b => (some (s.1 + 1, s.2), some (s.2.getD b 0))
  | .go r => (some (r, s.2), none)
  | .ask b r => (some (if s.2.getD b 0 = 0 then r else s.1 + 1, s.2), none)
  | .stop => (none, none)
def stepV (p : Prog) (s : Nat × List Nat) : Option (Nat × List Nat) × Option Nat := stepR p s (p.rows.getD s.1 .stop)
def beginV (p : Prog) : D → Bool
  | .tuple xs => ((xs.length : Int) == (p.boxes : Int)) && xs.all fun x => amongV x 0 p.most
  | _ => false
def stateV (p : Prog) : D → Bool
  | .tuple [a, b] => amongV a 0 ((p.rows.length : Int) - 1) && beginV p b
  | _ => false
def plainBeg : D → Bool
  | .tuple xs => xs.all plainD && decide (xs.length ≤ 100000)
  | d => plainD d
def plainState : D → Bool
  | .tuple [a, b] => plainD a && plainBeg b
  | .tuple _ => true
  | d => plainD d
theorem plainBeg_ty {d : D} (h : plainBeg d = true) : okTy d = true := by
  cases d with
  | dict xs => exact plain_ty (d := .dict xs) h
  | _ => rfl
theorem begin_is {fu n : Nat} (p : Prog) {d : D} (h : plainBeg d = true) : run tab fu (n + 2) "is_begin" [p.d, d] = some (.ok .shr (.bool (beginV p d))) := by
  rw [run_is_begin]
  refine runD_rt rfl ?_
  have ht := plainBeg_ty h
  unfold d_is_begin
  rw [show Dv.start _ _ = [some (false, p.d), some (false, d), none] from rfl]
  by_cases hi : isInst d .tuple = true
  · obtain ⟨xs, rfl⟩ : ∃ xs, d = .tuple xs := by cases d <;> first | exact ⟨_, rfl⟩ | simp [isInst] at hi
    simp only [plainBeg, Bool.and_eq_true, decide_eq_true_eq] at h
    obtain ⟨hp, hlim⟩ := h
    cases hl : ((xs.length : Int) == (p.boxes : Int)) with
    | false =>
      have e : beginV p (.tuple xs) = false := by
        show (((xs.length : Int) == (p.boxes : Int)) && _) = false
        rw [hl]; rfl
      rw [e]
      exact (seq_rt (by simp only [runD, Dv.start, evSs_nil, evSs_cons, evS, evE, evL, evB, evAnd, evOr, evO, onOwn, guardO, setAll, thenS_nx, thenS_rt, thenS_ex, onV_ok, onV_ex, onB_ok, onB_ex, bindV_ok, bindV_ex, boolV_ok, bindA_ok, consA_ok, optI_none, optI_some, outcome_nx, outcome_shr, outcome_frs, outcome_ex, setV_shr, setV_frs, binD_add, binD_addT, binD_addL, binD_sub, binD_mulr, binD_mull, binD_fdiv', binD_mod', cmpD_lt, cmpD_le, cmpD_gt, cmpD_ge, cmpD_eqi, cmpD_nei, cmpD_is, cmpD_isn, cmpD_memL, cmpD_nmemL, cmpD_memT, cmpD_nmemT, isN_none, isN_int, isN_tup, isN_lst, isN_bool, isN_str, flat_int, flat_str, flat_none, flat_bool, fnD_lenL, fnD_lenT, fnD_lenS, fnD_intB, fnD_str, fnD_tupL, fnD_tupT, fnD_lstL, fnD_lstT, fnD_all, idxD_L, idxD_T, idxD_S, slcD_L, slcD_T, itemsD_L, itemsD_T, asD_shr, asD_frs, asB_ok, okCall_t, noBrw_nil, noBrw_shr, noBrw_frs, tests_nil, tests_one, at0, at1, at2, lim_eq, List.set_cons_zero, List.set_cons_succ, List.getElem?_cons_zero, List.getElem?_cons_succ, List.length_cons, List.length_nil, List.map_cons, List.map_nil, Option.map_some, Option.map_none, if_true, if_false, ite_true, ite_false, reduceIte, reduceCtorEq, decide_true, decide_false, Nat.reduceAdd, Nat.reduceSub, Nat.reduceEqDiff, Int.reduceNeg, Int.reduceLT, Int.reduceLE, Bool.not_true, Bool.not_false, Nat.reduceLeDiff, and_self, true_and, and_true, ht, hi, Prog.d, hl, Bool.false_eq_true]; try rfl)).trans rfl
    | true =>
      have e : beginV p (.tuple xs) = xs.all fun x => amongV x 0 p.most := by
        show (((xs.length : Int) == (p.boxes : Int)) && _) = _
        rw [hl]; rfl
      rw [e]
      refine (seq (st' := [some (false, p.d), some (false, .tuple xs), none]) (by simp only [runD, Dv.start, evSs_nil, evSs_cons, evS, evE, evL, evB, evAnd, evOr, evO, onOwn, guardO, setAll, thenS_nx, thenS_rt, thenS_ex, onV_ok, onV_ex, onB_ok, onB_ex, bindV_ok, bindV_ex, boolV_ok, bindA_ok, consA_ok, optI_none, optI_some, outcome_nx, outcome_shr, outcome_frs, outcome_ex, setV_shr, setV_frs, binD_add, binD_addT, binD_addL, binD_sub, binD_mulr, binD_mull, binD_fdiv', binD_mod', cmpD_lt, cmpD_le, cmpD_gt, cmpD_ge, cmpD_eqi, cmpD_nei, cmpD_is, cmpD_isn, cmpD_memL, cmpD_nmemL, cmpD_memT, cmpD_nmemT, isN_none, isN_int, isN_tup, isN_lst, isN_bool, isN_str, flat_int, flat_str, flat_none, flat_bool, fnD_lenL, fnD_lenT, fnD_lenS, fnD_intB, fnD_str, fnD_tupL, fnD_tupT, fnD_lstL, fnD_lstT, fnD_all, idxD_L, idxD_T, idxD_S, slcD_L, slcD_T, itemsD_L, itemsD_T, asD_shr, asD_frs, asB_ok, okCall_t, noBrw_nil, noBrw_shr, noBrw_frs, tests_nil, tests_one, at0, at1, at2, lim_eq, List.set_cons_zero, List.set_cons_succ, List.getElem?_cons_zero, List.getElem?_cons_succ, List.length_cons, List.length_nil, List.map_cons, List.map_nil, Option.map_some, Option.map_none, if_true, if_false, ite_true, ite_false, reduceIte, reduceCtorEq, decide_true, decide_false, Nat.reduceAdd, Nat.reduceSub, Nat.reduceEqDiff, Int.reduceNeg, Int.reduceLT, Int.reduceLE, Bool.not_true, Bool.not_false, Nat.reduceLeDiff, and_self, true_and, and_true, ht, hi, Prog.d, hl, Bool.false_eq_true])).trans ?_
      have hcg : compGo (fun d => tests (evB (run tab fu (n + 1)) i_is_begin_0 [some (false, p.d), some (false, .tuple xs), some (false, d)])) (fun d => asD (evE (run tab fu (n + 1)) e_is_begin_1 [some (false, p.d), some (false, .tuple xs), some (false, d)])) xs = some (xs.map fun x => .bool (amongV x 0 p.most)) := compGo_all _ fun x hx => by
        have hpx := List.all_eq_true.mp hp x hx
        refine ⟨rfl, ?_⟩
        unfold e_is_begin_1
        simp only [runD, Dv.start, evSs_nil, evSs_cons, evS, evE, evL, evB, evAnd, evOr, evO, onOwn, guardO, setAll, thenS_nx, thenS_rt, thenS_ex, onV_ok, onV_ex, onB_ok, onB_ex, bindV_ok, bindV_ex, boolV_ok, bindA_ok, consA_ok, optI_none, optI_some, outcome_nx, outcome_shr, outcome_frs, outcome_ex, setV_shr, setV_frs, binD_add, binD_addT, binD_addL, binD_sub, binD_mulr, binD_mull, binD_fdiv', binD_mod', cmpD_lt, cmpD_le, cmpD_gt, cmpD_ge, cmpD_eqi, cmpD_nei, cmpD_is, cmpD_isn, cmpD_memL, cmpD_nmemL, cmpD_memT, cmpD_nmemT, isN_none, isN_int, isN_tup, isN_lst, isN_bool, isN_str, flat_int, flat_str, flat_none, flat_bool, fnD_lenL, fnD_lenT, fnD_lenS, fnD_intB, fnD_str, fnD_tupL, fnD_tupT, fnD_lstL, fnD_lstT, fnD_all, idxD_L, idxD_T, idxD_S, slcD_L, slcD_T, itemsD_L, itemsD_T, asD_shr, asD_frs, asB_ok, okCall_t, noBrw_nil, noBrw_shr, noBrw_frs, tests_nil, tests_one, at0, at1, at2, lim_eq, List.set_cons_zero, List.set_cons_succ, List.getElem?_cons_zero, List.getElem?_cons_succ, List.length_cons, List.length_nil, List.map_cons, List.map_nil, Option.map_some, Option.map_none, if_true, if_false, ite_true, ite_false, reduceIte, reduceCtorEq, decide_true, decide_false, Nat.reduceAdd, Nat.reduceSub, Nat.reduceEqDiff, Int.reduceNeg, Int.reduceLT, Int.reduceLE, Bool.not_true, Bool.not_false, Nat.reduceLeDiff, and_self, true_and, and_true, Prog.d, among_ok hpx]
      have hb := bools_map (fun x => amongV x 0 p.most) xs
      refine (seq_rt (d := .bool (xs.all fun x => amongV x 0 p.most)) ?_).trans rfl
      simp only [runD, Dv.start, evSs_nil, evSs_cons, evS, evE, evL, evB, evAnd, evOr, evO, onOwn, guardO, setAll, thenS_nx, thenS_rt, thenS_ex, onV_ok, onV_ex, onB_ok, onB_ex, bindV_ok, bindV_ex, boolV_ok, bindA_ok, consA_ok, optI_none, optI_some, outcome_nx, outcome_shr, outcome_frs, outcome_ex, setV_shr, setV_frs, binD_add, binD_addT, binD_addL, binD_sub, binD_mulr, binD_mull, binD_fdiv', binD_mod', cmpD_lt, cmpD_le, cmpD_gt, cmpD_ge, cmpD_eqi, cmpD_nei, cmpD_is, cmpD_isn, cmpD_memL, cmpD_nmemL, cmpD_memT, cmpD_nmemT, isN_none, isN_int, isN_tup, isN_lst, isN_bool, isN_str, flat_int, flat_str, flat_none, flat_bool, fnD_lenL, fnD_lenT, fnD_lenS, fnD_intB, fnD_str, fnD_tupL, fnD_tupT, fnD_lstL, fnD_lstT, fnD_all, idxD_L, idxD_T, idxD_S, slcD_L, slcD_T, itemsD_L, itemsD_T, asD_shr, asD_frs, asB_ok, okCall_t, noBrw_nil, noBrw_shr, noBrw_frs, tests_nil, tests_one, at0, at1, at2, lim_eq, List.set_cons_zero, List.set_cons_succ, List.getElem?_cons_zero, List.getElem?_cons_succ, List.length_cons, List.length_nil, List.map_cons, List.map_nil, Option.map_some, Option.map_none, if_true, if_false, ite_true, ite_false, reduceIte, reduceCtorEq, decide_true, decide_false, Nat.reduceAdd, Nat.reduceSub, Nat.reduceEqDiff, Int.reduceNeg, Int.reduceLT, Int.reduceLE, Bool.not_true, Bool.not_false, Nat.reduceLeDiff, and_self, true_and, and_true, hcg, sized, List.length_map, hlim, hb, List.all_map]
      rfl
  · rw [Bool.not_eq_true] at hi
    have e : beginV p d = false := by cases d <;> first | rfl | (simp [isInst] at hi)
    rw [e]
    exact (seq_rt (by simp only [runD, Dv.start, evSs_nil, evSs_cons, evS, evE, evL, evB, evAnd, evOr, evO, onOwn, guardO, setAll, thenS_nx, thenS_rt, thenS_ex, onV_ok, onV_ex, onB_ok, onB_ex, bindV_ok, bindV_ex, boolV_ok, bindA_ok, consA_ok, optI_none, optI_some, outcome_nx, outcome_shr, outcome_frs, outcome_ex, setV_shr, setV_frs, binD_add, binD_addT, binD_addL, binD_sub, binD_mulr, binD_mull, binD_fdiv', binD_mod', cmpD_lt, cmpD_le, cmpD_gt, cmpD_ge, cmpD_eqi, cmpD_nei, cmpD_is, cmpD_isn, cmpD_memL, cmpD_nmemL, cmpD_memT, cmpD_nmemT, isN_none, isN_int, isN_tup, isN_lst, isN_bool, isN_str, flat_int, flat_str, flat_none, flat_bool, fnD_lenL, fnD_lenT, fnD_lenS, fnD_intB, fnD_str, fnD_tupL, fnD_tupT, fnD_lstL, fnD_lstT, fnD_all, idxD_L, idxD_T, idxD_S, slcD_L, slcD_T, itemsD_L, itemsD_T, asD_shr, asD_frs, asB_ok, okCall_t, noBrw_nil, noBrw_shr, noBrw_frs, tests_nil, tests_one, at0, at1, at2, lim_eq, List.set_cons_zero, List.set_cons_succ, List.getElem?_cons_zero, List.getElem?_cons_succ, List.length_cons, List.length_nil, List.map_cons, List.map_nil, Option.map_some, Option.map_none, if_true, if_false, ite_true, ite_false, reduceIte, reduceCtorEq, decide_true, decide_false, Nat.reduceAdd, Nat.reduceSub, Nat.reduceEqDiff, Int.reduceNeg, Int.reduceLT, Int.reduceLE, Bool.not_true, Bool.not_false, Nat.reduceLeDiff, and_self, true_and, and_true, ht, hi, Bool.false_eq_true]; try rfl)).trans rfl
theorem plainState_ty {d : D} (h : plainState d = true) : okTy d = true := by
  cases d with
  | dict xs => exact plain_ty (d := .dict xs) h
  | _ => rfl
theorem need_state_no {fu n : Nat} (p : Prog) {d : D} (h : plainState d = true) (hv : stateV p d = false) : run tab fu (n + 3) "need_state" [p.d, d] = some (.ex "BadState") := by
  rw [run_need_state]
  refine runD_ex rfl ?_
  have ht := plainState_ty h
  unfold d_need_state
  rw [show Dv.start _ _ = [some (false, p.d), some (false, d)] from rfl]
  by_cases hi : isInst d .tuple = true
  · obtain ⟨xs, rfl⟩ : ∃ xs, d = .tuple xs := by cases d <;> first | exact ⟨_, rfl⟩ | simp [isInst] at hi
    by_cases hl : xs.length = 2
    · match xs, hl with
      | [a, b], _ =>
        simp only [plainState, Bool.and_eq_true] at h
        have a1 := among_ok (fu := fu) (n := n + 1) h.1 0 ((p.rows.length : Int) - 1)
        have b1 := begin_is (fu := fu) (n := n) p h.2
        rw [Prog.d] at b1
        cases g : amongV a 0 ((p.rows.length : Int) - 1) with
        | false => exact (seq_ex (by simp only [runD, Dv.start, evSs_nil, evSs_cons, evS, evE, evL, evB, evAnd, evOr, evO, onOwn, guardO, setAll, thenS_nx, thenS_rt, thenS_ex, onV_ok, onV_ex, onB_ok, onB_ex, bindV_ok, bindV_ex, boolV_ok, bindA_ok, consA_ok, optI_none, optI_some, outcome_nx, outcome_shr, outcome_frs, outcome_ex, setV_shr, setV_frs, binD_add, binD_addT, binD_addL, binD_sub, binD_mulr, binD_mull, binD_fdiv', binD_mod', cmpD_lt, cmpD_le, cmpD_gt, cmpD_ge, cmpD_eqi, cmpD_nei, cmpD_is, cmpD_isn, cmpD_memL, cmpD_nmemL, cmpD_memT, cmpD_nmemT, isN_none, isN_int, isN_tup, isN_lst, isN_bool, isN_str, flat_int, flat_str, flat_none, flat_bool, fnD_lenL, fnD_lenT, fnD_lenS, fnD_intB, fnD_str, fnD_tupL, fnD_tupT, fnD_lstL, fnD_lstT, fnD_all, idxD_L, idxD_T, idxD_S, slcD_L, slcD_T, itemsD_L, itemsD_T, asD_shr, asD_frs, asB_ok, okCall_t, noBrw_nil, noBrw_shr, noBrw_frs, tests_nil, tests_one, at0, at1, at2, lim_eq, List.set_cons_zero, List.set_cons_succ, List.getElem?_cons_zero, List.getElem?_cons_succ, List.length_cons, List.length_nil, List.map_cons, List.map_nil, Option.map_some, Option.map_none, if_true, if_false, ite_true, ite_false, reduceIte, reduceCtorEq, decide_true, decide_false, Nat.reduceAdd, Nat.reduceSub, Nat.reduceEqDiff, Int.reduceNeg, Int.reduceLT, Int.reduceLE, Bool.not_true, Bool.not_false, Nat.reduceLeDiff, and_self, true_and, and_true, ht, hi, Prog.d, List.length_map, Int.cast_ofNat_Int, beq_self_eq_true, a1, g, Bool.false_eq_true])).trans rfl
        | true =>
          have hb : beginV p b = false := by
            have : stateV p (.tuple [a, b]) = (amongV a 0 ((p.rows.length : Int) - 1) && beginV p b) := rfl
            rw [this, g, Bool.true_and] at hv
            exact hv
          refine (seq (st' := [some (false, p.d), some (false, .tuple [a, b])]) (by simp only [runD, Dv.start, evSs_nil, evSs_cons, evS, evE, evL, evB, evAnd, evOr, evO, onOwn, guardO, setAll, thenS_nx, thenS_rt, thenS_ex, onV_ok, onV_ex, onB_ok, onB_ex, bindV_ok, bindV_ex, boolV_ok, bindA_ok, consA_ok, optI_none, optI_some, outcome_nx, outcome_shr, outcome_frs, outcome_ex, setV_shr, setV_frs, binD_add, binD_addT, binD_addL, binD_sub, binD_mulr, binD_mull, binD_fdiv', binD_mod', cmpD_lt, cmpD_le, cmpD_gt, cmpD_ge, cmpD_eqi, cmpD_nei, cmpD_is, cmpD_isn, cmpD_memL, cmpD_nmemL, cmpD_memT, cmpD_nmemT, isN_none, isN_int, isN_tup, isN_lst, isN_bool, isN_str, flat_int, flat_str, flat_none, flat_bool, fnD_lenL, fnD_lenT, fnD_lenS, fnD_intB, fnD_str, fnD_tupL, fnD_tupT, fnD_lstL, fnD_lstT, fnD_all, idxD_L, idxD_T, idxD_S, slcD_L, slcD_T, itemsD_L, itemsD_T, asD_shr, asD_frs, asB_ok, okCall_t, noBrw_nil, noBrw_shr, noBrw_frs, tests_nil, tests_one, at0, at1, at2, lim_eq, List.set_cons_zero, List.set_cons_succ, List.getElem?_cons_zero, List.getElem?_cons_succ, List.length_cons, List.length_nil, List.map_cons, List.map_nil, Option.map_some, Option.map_none, if_true, if_false, ite_true, ite_false, reduceIte, reduceCtorEq, decide_true, decide_false, Nat.reduceAdd, Nat.reduceSub, Nat.reduceEqDiff, Int.reduceNeg, Int.reduceLT, Int.reduceLE, Bool.not_true, Bool.not_false, Nat.reduceLeDiff, and_self, true_and, and_true, ht, hi, Prog.d, List.length_map, Int.cast_ofNat_Int, beq_self_eq_true, a1, g, Bool.false_eq_true])).trans ?_
          exact (seq_ex (by simp only [runD, Dv.start, evSs_nil, evSs_cons, evS, evE, evL, evB, evAnd, evOr, evO, onOwn, guardO, setAll, thenS_nx, thenS_rt, thenS_ex, onV_ok, onV_ex, onB_ok, onB_ex, bindV_ok, bindV_ex, boolV_ok, bindA_ok, consA_ok, optI_none, optI_some, outcome_nx, outcome_shr, outcome_frs, outcome_ex, setV_shr, setV_frs, binD_add, binD_addT, binD_addL, binD_sub, binD_mulr, binD_mull, binD_fdiv', binD_mod', cmpD_lt, cmpD_le, cmpD_gt, cmpD_ge, cmpD_eqi, cmpD_nei, cmpD_is, cmpD_isn, cmpD_memL, cmpD_nmemL, cmpD_memT, cmpD_nmemT, isN_none, isN_int, isN_tup, isN_lst, isN_bool, isN_str, flat_int, flat_str, flat_none, flat_bool, fnD_lenL, fnD_lenT, fnD_lenS, fnD_intB, fnD_str, fnD_tupL, fnD_tupT, fnD_lstL, fnD_lstT, fnD_all, idxD_L, idxD_T, idxD_S, slcD_L, slcD_T, itemsD_L, itemsD_T, asD_shr, asD_frs, asB_ok, okCall_t, noBrw_nil, noBrw_shr, noBrw_frs, tests_nil, tests_one, at0, at1, at2, lim_eq, List.set_cons_zero, List.set_cons_succ, List.getElem?_cons_zero, List.getElem?_cons_succ, List.length_cons, List.length_nil, List.map_cons, List.map_nil, Option.map_some, Option.map_none, if_true, if_false, ite_true, ite_false, reduceIte, reduceCtorEq, decide_true, decide_false, Nat.reduceAdd, Nat.reduceSub, Nat.reduceEqDiff, Int.reduceNeg, Int.reduceLT, Int.reduceLE, Bool.not_true, Bool.not_false, Nat.reduceLeDiff, and_self, true_and, and_true, Prog.d, b1, hb])).trans rfl
    · have hl' : ((xs.length : Int) == 2) = false := by rw [beq_eq_false_iff_ne]; omega
      exact (seq_ex (by simp only [runD, Dv.start, evSs_nil, evSs_cons, evS, evE, evL, evB, evAnd, evOr, evO, onOwn, guardO, setAll, thenS_nx, thenS_rt, thenS_ex, onV_ok, onV_ex, onB_ok, onB_ex, bindV_ok, bindV_ex, boolV_ok, bindA_ok, consA_ok, optI_none, optI_some, outcome_nx, outcome_shr, outcome_frs, outcome_ex, setV_shr, setV_frs, binD_add, binD_addT, binD_addL, binD_sub, binD_mulr, binD_mull, binD_fdiv', binD_mod', cmpD_lt, cmpD_le, cmpD_gt, cmpD_ge, cmpD_eqi, cmpD_nei, cmpD_is, cmpD_isn, cmpD_memL, cmpD_nmemL, cmpD_memT, cmpD_nmemT, isN_none, isN_int, isN_tup, isN_lst, isN_bool, isN_str, flat_int, flat_str, flat_none, flat_bool, fnD_lenL, fnD_lenT, fnD_lenS, fnD_intB, fnD_str, fnD_tupL, fnD_tupT, fnD_lstL, fnD_lstT, fnD_all, idxD_L, idxD_T, idxD_S, slcD_L, slcD_T, itemsD_L, itemsD_T, asD_shr, asD_frs, asB_ok, okCall_t, noBrw_nil, noBrw_shr, noBrw_frs, tests_nil, tests_one, at0, at1, at2, lim_eq, List.set_cons_zero, List.set_cons_succ, List.getElem?_cons_zero, List.getElem?_cons_succ, List.length_cons, List.length_nil, List.map_cons, List.map_nil, Option.map_some, Option.map_none, if_true, if_false, ite_true, ite_false, reduceIte, reduceCtorEq, decide_true, decide_false, Nat.reduceAdd, Nat.reduceSub, Nat.reduceEqDiff, Int.reduceNeg, Int.reduceLT, Int.reduceLE, Bool.not_true, Bool.not_false, Nat.reduceLeDiff, and_self, true_and, and_true, ht, hi, Prog.d, hl', Bool.false_eq_true])).trans rfl
  · rw [Bool.not_eq_true] at hi
    exact (seq_ex (by simp only [runD, Dv.start, evSs_nil, evSs_cons, evS, evE, evL, evB, evAnd, evOr, evO, onOwn, guardO, setAll, thenS_nx, thenS_rt, thenS_ex, onV_ok, onV_ex, onB_ok, onB_ex, bindV_ok, bindV_ex, boolV_ok, bindA_ok, consA_ok, optI_none, optI_some, outcome_nx, outcome_shr, outcome_frs, outcome_ex, setV_shr, setV_frs, binD_add, binD_addT, binD_addL, binD_sub, binD_mulr, binD_mull, binD_fdiv', binD_mod', cmpD_lt, cmpD_le, cmpD_gt, cmpD_ge, cmpD_eqi, cmpD_nei, cmpD_is, cmpD_isn, cmpD_memL, cmpD_nmemL, cmpD_memT, cmpD_nmemT, isN_none, isN_int, isN_tup, isN_lst, isN_bool, isN_str, flat_int, flat_str, flat_none, flat_bool, fnD_lenL, fnD_lenT, fnD_lenS, fnD_intB, fnD_str, fnD_tupL, fnD_tupT, fnD_lstL, fnD_lstT, fnD_all, idxD_L, idxD_T, idxD_S, slcD_L, slcD_T, itemsD_L, itemsD_T, asD_shr, asD_frs, asB_ok, okCall_t, noBrw_nil, noBrw_shr, noBrw_frs, tests_nil, tests_one, at0, at1, at2, lim_eq, List.set_cons_zero, List.set_cons_succ, List.getElem?_cons_zero, List.getElem?_cons_succ, List.length_cons, List.length_nil, List.map_cons, List.map_nil, Option.map_some, Option.map_none, if_true, if_false, ite_true, ite_false, reduceIte, reduceCtorEq, decide_true, decide_false, Nat.reduceAdd, Nat.reduceSub, Nat.reduceEqDiff, Int.reduceNeg, Int.reduceLT, Int.reduceLE, Bool.not_true, Bool.not_false, Nat.reduceLeDiff, and_self, true_and, and_true, ht, hi, Bool.false_eq_true])).trans rfl
theorem need_state_yes {fu n : Nat} (p : Prog) {d : D} (h : plainState d = true) (hv : stateV p d = true) : run tab fu (n + 3) "need_state" [p.d, d] = some (.ok .shr d) := by
  rw [run_need_state]
  refine runD_rt rfl ?_
  unfold d_need_state
  rw [show Dv.start _ _ = [some (false, p.d), some (false, d)] from rfl]
  unfold stateV at hv
  split at hv
  · rename_i a b
    simp only [plainState, Bool.and_eq_true] at h
    rw [Bool.and_eq_true] at hv
    have a1 := among_ok (fu := fu) (n := n + 1) h.1 0 ((p.rows.length : Int) - 1)
    have b1 := begin_is (fu := fu) (n := n) p h.2
    rw [Prog.d] at b1
    rw [hv.1] at a1
    rw [hv.2] at b1
    have ht : okTy (.tuple [a, b]) = true := rfl
    have hi : isInst (.tuple [a, b]) .tuple = true := rfl
    refine (seq (st' := [some (false, p.d), some (false, .tuple [a, b])]) (by simp only [runD, Dv.start, evSs_nil, evSs_cons, evS, evE, evL, evB, evAnd, evOr, evO, onOwn, guardO, setAll, thenS_nx, thenS_rt, thenS_ex, onV_ok, onV_ex, onB_ok, onB_ex, bindV_ok, bindV_ex, boolV_ok, bindA_ok, consA_ok, optI_none, optI_some, outcome_nx, outcome_shr, outcome_frs, outcome_ex, setV_shr, setV_frs, binD_add, binD_addT, binD_addL, binD_sub, binD_mulr, binD_mull, binD_fdiv', binD_mod', cmpD_lt, cmpD_le, cmpD_gt, cmpD_ge, cmpD_eqi, cmpD_nei, cmpD_is, cmpD_isn, cmpD_memL, cmpD_nmemL, cmpD_memT, cmpD_nmemT, isN_none, isN_int, isN_tup, isN_lst, isN_bool, isN_str, flat_int, flat_str, flat_none, flat_bool, fnD_lenL, fnD_lenT, fnD_lenS, fnD_intB, fnD_str, fnD_tupL, fnD_tupT, fnD_lstL, fnD_lstT, fnD_all, idxD_L, idxD_T, idxD_S, slcD_L, slcD_T, itemsD_L, itemsD_T, asD_shr, asD_frs, asB_ok, okCall_t, noBrw_nil, noBrw_shr, noBrw_frs, tests_nil, tests_one, at0, at1, at2, lim_eq, List.set_cons_zero, List.set_cons_succ, List.getElem?_cons_zero, List.getElem?_cons_succ, List.length_cons, List.length_nil, List.map_cons, List.map_nil, Option.map_some, Option.map_none, if_true, if_false, ite_true, ite_false, reduceIte, reduceCtorEq, decide_true, decide_false, Nat.reduceAdd, Nat.reduceSub, Nat.reduceEqDiff, Int.reduceNeg, Int.reduceLT, Int.reduceLE, Bool.not_true, Bool.not_false, Nat.reduceLeDiff, and_self, true_and, and_true, ht, hi, Prog.d, List.length_map, Int.cast_ofNat_Int, beq_self_eq_true, a1, Bool.false_eq_true])).trans ?_
    refine (seq (st' := [some (false, p.d), some (false, .tuple [a, b])]) (by simp only [runD, Dv.start, evSs_nil, evSs_cons, evS, evE, evL, evB, evAnd, evOr, evO, onOwn, guardO, setAll, thenS_nx, thenS_rt, thenS_ex, onV_ok, onV_ex, onB_ok, onB_ex, bindV_ok, bindV_ex, boolV_ok, bindA_ok, consA_ok, optI_none, optI_some, outcome_nx, outcome_shr, outcome_frs, outcome_ex, setV_shr, setV_frs, binD_add, binD_addT, binD_addL, binD_sub, binD_mulr, binD_mull, binD_fdiv', binD_mod', cmpD_lt, cmpD_le, cmpD_gt, cmpD_ge, cmpD_eqi, cmpD_nei, cmpD_is, cmpD_isn, cmpD_memL, cmpD_nmemL, cmpD_memT, cmpD_nmemT, isN_none, isN_int, isN_tup, isN_lst, isN_bool, isN_str, flat_int, flat_str, flat_none, flat_bool, fnD_lenL, fnD_lenT, fnD_lenS, fnD_intB, fnD_str, fnD_tupL, fnD_tupT, fnD_lstL, fnD_lstT, fnD_all, idxD_L, idxD_T, idxD_S, slcD_L, slcD_T, itemsD_L, itemsD_T, asD_shr, asD_frs, asB_ok, okCall_t, noBrw_nil, noBrw_shr, noBrw_frs, tests_nil, tests_one, at0, at1, at2, lim_eq, List.set_cons_zero, List.set_cons_succ, List.getElem?_cons_zero, List.getElem?_cons_succ, List.length_cons, List.length_nil, List.map_cons, List.map_nil, Option.map_some, Option.map_none, if_true, if_false, ite_true, ite_false, reduceIte, reduceCtorEq, decide_true, decide_false, Nat.reduceAdd, Nat.reduceSub, Nat.reduceEqDiff, Int.reduceNeg, Int.reduceLT, Int.reduceLE, Bool.not_true, Bool.not_false, Nat.reduceLeDiff, and_self, true_and, and_true, Prog.d, b1, Bool.false_eq_true])).trans ?_
    exact (seq_rt (by simp only [runD, Dv.start, evSs_nil, evSs_cons, evS, evE, evL, evB, evAnd, evOr, evO, onOwn, guardO, setAll, thenS_nx, thenS_rt, thenS_ex, onV_ok, onV_ex, onB_ok, onB_ex, bindV_ok, bindV_ex, boolV_ok, bindA_ok, consA_ok, optI_none, optI_some, outcome_nx, outcome_shr, outcome_frs, outcome_ex, setV_shr, setV_frs, binD_add, binD_addT, binD_addL, binD_sub, binD_mulr, binD_mull, binD_fdiv', binD_mod', cmpD_lt, cmpD_le, cmpD_gt, cmpD_ge, cmpD_eqi, cmpD_nei, cmpD_is, cmpD_isn, cmpD_memL, cmpD_nmemL, cmpD_memT, cmpD_nmemT, isN_none, isN_int, isN_tup, isN_lst, isN_bool, isN_str, flat_int, flat_str, flat_none, flat_bool, fnD_lenL, fnD_lenT, fnD_lenS, fnD_intB, fnD_str, fnD_tupL, fnD_tupT, fnD_lstL, fnD_lstT, fnD_all, idxD_L, idxD_T, idxD_S, slcD_L, slcD_T, itemsD_L, itemsD_T, asD_shr, asD_frs, asB_ok, okCall_t, noBrw_nil, noBrw_shr, noBrw_frs, tests_nil, tests_one, at0, at1, at2, lim_eq, List.set_cons_zero, List.set_cons_succ, List.getElem?_cons_zero, List.getElem?_cons_succ, List.length_cons, List.length_nil, List.map_cons, List.map_nil, Option.map_some, Option.map_none, if_true, if_false, ite_true, ite_false, reduceIte, reduceCtorEq, decide_true, decide_false, Nat.reduceAdd, Nat.reduceSub, Nat.reduceEqDiff, Int.reduceNeg, Int.reduceLT, Int.reduceLE, Bool.not_true, Bool.not_false, Nat.reduceLeDiff, and_self, true_and, and_true]; try rfl)).trans rfl
  · cases hv
theorem nums_plain (ns : List Nat) (h : ns.length ≤ 100000) : plainBeg (numsD ns) = true := by
  show ((ns.map fun (n : Nat) => PyData.int (n : Int)).all plainD && decide _) = true
  rw [Bool.and_eq_true, decide_eq_true_eq, List.all_map, List.length_map]
  exact ⟨List.all_eq_true.mpr fun _ _ => rfl, h⟩
theorem state_plain {p : Prog} {s : Nat × List Nat} (hb : p.boxes ≤ 3) (h : StateOk p s) : plainState (stD s) = true := by
  show (true && plainBeg (numsD s.2)) = true
  rw [nums_plain s.2 (by rw [h.2.1]; omega)]
  rfl
theorem state_yes {p : Prog} {s : Nat × List Nat} (h : StateOk p s) : stateV p (stD s) = true := by
  show (amongV (.int s.1) 0 ((p.rows.length : Int) - 1) && beginV p (numsD s.2)) = true
  rw [among_yes (by omega) (by have := h.1; omega), Bool.true_and]
  show ((((s.2.map fun (n : Nat) => PyData.int (n : Int)).length : Int) == (p.boxes : Int)) && (s.2.map fun (n : Nat) => PyData.int (n : Int)).all fun x => amongV x 0 p.most) = true
  rw [List.length_map, h.2.1, beq_self_eq_true, Bool.true_and, List.all_map, List.all_eq_true]
  exact fun n hn => among_yes (i := (n : Int)) (a := 0) (b := (p.most : Int)) (by omega) (by have := h.2.2 n hn; omega)
end Law
namespace Law
open PySem Dv
theorem w_put_put : cmpD .eq (.str "put") (.str "put") = some true := by rw [cmpD_eqs (by decide +kernel) (by decide +kernel), show (("put" : Str) == ("put" : Str)) = true by decide +kernel]
theorem w_put_more : cmpD .eq (.str "put") (.str "more") = some false := by rw [cmpD_eqs (by decide +kernel) (by decide +kernel), show (("put" : Str) == ("more" : Str)) = false by decide +kernel]
theorem w_put_copy : cmpD .eq (.str "put") (.str "copy") = some false := by rw [cmpD_eqs (by decide +kernel) (by decide +kernel), show (("put" : Str) == ("copy" : Str)) = false by decide +kernel]
theorem w_put_tell : cmpD .eq (.str "put") (.str "tell") = some false := by rw [cmpD_eqs (by decide +kernel) (by decide +kernel), show (("put" : Str) == ("tell" : Str)) = false by decide +kernel]
theorem w_put_go : cmpD .eq (.str "put") (.str "go") = some false := by rw [cmpD_eqs (by decide +kernel) (by decide +kernel), show (("put" : Str) == ("go" : Str)) = false by decide +kernel]
theorem w_put_ask : cmpD .eq (.str "put") (.str "ask") = some false := by rw [cmpD_eqs (by decide +kernel) (by decide +kernel), show (("put" : Str) == ("ask" : Str)) = false by decide +kernel]
theorem w_put_stop : cmpD .eq (.str "put") (.str "stop") = some false := by rw [cmpD_eqs (by decide +kernel) (by decide +kernel), show (("put" : Str) == ("stop" : Str)) = false by decide +kernel]
theorem w_put_is : cmpD .eq (.str "put") (.str "is") = some false := by rw [cmpD_eqs (by decide +kernel) (by decide +kernel), show (("put" : Str) == ("is" : Str)) = false by decide +kernel]
theorem w_put_by : cmpD .eq (.str "put") (.str "by") = some false := by rw [cmpD_eqs (by decide +kernel) (by decide +kernel), show (("put" : Str) == ("by" : Str)) = false by decide +kernel]
theorem w_more_put : cmpD .eq (.str "more") (.str "put") = some false := by rw [cmpD_eqs (by decide +kernel) (by decide +kernel), show (("more" : Str) == ("put" : Str)) = false by decide +kernel]
theorem w_more_more : cmpD .eq (.str "more") (.str "more") = some true := by rw [cmpD_eqs (by decide +kernel) (by decide +kernel), show (("more" : Str) == ("more" : Str)) = true by decide +kernel]
theorem w_more_copy : cmpD .eq (.str "more") (.str "copy") = some false := by rw [cmpD_eqs (by decide +kernel) (by decide +kernel), show (("more" : Str) == ("copy" : Str)) = false by decide +kernel]
theorem w_more_tell : cmpD .eq (.str "more") (.str "tell") = some false := by rw [cmpD_eqs (by decide +kernel) (by decide +kernel), show (("more" : Str) == ("tell" : Str)) = false by decide +kernel]
theorem w_more_go : cmpD .eq (.str "more") (.str "go") = some false := by rw [cmpD_eqs (by decide +kernel) (by decide +kernel), show (("more" : Str) == ("go" : Str)) = false by decide +kernel]
theorem w_more_ask : cmpD .eq (.str "more") (.str "ask") = some false := by rw [cmpD_eqs (by decide +kernel) (by decide +kernel), show (("more" : Str) == ("ask" : Str)) = false by decide +kernel]
theorem w_more_stop : cmpD .eq (.str "more") (.str "stop") = some false := by rw [cmpD_eqs (by decide +kernel) (by decide +kernel), show (("more" : Str) == ("stop" : Str)) = false by decide +kernel]
theorem w_more_is : cmpD .eq (.str "more") (.str "is") = some false := by rw [cmpD_eqs (by decide +kernel) (by decide +kernel), show (("more" : Str) == ("is" : Str)) = false by decide +kernel]
theorem w_more_by : cmpD .eq (.str "more") (.str "by") = some false := by rw [cmpD_eqs (by decide +kernel) (by decide +kernel), show (("more" : Str) == ("by" : Str)) = false by decide +kernel]
theorem w_copy_put : cmpD .eq (.str "copy") (.str "put") = some false := by rw [cmpD_eqs (by decide +kernel) (by decide +kernel), show (("copy" : Str) == ("put" : Str)) = false by decide +kernel]
theorem w_copy_more : cmpD .eq (.str "copy") (.str "more") = some false := by rw [cmpD_eqs (by decide +kernel) (by decide +kernel), show (("copy" : Str) == ("more" : Str)) = false by decide +kernel]
theorem w_copy_copy : cmpD .eq (.str "copy") (.str "copy") = some true := by rw [cmpD_eqs (by decide +kernel) (by decide +kernel), show (("copy" : Str) == ("copy" : Str)) = true by decide +kernel]
theorem w_copy_tell : cmpD .eq (.str "copy") (.str "tell") = some false := by rw [cmpD_eqs (by decide +kernel) (by decide +kernel), show (("copy" : Str) == ("tell" : Str)) = false by decide +kernel]
theorem w_copy_go : cmpD .eq (.str "copy") (.str "go") = some false := by rw [cmpD_eqs (by decide +kernel) (by decide +kernel), show (("copy" : Str) == ("go" : Str)) = false by decide +kernel]
theorem w_copy_ask : cmpD .eq (.str "copy") (.str "ask") = some false := by rw [cmpD_eqs (by decide +kernel) (by decide +kernel), show (("copy" : Str) == ("ask" : Str)) = false by decide +kernel]
theorem w_copy_stop : cmpD .eq (.str "copy") (.str "stop") = some false := by rw [cmpD_eqs (by decide +kernel) (by decide +kernel), show (("copy" : Str) == ("stop" : Str)) = false by decide +kernel]
theorem w_copy_is : cmpD .eq (.str "copy") (.str "is") = some false := by rw [cmpD_eqs (by decide +kernel) (by decide +kernel), show (("copy" : Str) == ("is" : Str)) = false by decide +kernel]
theorem w_copy_by : cmpD .eq (.str "copy") (.str "by") = some false := by rw [cmpD_eqs (by decide +kernel) (by decide +kernel), show (("copy" : Str) == ("by" : Str)) = false by decide +kernel]
theorem w_tell_put : cmpD .eq (.str "tell") (.str "put") = some false := by rw [cmpD_eqs (by decide +kernel) (by decide +kernel), show (("tell" : Str) == ("put" : Str)) = false by decide +kernel]
theorem w_tell_more : cmpD .eq (.str "tell") (.str "more") = some false := by rw [cmpD_eqs (by decide +kernel) (by decide +kernel), show (("tell" : Str) == ("more" : Str)) = false by decide +kernel]
theorem w_tell_copy : cmpD .eq (.str "tell") (.str "copy") = some false := by rw [cmpD_eqs (by decide +kernel) (by decide +kernel), show (("tell" : Str) == ("copy" : Str)) = false by decide +kernel]
theorem w_tell_tell : cmpD .eq (.str "tell") (.str "tell") = some true := by rw [cmpD_eqs (by decide +kernel) (by decide +kernel), show (("tell" : Str) == ("tell" : Str)) = true by decide +kernel]
theorem w_tell_go : cmpD .eq (.str "tell") (.str "go") = some false := by rw [cmpD_eqs (by decide +kernel) (by decide +kernel), show (("tell" : Str) == ("go" : Str)) = false by decide +kernel]
theorem w_tell_ask : cmpD .eq (.str "tell") (.str "ask") = some false := by rw [cmpD_eqs (by decide +kernel) (by decide +kernel), show (("tell" : Str) == ("ask" : Str)) = false by decide +kernel]
theorem w_tell_stop : cmpD .eq (.str "tell") (.str "stop") = some false := by rw [cmpD_eqs (by decide +kernel) (by decide +kernel), show (("tell" : Str) == ("stop" : Str)) = false by decide +kernel]
theorem w_tell_is : cmpD .eq (.str "tell") (.str "is") = some false := by rw [cmpD_eqs (by decide +kernel) (by decide +kernel), show (("tell" : Str) == ("is" : Str)) = false by decide +kernel]
theorem w_tell_by : cmpD .eq (.str "tell") (.str "by") = some false := by rw [cmpD_eqs (by decide +kernel) (by decide +kernel), show (("tell" : Str) == ("by" : Str)) = false by decide +kernel]
theorem w_go_put : cmpD .eq (.str "go") (.str "put") = some false := by rw [cmpD_eqs (by decide +kernel) (by decide +kernel), show (("go" : Str) == ("put" : Str)) = false by decide +kernel]
theorem w_go_more : cmpD .eq (.str "go") (.str "more") = some false := by rw [cmpD_eqs (by decide +kernel) (by decide +kernel), show (("go" : Str) == ("more" : Str)) = false by decide +kernel]
theorem w_go_copy : cmpD .eq (.str "go") (.str "copy") = some false := by rw [cmpD_eqs (by decide +kernel) (by decide +kernel), show (("go" : Str) == ("copy" : Str)) = false by decide +kernel]
theorem w_go_tell : cmpD .eq (.str "go") (.str "tell") = some false := by rw [cmpD_eqs (by decide +kernel) (by decide +kernel), show (("go" : Str) == ("tell" : Str)) = false by decide +kernel]
theorem w_go_go : cmpD .eq (.str "go") (.str "go") = some true := by rw [cmpD_eqs (by decide +kernel) (by decide +kernel), show (("go" : Str) == ("go" : Str)) = true by decide +kernel]
theorem w_go_ask : cmpD .eq (.str "go") (.str "ask") = some false := by rw [cmpD_eqs (by decide +kernel) (by decide +kernel), show (("go" : Str) == ("ask" : Str)) = false by decide +kernel]
theorem w_go_stop : cmpD .eq (.str "go") (.str "stop") = some false := by rw [cmpD_eqs (by decide +kernel) (by decide +kernel), show (("go" : Str) == ("stop" : Str)) = false by decide +kernel]
theorem w_go_is : cmpD .eq (.str "go") (.str "is") = some false := by rw [cmpD_eqs (by decide +kernel) (by decide +kernel), show (("go" : Str) == ("is" : Str)) = false by decide +kernel]
theorem w_go_by : cmpD .eq (.str "go") (.str "by") = some false := by rw [cmpD_eqs (by decide +kernel) (by decide +kernel), show (("go" : Str) == ("by" : Str)) = false by decide +kernel]
theorem w_ask_put : cmpD .eq (.str "ask") (.str "put") = some false := by rw [cmpD_eqs (by decide +kernel) (by decide +kernel), show (("ask" : Str) == ("put" : Str)) = false by decide +kernel]
theorem w_ask_more : cmpD .eq (.str "ask") (.str "more") = some false := by rw [cmpD_eqs (by decide +kernel) (by decide +kernel), show (("ask" : Str) == ("more" : Str)) = false by decide +kernel]
theorem w_ask_copy : cmpD .eq (.str "ask") (.str "copy") = some false := by rw [cmpD_eqs (by decide +kernel) (by decide +kernel), show (("ask" : Str) == ("copy" : Str)) = false by decide +kernel]
theorem w_ask_tell : cmpD .eq (.str "ask") (.str "tell") = some false := by rw [cmpD_eqs (by decide +kernel) (by decide +kernel), show (("ask" : Str) == ("tell" : Str)) = false by decide +kernel]
theorem w_ask_go : cmpD .eq (.str "ask") (.str "go") = some false := by rw [cmpD_eqs (by decide +kernel) (by decide +kernel), show (("ask" : Str) == ("go" : Str)) = false by decide +kernel]
theorem w_ask_ask : cmpD .eq (.str "ask") (.str "ask") = some true := by rw [cmpD_eqs (by decide +kernel) (by decide +kernel), show (("ask" : Str) == ("ask" : Str)) = true by decide +kernel]
theorem w_ask_stop : cmpD .eq (.str "ask") (.str "stop") = some false := by rw [cmpD_eqs (by decide +kernel) (by decide +kernel), show (("ask" : Str) == ("stop" : Str)) = false by decide +kernel]
theorem w_ask_is : cmpD .eq (.str "ask") (.str "is") = some false := by rw [cmpD_eqs (by decide +kernel) (by decide +kernel), show (("ask" : Str) == ("is" : Str)) = false by decide +kernel]
theorem w_ask_by : cmpD .eq (.str "ask") (.str "by") = some false := by rw [cmpD_eqs (by decide +kernel) (by decide +kernel), show (("ask" : Str) == ("by" : Str)) = false by decide +kernel]
theorem w_stop_put : cmpD .eq (.str "stop") (.str "put") = some false := by rw [cmpD_eqs (by decide +kernel) (by decide +kernel), show (("stop" : Str) == ("put" : Str)) = false by decide +kernel]
theorem w_stop_more : cmpD .eq (.str "stop") (.str "more") = some false := by rw [cmpD_eqs (by decide +kernel) (by decide +kernel), show (("stop" : Str) == ("more" : Str)) = false by decide +kernel]
theorem w_stop_copy : cmpD .eq (.str "stop") (.str "copy") = some false := by rw [cmpD_eqs (by decide +kernel) (by decide +kernel), show (("stop" : Str) == ("copy" : Str)) = false by decide +kernel]
theorem w_stop_tell : cmpD .eq (.str "stop") (.str "tell") = some false := by rw [cmpD_eqs (by decide +kernel) (by decide +kernel), show (("stop" : Str) == ("tell" : Str)) = false by decide +kernel]
theorem w_stop_go : cmpD .eq (.str "stop") (.str "go") = some false := by rw [cmpD_eqs (by decide +kernel) (by decide +kernel), show (("stop" : Str) == ("go" : Str)) = false by decide +kernel]
theorem w_stop_ask : cmpD .eq (.str "stop") (.str "ask") = some false := by rw [cmpD_eqs (by decide +kernel) (by decide +kernel), show (("stop" : Str) == ("ask" : Str)) = false by decide +kernel]
theorem w_stop_stop : cmpD .eq (.str "stop") (.str "stop") = some true := by rw [cmpD_eqs (by decide +kernel) (by decide +kernel), show (("stop" : Str) == ("stop" : Str)) = true by decide +kernel]
theorem w_stop_is : cmpD .eq (.str "stop") (.str "is") = some false := by rw [cmpD_eqs (by decide +kernel) (by decide +kernel), show (("stop" : Str) == ("is" : Str)) = false by decide +kernel]
theorem w_stop_by : cmpD .eq (.str "stop") (.str "by") = some false := by rw [cmpD_eqs (by decide +kernel) (by decide +kernel), show (("stop" : Str) == ("by" : Str)) = false by decide +kernel]
theorem w_is_put : cmpD .eq (.str "is") (.str "put") = some false := by rw [cmpD_eqs (by decide +kernel) (by decide +kernel), show (("is" : Str) == ("put" : Str)) = false by decide +kernel]
theorem w_is_more : cmpD .eq (.str "is") (.str "more") = some false := by rw [cmpD_eqs (by decide +kernel) (by decide +kernel), show (("is" : Str) == ("more" : Str)) = false by decide +kernel]
theorem w_is_copy : cmpD .eq (.str "is") (.str "copy") = some false := by rw [cmpD_eqs (by decide +kernel) (by decide +kernel), show (("is" : Str) == ("copy" : Str)) = false by decide +kernel]
theorem w_is_tell : cmpD .eq (.str "is") (.str "tell") = some false := by rw [cmpD_eqs (by decide +kernel) (by decide +kernel), show (("is" : Str) == ("tell" : Str)) = false by decide +kernel]
theorem w_is_go : cmpD .eq (.str "is") (.str "go") = some false := by rw [cmpD_eqs (by decide +kernel) (by decide +kernel), show (("is" : Str) == ("go" : Str)) = false by decide +kernel]
theorem w_is_ask : cmpD .eq (.str "is") (.str "ask") = some false := by rw [cmpD_eqs (by decide +kernel) (by decide +kernel), show (("is" : Str) == ("ask" : Str)) = false by decide +kernel]
theorem w_is_stop : cmpD .eq (.str "is") (.str "stop") = some false := by rw [cmpD_eqs (by decide +kernel) (by decide +kernel), show (("is" : Str) == ("stop" : Str)) = false by decide +kernel]
theorem w_is_is : cmpD .eq (.str "is") (.str "is") = some true := by rw [cmpD_eqs (by decide +kernel) (by decide +kernel), show (("is" : Str) == ("is" : Str)) = true by decide +kernel]
theorem w_is_by : cmpD .eq (.str "is") (.str "by") = some false := by rw [cmpD_eqs (by decide +kernel) (by decide +kernel), show (("is" : Str) == ("by" : Str)) = false by decide +kernel]
theorem w_by_put : cmpD .eq (.str "by") (.str "put") = some false := by rw [cmpD_eqs (by decide +kernel) (by decide +kernel), show (("by" : Str) == ("put" : Str)) = false by decide +kernel]
theorem w_by_more : cmpD .eq (.str "by") (.str "more") = some false := by rw [cmpD_eqs (by decide +kernel) (by decide +kernel), show (("by" : Str) == ("more" : Str)) = false by decide +kernel]
theorem w_by_copy : cmpD .eq (.str "by") (.str "copy") = some false := by rw [cmpD_eqs (by decide +kernel) (by decide +kernel), show (("by" : Str) == ("copy" : Str)) = false by decide +kernel]
theorem w_by_tell : cmpD .eq (.str "by") (.str "tell") = some false := by rw [cmpD_eqs (by decide +kernel) (by decide +kernel), show (("by" : Str) == ("tell" : Str)) = false by decide +kernel]
theorem w_by_go : cmpD .eq (.str "by") (.str "go") = some false := by rw [cmpD_eqs (by decide +kernel) (by decide +kernel), show (("by" : Str) == ("go" : Str)) = false by decide +kernel]
theorem w_by_ask : cmpD .eq (.str "by") (.str "ask") = some false := by rw [cmpD_eqs (by decide +kernel) (by decide +kernel), show (("by" : Str) == ("ask" : Str)) = false by decide +kernel]
theorem w_by_stop : cmpD .eq (.str "by") (.str "stop") = some false := by rw [cmpD_eqs (by decide +kernel) (by decide +kernel), show (("by" : Str) == ("stop" : Str)) = false by decide +kernel]
theorem w_by_is : cmpD .eq (.str "by") (.str "is") = some false := by rw [cmpD_eqs (by decide +kernel) (by decide +kernel), show (("by" : Str) == ("is" : Str)) = false by decide +kernel]
theorem w_by_by : cmpD .eq (.str "by") (.str "by") = some true := by rw [cmpD_eqs (by decide +kernel) (by decide +kernel), show (("by" : Str) == ("by" : Str)) = true by decide +kernel]
end Law
namespace Law
open PySem Dv
def iD (ns : List Nat) : List D := ns.map fun (n : Nat) => PyData.int (n : Int)
theorem numsD_i (ns : List Nat) : numsD ns = .tuple (iD ns) := rfl
theorem iD_len (ns : List Nat) : (iD ns).length = ns.length := List.length_map ..
theorem iD_at {ns : List Nat} {b : Nat} (h : b < ns.length) : L2.atI (iD ns) (b : Int) = some (.int ((ns.getD b 0 : Nat) : Int)) := by
  refine atN ?_
  unfold iD
  rw [List.getElem?_map, List.getElem?_eq_getElem h, List.getD_eq_getElem?_getD, List.getElem?_eq_getElem h]
  rfl
theorem iD_set {ns : List Nat} {b v : Nat} (h : b < ns.length) : (iD ns).take b ++ [PyData.int (v : Int)] ++ (iD ns).drop (b + 1) = iD (ns.set b v) := by
  unfold iD
  rw [List.set_eq_take_append_cons_drop, if_pos h, List.map_append, List.map_cons, List.map_take, List.map_drop, List.append_assoc]
  rfl
theorem with_number_ok {fu n : Nat} {ns : List Nat} {b v : Nat} (h : b < ns.length) (hl : ns.length ≤ 3) : run tab fu (n + 1) "with_number" [numsD ns, .int b, .int v] = some (.ok .shr (numsD (ns.set b v))) := by
  rw [run_with_number]
  refine runD_rt rfl ?_
  unfold d_with_number
  rw [show Dv.start _ _ = [some (false, numsD ns), some (false, .int b), some (false, .int v)] from rfl]
  have c1 : cutD (iD ns) none (some (b : Int)) = (iD ns).take b := cut_take (by rw [iD_len]; omega)
  have c2 : cutD (iD ns) (some ((b : Int) + 1)) none = (iD ns).drop (b + 1) := cut_drop (k := b + 1) (by rw [iD_len]; omega)
  have l1 : min b ns.length + 1 ≤ 100000 := by omega
  have l2 : min b ns.length + 1 + (ns.length - (b + 1)) ≤ 100000 := by omega
  refine (seq_rt (d := numsD (ns.set b v)) ?_).trans rfl
  simp only [runD, Dv.start, evSs_nil, evSs_cons, evS, evE, evL, evB, evAnd, evOr, evO, onOwn, guardO, setAll, thenS_nx, thenS_rt, thenS_ex, onV_ok, onV_ex, onB_ok, onB_ex, bindV_ok, bindV_ex, boolV_ok, bindA_ok, consA_ok, optI_none, optI_some, outcome_nx, outcome_shr, outcome_frs, outcome_ex, setV_shr, setV_frs, binD_add, binD_addT, binD_addL, binD_sub, binD_mulr, binD_mull, binD_fdiv', binD_mod', cmpD_lt, cmpD_le, cmpD_gt, cmpD_ge, cmpD_eqi, cmpD_nei, cmpD_is, cmpD_isn, cmpD_memL, cmpD_nmemL, cmpD_memT, cmpD_nmemT, isN_none, isN_int, isN_tup, isN_lst, isN_bool, isN_str, flat_int, flat_str, flat_none, flat_bool, fnD_lenL, fnD_lenT, fnD_lenS, fnD_intB, fnD_str, fnD_tupL, fnD_tupT, fnD_lstL, fnD_lstT, fnD_all, idxD_L, idxD_T, idxD_S, slcD_L, slcD_T, itemsD_L, itemsD_T, asD_shr, asD_frs, asB_ok, okCall_t, noBrw_nil, noBrw_shr, noBrw_frs, tests_nil, tests_one, at0, at1, at2, lim_eq, List.set_cons_zero, List.set_cons_succ, List.getElem?_cons_zero, List.getElem?_cons_succ, List.length_cons, List.length_nil, List.map_cons, List.map_nil, Option.map_some, Option.map_none, if_true, if_false, ite_true, ite_false, reduceIte, reduceCtorEq, decide_true, decide_false, Nat.reduceAdd, Nat.reduceSub, Nat.reduceEqDiff, Int.reduceNeg, Int.reduceLT, Int.reduceLE, Bool.not_true, Bool.not_false, Nat.reduceLeDiff, and_self, true_and, and_true, numsD_i, c1, c2, iD_len, List.length_take, List.length_append, List.length_drop, l1, l2, iD_set h, Nat.zero_le, Nat.reduceLeDiff]
theorem row_at {p : Prog} {i : Nat} (h : i < p.rows.length) : L2.atI (p.rows.map Row.d) (i : Int) = some (p.rows.getD i .stop).d := by
  refine atN ?_
  rw [List.getElem?_map, List.getElem?_eq_getElem h, List.getD_eq_getElem?_getD, List.getElem?_eq_getElem h]
  rfl
theorem row_mem {p : Prog} {i : Nat} (h : i < p.rows.length) : p.rows.getD i .stop ∈ p.rows := by
  rw [List.getD_eq_getElem?_getD, List.getElem?_eq_getElem h]
  exact List.getElem_mem h
theorem next_is {fu n : Nat} {p : Prog} (hp : p.Ok) {s : Nat × List Nat} (hs : StateOk p s) : run tab fu (n + 2) "next_state" [p.d, stD s] = some (.ok .shr (optS (stepV p s).1)) := by
  obtain ⟨i, ns⟩ := s
  obtain ⟨hi, hn, hm⟩ := hs
  have hi' : i < p.rows.length := hi
  have hn' : ns.length = p.boxes := hn
  have hb3 := hp.boxes
  have hr := hp.row _ (row_mem hi')
  have ea := row_at hi'
  rw [run_next_state]
  refine runD_rt rfl ?_
  unfold d_next_state stepV
  rw [show Dv.start _ _ = [some (false, p.d), some (false, stD (i, ns)), none, none, none] from rfl]
  show evSs _ _ _ _ = some (.rt .shr (optS (stepR p (i, ns) (p.rows.getD i .stop)).1))
  generalize p.rows.getD i .stop = r at hr ea
  have wn : ∀ {b v : Nat}, b < ns.length → run tab fu (n + 1) "with_number" [.tuple (iD ns), .int b, .int v] = some (.ok .shr (.tuple (iD (ns.set b v)))) := fun {b v} hb => with_number_ok (fu := fu) (n := n) hb (by omega)
  refine (seq (st' := [some (false, p.d), some (false, stD (i, ns)), some (false, .int i), some (false, .tuple (iD ns)), none]) (by simp only [runD, Dv.start, evSs_nil, evSs_cons, evS, evE, evL, evB, evAnd, evOr, evO, onOwn, guardO, setAll, thenS_nx, thenS_rt, thenS_ex, onV_ok, onV_ex, onB_ok, onB_ex, bindV_ok, bindV_ex, boolV_ok, bindA_ok, consA_ok, optI_none, optI_some, outcome_nx, outcome_shr, outcome_frs, outcome_ex, setV_shr, setV_frs, binD_add, binD_addT, binD_addL, binD_sub, binD_mulr, binD_mull, binD_fdiv', binD_mod', cmpD_lt, cmpD_le, cmpD_gt, cmpD_ge, cmpD_eqi, cmpD_nei, cmpD_is, cmpD_isn, cmpD_memL, cmpD_nmemL, cmpD_memT, cmpD_nmemT, isN_none, isN_int, isN_tup, isN_lst, isN_bool, isN_str, flat_int, flat_str, flat_none, flat_bool, fnD_lenL, fnD_lenT, fnD_lenS, fnD_intB, fnD_str, fnD_tupL, fnD_tupT, fnD_lstL, fnD_lstT, fnD_all, idxD_L, idxD_T, idxD_S, slcD_L, slcD_T, itemsD_L, itemsD_T, asD_shr, asD_frs, asB_ok, okCall_t, noBrw_nil, noBrw_shr, noBrw_frs, tests_nil, tests_one, at0, at1, at2, lim_eq, List.set_cons_zero, List.set_cons_succ, List.getElem?_cons_zero, List.getElem?_cons_succ, List.length_cons, List.length_nil, List.map_cons, List.map_nil, Option.map_some, Option.map_none, if_true, if_false, ite_true, ite_false, reduceIte, reduceCtorEq, decide_true, decide_false, Nat.reduceAdd, Nat.reduceSub, Nat.reduceEqDiff, Int.reduceNeg, Int.reduceLT, Int.reduceLE, Bool.not_true, Bool.not_false, Nat.reduceLeDiff, and_self, true_and, and_true, stD, numsD_i])).trans ?_
  refine (seq (st' := [some (false, p.d), some (false, stD (i, ns)), some (false, .int i), some (false, .tuple (iD ns)), some (false, r.d)]) (by simp only [runD, Dv.start, evSs_nil, evSs_cons, evS, evE, evL, evB, evAnd, evOr, evO, onOwn, guardO, setAll, thenS_nx, thenS_rt, thenS_ex, onV_ok, onV_ex, onB_ok, onB_ex, bindV_ok, bindV_ex, boolV_ok, bindA_ok, consA_ok, optI_none, optI_some, outcome_nx, outcome_shr, outcome_frs, outcome_ex, setV_shr, setV_frs, binD_add, binD_addT, binD_addL, binD_sub, binD_mulr, binD_mull, binD_fdiv', binD_mod', cmpD_lt, cmpD_le, cmpD_gt, cmpD_ge, cmpD_eqi, cmpD_nei, cmpD_is, cmpD_isn, cmpD_memL, cmpD_nmemL, cmpD_memT, cmpD_nmemT, isN_none, isN_int, isN_tup, isN_lst, isN_bool, isN_str, flat_int, flat_str, flat_none, flat_bool, fnD_lenL, fnD_lenT, fnD_lenS, fnD_intB, fnD_str, fnD_tupL, fnD_tupT, fnD_lstL, fnD_lstT, fnD_all, idxD_L, idxD_T, idxD_S, slcD_L, slcD_T, itemsD_L, itemsD_T, asD_shr, asD_frs, asB_ok, okCall_t, noBrw_nil, noBrw_shr, noBrw_frs, tests_nil, tests_one, at0, at1, at2, lim_eq, List.set_cons_zero, List.set_cons_succ, List.getElem?_cons_zero, List.getElem?_cons_succ, List.length_cons, List.length_nil, List.map_cons, List.map_nil, Option.map_some, Option.map_none, if_true, if_false, ite_true, ite_false, reduceIte, reduceCtorEq, decide_true, decide_false, Nat.reduceAdd, Nat.reduceSub, Nat.reduceEqDiff, Int.reduceNeg, Int.reduceLT, Int.reduceLE, Bool.not_true, Bool.not_false, Nat.reduceLeDiff, and_self, true_and, and_true, Prog.d, ea])).trans ?_
  cases r with
  | stop => exact (seq_rt (by simp only [runD, Dv.start, evSs_nil, evSs_cons, evS, evE, evL, evB, evAnd, evOr, evO, onOwn, guardO, setAll, thenS_nx, thenS_rt, thenS_ex, onV_ok, onV_ex, onB_ok, onB_ex, bindV_ok, bindV_ex, boolV_ok, bindA_ok, consA_ok, optI_none, optI_some, outcome_nx, outcome_shr, outcome_frs, outcome_ex, setV_shr, setV_frs, binD_add, binD_addT, binD_addL, binD_sub, binD_mulr, binD_mull, binD_fdiv', binD_mod', cmpD_lt, cmpD_le, cmpD_gt, cmpD_ge, cmpD_eqi, cmpD_nei, cmpD_is, cmpD_isn, cmpD_memL, cmpD_nmemL, cmpD_memT, cmpD_nmemT, isN_none, isN_int, isN_tup, isN_lst, isN_bool, isN_str, flat_int, flat_str, flat_none, flat_bool, fnD_lenL, fnD_lenT, fnD_lenS, fnD_intB, fnD_str, fnD_tupL, fnD_tupT, fnD_lstL, fnD_lstT, fnD_all, idxD_L, idxD_T, idxD_S, slcD_L, slcD_T, itemsD_L, itemsD_T, asD_shr, asD_frs, asB_ok, okCall_t, noBrw_nil, noBrw_shr, noBrw_frs, tests_nil, tests_one, at0, at1, at2, lim_eq, List.set_cons_zero, List.set_cons_succ, List.getElem?_cons_zero, List.getElem?_cons_succ, List.length_cons, List.length_nil, List.map_cons, List.map_nil, Option.map_some, Option.map_none, if_true, if_false, ite_true, ite_false, reduceIte, reduceCtorEq, decide_true, decide_false, Nat.reduceAdd, Nat.reduceSub, Nat.reduceEqDiff, Int.reduceNeg, Int.reduceLT, Int.reduceLE, Bool.not_true, Bool.not_false, Nat.reduceLeDiff, and_self, true_and, and_true, Row.d, w_put_put, w_put_more, w_put_copy, w_put_tell, w_put_go, w_put_ask, w_put_stop, w_put_is, w_put_by, w_more_put, w_more_more, w_more_copy, w_more_tell, w_more_go, w_more_ask, w_more_stop, w_more_is, w_more_by, w_copy_put, w_copy_more, w_copy_copy, w_copy_tell, w_copy_go, w_copy_ask, w_copy_stop, w_copy_is, w_copy_by, w_tell_put, w_tell_more, w_tell_copy, w_tell_tell, w_tell_go, w_tell_ask, w_tell_stop, w_tell_is, w_tell_by, w_go_put, w_go_more, w_go_copy, w_go_tell, w_go_go, w_go_ask, w_go_stop, w_go_is, w_go_by, w_ask_put, w_ask_more, w_ask_copy, w_ask_tell, w_ask_go, w_ask_ask, w_ask_stop, w_ask_is, w_ask_by, w_stop_put, w_stop_more, w_stop_copy, w_stop_tell, w_stop_go, w_stop_ask, w_stop_stop, w_stop_is, w_stop_by, w_is_put, w_is_more, w_is_copy, w_is_tell, w_is_go, w_is_ask, w_is_stop, w_is_is, w_is_by, w_by_put, w_by_more, w_by_copy, w_by_tell, w_by_go, w_by_ask, w_by_stop, w_by_is, w_by_by]; rfl)).trans rfl
  | go x =>
    refine (seq (st' := [some (false, p.d), some (false, stD (i, ns)), some (false, .int i), some (false, .tuple (iD ns)), some (false, (Row.go x).d)]) (by simp only [runD, Dv.start, evSs_nil, evSs_cons, evS, evE, evL, evB, evAnd, evOr, evO, onOwn, guardO, setAll, thenS_nx, thenS_rt, thenS_ex, onV_ok, onV_ex, onB_ok, onB_ex, bindV_ok, bindV_ex, boolV_ok, bindA_ok, consA_ok, optI_none, optI_some, outcome_nx, outcome_shr, outcome_frs, outcome_ex, setV_shr, setV_frs, binD_add, binD_addT, binD_addL, binD_sub, binD_mulr, binD_mull, binD_fdiv', binD_mod', cmpD_lt, cmpD_le, cmpD_gt, cmpD_ge, cmpD_eqi, cmpD_nei, cmpD_is, cmpD_isn, cmpD_memL, cmpD_nmemL, cmpD_memT, cmpD_nmemT, isN_none, isN_int, isN_tup, isN_lst, isN_bool, isN_str, flat_int, flat_str, flat_none, flat_bool, fnD_lenL, fnD_lenT, fnD_lenS, fnD_intB, fnD_str, fnD_tupL, fnD_tupT, fnD_lstL, fnD_lstT, fnD_all, idxD_L, idxD_T, idxD_S, slcD_L, slcD_T, itemsD_L, itemsD_T, asD_shr, asD_frs, asB_ok, okCall_t, noBrw_nil, noBrw_shr, noBrw_frs, tests_nil, tests_one, at0, at1, at2, lim_eq, List.set_cons_zero, List.set_cons_succ, List.getElem?_cons_zero, List.getElem?_cons_succ, List.length_cons, List.length_nil, List.map_cons, List.map_nil, Option.map_some, Option.map_none, if_true, if_false, ite_true, ite_false, reduceIte, reduceCtorEq, decide_true, decide_false, Nat.reduceAdd, Nat.reduceSub, Nat.reduceEqDiff, Int.reduceNeg, Int.reduceLT, Int.reduceLE, Bool.not_true, Bool.not_false, Nat.reduceLeDiff, and_self, true_and, and_true, Row.d, w_put_put, w_put_more, w_put_copy, w_put_tell, w_put_go, w_put_ask, w_put_stop, w_put_is, w_put_by, w_more_put, w_more_more, w_more_copy, w_more_tell, w_more_go, w_more_ask, w_more_stop, w_more_is, w_more_by, w_copy_put, w_copy_more, w_copy_copy, w_copy_tell, w_copy_go, w_copy_ask, w_copy_stop, w_copy_is, w_copy_by, w_tell_put, w_tell_more, w_tell_copy, w_tell_tell, w_tell_go, w_tell_ask, w_tell_stop, w_tell_is, w_tell_by, w_go_put, w_go_more, w_go_copy, w_go_tell, w_go_go, w_go_ask, w_go_stop, w_go_is, w_go_by, w_ask_put, w_ask_more, w_ask_copy, w_ask_tell, w_ask_go, w_ask_ask, w_ask_stop, w_ask_is, w_ask_by, w_stop_put, w_stop_more, w_stop_copy, w_stop_tell, w_stop_go, w_stop_ask, w_stop_stop, w_stop_is, w_stop_by, w_is_put, w_is_more, w_is_copy, w_is_tell, w_is_go, w_is_ask, w_is_stop, w_is_is, w_is_by, w_by_put, w_by_more, w_by_copy, w_by_tell, w_by_go, w_by_ask, w_by_stop, w_by_is, w_by_by, Bool.false_eq_true])).trans ?_
    exact (seq_rt (by simp only [runD, Dv.start, evSs_nil, evSs_cons, evS, evE, evL, evB, evAnd, evOr, evO, onOwn, guardO, setAll, thenS_nx, thenS_rt, thenS_ex, onV_ok, onV_ex, onB_ok, onB_ex, bindV_ok, bindV_ex, boolV_ok, bindA_ok, consA_ok, optI_none, optI_some, outcome_nx, outcome_shr, outcome_frs, outcome_ex, setV_shr, setV_frs, binD_add, binD_addT, binD_addL, binD_sub, binD_mulr, binD_mull, binD_fdiv', binD_mod', cmpD_lt, cmpD_le, cmpD_gt, cmpD_ge, cmpD_eqi, cmpD_nei, cmpD_is, cmpD_isn, cmpD_memL, cmpD_nmemL, cmpD_memT, cmpD_nmemT, isN_none, isN_int, isN_tup, isN_lst, isN_bool, isN_str, flat_int, flat_str, flat_none, flat_bool, fnD_lenL, fnD_lenT, fnD_lenS, fnD_intB, fnD_str, fnD_tupL, fnD_tupT, fnD_lstL, fnD_lstT, fnD_all, idxD_L, idxD_T, idxD_S, slcD_L, slcD_T, itemsD_L, itemsD_T, asD_shr, asD_frs, asB_ok, okCall_t, noBrw_nil, noBrw_shr, noBrw_frs, tests_nil, tests_one, at0, at1, at2, lim_eq, List.set_cons_zero, List.set_cons_succ, List.getElem?_cons_zero, List.getElem?_cons_succ, List.length_cons, List.length_nil, List.map_cons, List.map_nil, Option.map_some, Option.map_none, if_true, if_false, ite_true, ite_false, reduceIte, reduceCtorEq, decide_true, decide_false, Nat.reduceAdd, Nat.reduceSub, Nat.reduceEqDiff, Int.reduceNeg, Int.reduceLT, Int.reduceLE, Bool.not_true, Bool.not_false, Nat.reduceLeDiff, and_self, true_and, and_true, Row.d, w_put_put, w_put_more, w_put_copy, w_put_tell, w_put_go, w_put_ask, w_put_stop, w_put_is, w_put_by, w_more_put, w_more_more, w_more_copy, w_more_tell, w_more_go, w_more_ask, w_more_stop, w_more_is, w_more_by, w_copy_put, w_copy_more, w_copy_copy, w_copy_tell, w_copy_go, w_copy_ask, w_copy_stop, w_copy_is, w_copy_by, w_tell_put, w_tell_more, w_tell_copy, w_tell_tell, w_tell_go, w_tell_ask, w_tell_stop, w_tell_is, w_tell_by, w_go_put, w_go_more, w_go_copy, w_go_tell, w_go_go, w_go_ask, w_go_stop, w_go_is, w_go_by, w_ask_put, w_ask_more, w_ask_copy, w_ask_tell, w_ask_go, w_ask_ask, w_ask_stop, w_ask_is, w_ask_by, w_stop_put, w_stop_more, w_stop_copy, w_stop_tell, w_stop_go, w_stop_ask, w_stop_stop, w_stop_is, w_stop_by, w_is_put, w_is_more, w_is_copy, w_is_tell, w_is_go, w_is_ask, w_is_stop, w_is_is, w_is_by, w_by_put, w_by_more, w_by_copy, w_by_tell, w_by_go, w_by_ask, w_by_stop, w_by_is, w_by_by, Nat.reduceLeDiff]; rfl)).trans rfl
  | ask b x =>
    have hb : b < ns.length := by rw [hn']; exact hr.1
    have eb := iD_at hb
    refine (seq (st' := [some (false, p.d), some (false, stD (i, ns)), some (false, .int i), some (false, .tuple (iD ns)), some (false, (Row.ask b x).d)]) (by simp only [runD, Dv.start, evSs_nil, evSs_cons, evS, evE, evL, evB, evAnd, evOr, evO, onOwn, guardO, setAll, thenS_nx, thenS_rt, thenS_ex, onV_ok, onV_ex, onB_ok, onB_ex, bindV_ok, bindV_ex, boolV_ok, bindA_ok, consA_ok, optI_none, optI_some, outcome_nx, outcome_shr, outcome_frs, outcome_ex, setV_shr, setV_frs, binD_add, binD_addT, binD_addL, binD_sub, binD_mulr, binD_mull, binD_fdiv', binD_mod', cmpD_lt, cmpD_le, cmpD_gt, cmpD_ge, cmpD_eqi, cmpD_nei, cmpD_is, cmpD_isn, cmpD_memL, cmpD_nmemL, cmpD_memT, cmpD_nmemT, isN_none, isN_int, isN_tup, isN_lst, isN_bool, isN_str, flat_int, flat_str, flat_none, flat_bool, fnD_lenL, fnD_lenT, fnD_lenS, fnD_intB, fnD_str, fnD_tupL, fnD_tupT, fnD_lstL, fnD_lstT, fnD_all, idxD_L, idxD_T, idxD_S, slcD_L, slcD_T, itemsD_L, itemsD_T, asD_shr, asD_frs, asB_ok, okCall_t, noBrw_nil, noBrw_shr, noBrw_frs, tests_nil, tests_one, at0, at1, at2, lim_eq, List.set_cons_zero, List.set_cons_succ, List.getElem?_cons_zero, List.getElem?_cons_succ, List.length_cons, List.length_nil, List.map_cons, List.map_nil, Option.map_some, Option.map_none, if_true, if_false, ite_true, ite_false, reduceIte, reduceCtorEq, decide_true, decide_false, Nat.reduceAdd, Nat.reduceSub, Nat.reduceEqDiff, Int.reduceNeg, Int.reduceLT, Int.reduceLE, Bool.not_true, Bool.not_false, Nat.reduceLeDiff, and_self, true_and, and_true, Row.d, w_put_put, w_put_more, w_put_copy, w_put_tell, w_put_go, w_put_ask, w_put_stop, w_put_is, w_put_by, w_more_put, w_more_more, w_more_copy, w_more_tell, w_more_go, w_more_ask, w_more_stop, w_more_is, w_more_by, w_copy_put, w_copy_more, w_copy_copy, w_copy_tell, w_copy_go, w_copy_ask, w_copy_stop, w_copy_is, w_copy_by, w_tell_put, w_tell_more, w_tell_copy, w_tell_tell, w_tell_go, w_tell_ask, w_tell_stop, w_tell_is, w_tell_by, w_go_put, w_go_more, w_go_copy, w_go_tell, w_go_go, w_go_ask, w_go_stop, w_go_is, w_go_by, w_ask_put, w_ask_more, w_ask_copy, w_ask_tell, w_ask_go, w_ask_ask, w_ask_stop, w_ask_is, w_ask_by, w_stop_put, w_stop_more, w_stop_copy, w_stop_tell, w_stop_go, w_stop_ask, w_stop_stop, w_stop_is, w_stop_by, w_is_put, w_is_more, w_is_copy, w_is_tell, w_is_go, w_is_ask, w_is_stop, w_is_is, w_is_by, w_by_put, w_by_more, w_by_copy, w_by_tell, w_by_go, w_by_ask, w_by_stop, w_by_is, w_by_by, Bool.false_eq_true])).trans ?_
    refine (seq (st' := [some (false, p.d), some (false, stD (i, ns)), some (false, .int i), some (false, .tuple (iD ns)), some (false, (Row.ask b x).d)]) (by simp only [runD, Dv.start, evSs_nil, evSs_cons, evS, evE, evL, evB, evAnd, evOr, evO, onOwn, guardO, setAll, thenS_nx, thenS_rt, thenS_ex, onV_ok, onV_ex, onB_ok, onB_ex, bindV_ok, bindV_ex, boolV_ok, bindA_ok, consA_ok, optI_none, optI_some, outcome_nx, outcome_shr, outcome_frs, outcome_ex, setV_shr, setV_frs, binD_add, binD_addT, binD_addL, binD_sub, binD_mulr, binD_mull, binD_fdiv', binD_mod', cmpD_lt, cmpD_le, cmpD_gt, cmpD_ge, cmpD_eqi, cmpD_nei, cmpD_is, cmpD_isn, cmpD_memL, cmpD_nmemL, cmpD_memT, cmpD_nmemT, isN_none, isN_int, isN_tup, isN_lst, isN_bool, isN_str, flat_int, flat_str, flat_none, flat_bool, fnD_lenL, fnD_lenT, fnD_lenS, fnD_intB, fnD_str, fnD_tupL, fnD_tupT, fnD_lstL, fnD_lstT, fnD_all, idxD_L, idxD_T, idxD_S, slcD_L, slcD_T, itemsD_L, itemsD_T, asD_shr, asD_frs, asB_ok, okCall_t, noBrw_nil, noBrw_shr, noBrw_frs, tests_nil, tests_one, at0, at1, at2, lim_eq, List.set_cons_zero, List.set_cons_succ, List.getElem?_cons_zero, List.getElem?_cons_succ, List.length_cons, List.length_nil, List.map_cons, List.map_nil, Option.map_some, Option.map_none, if_true, if_false, ite_true, ite_false, reduceIte, reduceCtorEq, decide_true, decide_false, Nat.reduceAdd, Nat.reduceSub, Nat.reduceEqDiff, Int.reduceNeg, Int.reduceLT, Int.reduceLE, Bool.not_true, Bool.not_false, Nat.reduceLeDiff, and_self, true_and, and_true, Row.d, w_put_put, w_put_more, w_put_copy, w_put_tell, w_put_go, w_put_ask, w_put_stop, w_put_is, w_put_by, w_more_put, w_more_more, w_more_copy, w_more_tell, w_more_go, w_more_ask, w_more_stop, w_more_is, w_more_by, w_copy_put, w_copy_more, w_copy_copy, w_copy_tell, w_copy_go, w_copy_ask, w_copy_stop, w_copy_is, w_copy_by, w_tell_put, w_tell_more, w_tell_copy, w_tell_tell, w_tell_go, w_tell_ask, w_tell_stop, w_tell_is, w_tell_by, w_go_put, w_go_more, w_go_copy, w_go_tell, w_go_go, w_go_ask, w_go_stop, w_go_is, w_go_by, w_ask_put, w_ask_more, w_ask_copy, w_ask_tell, w_ask_go, w_ask_ask, w_ask_stop, w_ask_is, w_ask_by, w_stop_put, w_stop_more, w_stop_copy, w_stop_tell, w_stop_go, w_stop_ask, w_stop_stop, w_stop_is, w_stop_by, w_is_put, w_is_more, w_is_copy, w_is_tell, w_is_go, w_is_ask, w_is_stop, w_is_is, w_is_by, w_by_put, w_by_more, w_by_copy, w_by_tell, w_by_go, w_by_ask, w_by_stop, w_by_is, w_by_by, Bool.false_eq_true])).trans ?_
    by_cases hz : ns.getD b 0 = 0
    · have hz' : (((ns.getD b 0 : Nat) : Int) == 0) = true := by rw [hz]; rfl
      refine (seq_rt (d := stD (x, ns)) (by simp only [runD, Dv.start, evSs_nil, evSs_cons, evS, evE, evL, evB, evAnd, evOr, evO, onOwn, guardO, setAll, thenS_nx, thenS_rt, thenS_ex, onV_ok, onV_ex, onB_ok, onB_ex, bindV_ok, bindV_ex, boolV_ok, bindA_ok, consA_ok, optI_none, optI_some, outcome_nx, outcome_shr, outcome_frs, outcome_ex, setV_shr, setV_frs, binD_add, binD_addT, binD_addL, binD_sub, binD_mulr, binD_mull, binD_fdiv', binD_mod', cmpD_lt, cmpD_le, cmpD_gt, cmpD_ge, cmpD_eqi, cmpD_nei, cmpD_is, cmpD_isn, cmpD_memL, cmpD_nmemL, cmpD_memT, cmpD_nmemT, isN_none, isN_int, isN_tup, isN_lst, isN_bool, isN_str, flat_int, flat_str, flat_none, flat_bool, fnD_lenL, fnD_lenT, fnD_lenS, fnD_intB, fnD_str, fnD_tupL, fnD_tupT, fnD_lstL, fnD_lstT, fnD_all, idxD_L, idxD_T, idxD_S, slcD_L, slcD_T, itemsD_L, itemsD_T, asD_shr, asD_frs, asB_ok, okCall_t, noBrw_nil, noBrw_shr, noBrw_frs, tests_nil, tests_one, at0, at1, at2, lim_eq, List.set_cons_zero, List.set_cons_succ, List.getElem?_cons_zero, List.getElem?_cons_succ, List.length_cons, List.length_nil, List.map_cons, List.map_nil, Option.map_some, Option.map_none, if_true, if_false, ite_true, ite_false, reduceIte, reduceCtorEq, decide_true, decide_false, Nat.reduceAdd, Nat.reduceSub, Nat.reduceEqDiff, Int.reduceNeg, Int.reduceLT, Int.reduceLE, Bool.not_true, Bool.not_false, Nat.reduceLeDiff, and_self, true_and, and_true, Row.d, w_put_put, w_put_more, w_put_copy, w_put_tell, w_put_go, w_put_ask, w_put_stop, w_put_is, w_put_by, w_more_put, w_more_more, w_more_copy, w_more_tell, w_more_go, w_more_ask, w_more_stop, w_more_is, w_more_by, w_copy_put, w_copy_more, w_copy_copy, w_copy_tell, w_copy_go, w_copy_ask, w_copy_stop, w_copy_is, w_copy_by, w_tell_put, w_tell_more, w_tell_copy, w_tell_tell, w_tell_go, w_tell_ask, w_tell_stop, w_tell_is, w_tell_by, w_go_put, w_go_more, w_go_copy, w_go_tell, w_go_go, w_go_ask, w_go_stop, w_go_is, w_go_by, w_ask_put, w_ask_more, w_ask_copy, w_ask_tell, w_ask_go, w_ask_ask, w_ask_stop, w_ask_is, w_ask_by, w_stop_put, w_stop_more, w_stop_copy, w_stop_tell, w_stop_go, w_stop_ask, w_stop_stop, w_stop_is, w_stop_by, w_is_put, w_is_more, w_is_copy, w_is_tell, w_is_go, w_is_ask, w_is_stop, w_is_is, w_is_by, w_by_put, w_by_more, w_by_copy, w_by_tell, w_by_go, w_by_ask, w_by_stop, w_by_is, w_by_by, eb, hz', Nat.reduceLeDiff]; rfl)).trans ?_
      show _ = some (SO.rt .shr (stD (if ns.getD b 0 = 0 then x else i + 1, ns)))
      rw [if_pos hz]
    · have hz' : (((ns.getD b 0 : Nat) : Int) == 0) = false := by rw [beq_eq_false_iff_ne]; omega
      refine (seq_rt (d := stD (i + 1, ns)) (by simp only [runD, Dv.start, evSs_nil, evSs_cons, evS, evE, evL, evB, evAnd, evOr, evO, onOwn, guardO, setAll, thenS_nx, thenS_rt, thenS_ex, onV_ok, onV_ex, onB_ok, onB_ex, bindV_ok, bindV_ex, boolV_ok, bindA_ok, consA_ok, optI_none, optI_some, outcome_nx, outcome_shr, outcome_frs, outcome_ex, setV_shr, setV_frs, binD_add, binD_addT, binD_addL, binD_sub, binD_mulr, binD_mull, binD_fdiv', binD_mod', cmpD_lt, cmpD_le, cmpD_gt, cmpD_ge, cmpD_eqi, cmpD_nei, cmpD_is, cmpD_isn, cmpD_memL, cmpD_nmemL, cmpD_memT, cmpD_nmemT, isN_none, isN_int, isN_tup, isN_lst, isN_bool, isN_str, flat_int, flat_str, flat_none, flat_bool, fnD_lenL, fnD_lenT, fnD_lenS, fnD_intB, fnD_str, fnD_tupL, fnD_tupT, fnD_lstL, fnD_lstT, fnD_all, idxD_L, idxD_T, idxD_S, slcD_L, slcD_T, itemsD_L, itemsD_T, asD_shr, asD_frs, asB_ok, okCall_t, noBrw_nil, noBrw_shr, noBrw_frs, tests_nil, tests_one, at0, at1, at2, lim_eq, List.set_cons_zero, List.set_cons_succ, List.getElem?_cons_zero, List.getElem?_cons_succ, List.length_cons, List.length_nil, List.map_cons, List.map_nil, Option.map_some, Option.map_none, if_true, if_false, ite_true, ite_false, reduceIte, reduceCtorEq, decide_true, decide_false, Nat.reduceAdd, Nat.reduceSub, Nat.reduceEqDiff, Int.reduceNeg, Int.reduceLT, Int.reduceLE, Bool.not_true, Bool.not_false, Nat.reduceLeDiff, and_self, true_and, and_true, Row.d, w_put_put, w_put_more, w_put_copy, w_put_tell, w_put_go, w_put_ask, w_put_stop, w_put_is, w_put_by, w_more_put, w_more_more, w_more_copy, w_more_tell, w_more_go, w_more_ask, w_more_stop, w_more_is, w_more_by, w_copy_put, w_copy_more, w_copy_copy, w_copy_tell, w_copy_go, w_copy_ask, w_copy_stop, w_copy_is, w_copy_by, w_tell_put, w_tell_more, w_tell_copy, w_tell_tell, w_tell_go, w_tell_ask, w_tell_stop, w_tell_is, w_tell_by, w_go_put, w_go_more, w_go_copy, w_go_tell, w_go_go, w_go_ask, w_go_stop, w_go_is, w_go_by, w_ask_put, w_ask_more, w_ask_copy, w_ask_tell, w_ask_go, w_ask_ask, w_ask_stop, w_ask_is, w_ask_by, w_stop_put, w_stop_more, w_stop_copy, w_stop_tell, w_stop_go, w_stop_ask, w_stop_stop, w_stop_is, w_stop_by, w_is_put, w_is_more, w_is_copy, w_is_tell, w_is_go, w_is_ask, w_is_stop, w_is_is, w_is_by, w_by_put, w_by_more, w_by_copy, w_by_tell, w_by_go, w_by_ask, w_by_stop, w_by_is, w_by_by, eb, hz', Nat.reduceLeDiff, Bool.false_eq_true]; rfl)).trans ?_
      show _ = some (SO.rt .shr (stD (if ns.getD b 0 = 0 then x else i + 1, ns)))
      rw [if_neg hz]
  | put b v =>
    have hb : b < ns.length := by rw [hn']; exact hr.1
    have e := wn (v := v) hb
    iterate 3 refine (seq (st' := [some (false, p.d), some (false, stD (i, ns)), some (false, .int i), some (false, .tuple (iD ns)), some (false, (Row.put b v).d)]) (by simp only [runD, Dv.start, evSs_nil, evSs_cons, evS, evE, evL, evB, evAnd, evOr, evO, onOwn, guardO, setAll, thenS_nx, thenS_rt, thenS_ex, onV_ok, onV_ex, onB_ok, onB_ex, bindV_ok, bindV_ex, boolV_ok, bindA_ok, consA_ok, optI_none, optI_some, outcome_nx, outcome_shr, outcome_frs, outcome_ex, setV_shr, setV_frs, binD_add, binD_addT, binD_addL, binD_sub, binD_mulr, binD_mull, binD_fdiv', binD_mod', cmpD_lt, cmpD_le, cmpD_gt, cmpD_ge, cmpD_eqi, cmpD_nei, cmpD_is, cmpD_isn, cmpD_memL, cmpD_nmemL, cmpD_memT, cmpD_nmemT, isN_none, isN_int, isN_tup, isN_lst, isN_bool, isN_str, flat_int, flat_str, flat_none, flat_bool, fnD_lenL, fnD_lenT, fnD_lenS, fnD_intB, fnD_str, fnD_tupL, fnD_tupT, fnD_lstL, fnD_lstT, fnD_all, idxD_L, idxD_T, idxD_S, slcD_L, slcD_T, itemsD_L, itemsD_T, asD_shr, asD_frs, asB_ok, okCall_t, noBrw_nil, noBrw_shr, noBrw_frs, tests_nil, tests_one, at0, at1, at2, lim_eq, List.set_cons_zero, List.set_cons_succ, List.getElem?_cons_zero, List.getElem?_cons_succ, List.length_cons, List.length_nil, List.map_cons, List.map_nil, Option.map_some, Option.map_none, if_true, if_false, ite_true, ite_false, reduceIte, reduceCtorEq, decide_true, decide_false, Nat.reduceAdd, Nat.reduceSub, Nat.reduceEqDiff, Int.reduceNeg, Int.reduceLT, Int.reduceLE, Bool.not_true, Bool.not_false, Nat.reduceLeDiff, and_self, true_and, and_true, Row.d, w_put_put, w_put_more, w_put_copy, w_put_tell, w_put_go, w_put_ask, w_put_stop, w_put_is, w_put_by, w_more_put, w_more_more, w_more_copy, w_more_tell, w_more_go, w_more_ask, w_more_stop, w_more_is, w_more_by, w_copy_put, w_copy_more, w_copy_copy, w_copy_tell, w_copy_go, w_copy_ask, w_copy_stop, w_copy_is, w_copy_by, w_tell_put, w_tell_more, w_tell_copy, w_tell_tell, w_tell_go, w_tell_ask, w_tell_stop, w_tell_is, w_tell_by, w_go_put, w_go_more, w_go_copy, w_go_tell, w_go_go, w_go_ask, w_go_stop, w_go_is, w_go_by, w_ask_put, w_ask_more, w_ask_copy, w_ask_tell, w_ask_go, w_ask_ask, w_ask_stop, w_ask_is, w_ask_by, w_stop_put, w_stop_more, w_stop_copy, w_stop_tell, w_stop_go, w_stop_ask, w_stop_stop, w_stop_is, w_stop_by, w_is_put, w_is_more, w_is_copy, w_is_tell, w_is_go, w_is_ask, w_is_stop, w_is_is, w_is_by, w_by_put, w_by_more, w_by_copy, w_by_tell, w_by_go, w_by_ask, w_by_stop, w_by_is, w_by_by, Bool.false_eq_true])).trans ?_
    exact (seq_rt (by simp only [runD, Dv.start, evSs_nil, evSs_cons, evS, evE, evL, evB, evAnd, evOr, evO, onOwn, guardO, setAll, thenS_nx, thenS_rt, thenS_ex, onV_ok, onV_ex, onB_ok, onB_ex, bindV_ok, bindV_ex, boolV_ok, bindA_ok, consA_ok, optI_none, optI_some, outcome_nx, outcome_shr, outcome_frs, outcome_ex, setV_shr, setV_frs, binD_add, binD_addT, binD_addL, binD_sub, binD_mulr, binD_mull, binD_fdiv', binD_mod', cmpD_lt, cmpD_le, cmpD_gt, cmpD_ge, cmpD_eqi, cmpD_nei, cmpD_is, cmpD_isn, cmpD_memL, cmpD_nmemL, cmpD_memT, cmpD_nmemT, isN_none, isN_int, isN_tup, isN_lst, isN_bool, isN_str, flat_int, flat_str, flat_none, flat_bool, fnD_lenL, fnD_lenT, fnD_lenS, fnD_intB, fnD_str, fnD_tupL, fnD_tupT, fnD_lstL, fnD_lstT, fnD_all, idxD_L, idxD_T, idxD_S, slcD_L, slcD_T, itemsD_L, itemsD_T, asD_shr, asD_frs, asB_ok, okCall_t, noBrw_nil, noBrw_shr, noBrw_frs, tests_nil, tests_one, at0, at1, at2, lim_eq, List.set_cons_zero, List.set_cons_succ, List.getElem?_cons_zero, List.getElem?_cons_succ, List.length_cons, List.length_nil, List.map_cons, List.map_nil, Option.map_some, Option.map_none, if_true, if_false, ite_true, ite_false, reduceIte, reduceCtorEq, decide_true, decide_false, Nat.reduceAdd, Nat.reduceSub, Nat.reduceEqDiff, Int.reduceNeg, Int.reduceLT, Int.reduceLE, Bool.not_true, Bool.not_false, Nat.reduceLeDiff, and_self, true_and, and_true, Row.d, w_put_put, w_put_more, w_put_copy, w_put_tell, w_put_go, w_put_ask, w_put_stop, w_put_is, w_put_by, w_more_put, w_more_more, w_more_copy, w_more_tell, w_more_go, w_more_ask, w_more_stop, w_more_is, w_more_by, w_copy_put, w_copy_more, w_copy_copy, w_copy_tell, w_copy_go, w_copy_ask, w_copy_stop, w_copy_is, w_copy_by, w_tell_put, w_tell_more, w_tell_copy, w_tell_tell, w_tell_go, w_tell_ask, w_tell_stop, w_tell_is, w_tell_by, w_go_put, w_go_more, w_go_copy, w_go_tell, w_go_go, w_go_ask, w_go_stop, w_go_is, w_go_by, w_ask_put, w_ask_more, w_ask_copy, w_ask_tell, w_ask_go, w_ask_ask, w_ask_stop, w_ask_is, w_ask_by, w_stop_put, w_stop_more, w_stop_copy, w_stop_tell, w_stop_go, w_stop_ask, w_stop_stop, w_stop_is, w_stop_by, w_is_put, w_is_more, w_is_copy, w_is_tell, w_is_go, w_is_ask, w_is_stop, w_is_is, w_is_by, w_by_put, w_by_more, w_by_copy, w_by_tell, w_by_go, w_by_ask, w_by_stop, w_by_is, w_by_by, e, Nat.reduceLeDiff]; rfl)).trans rfl
  | more b =>
    have hb : b < ns.length := by rw [hn']; exact hr
    have eb := iD_at hb
    have hmz : (0 : Int) < (p.most : Int) + 1 := by omega
    have ev : (((ns.getD b 0 : Nat) : Int) + 1) % ((p.most : Int) + 1) = (((ns.getD b 0 + 1) % (p.most + 1) : Nat) : Int) := by simp
    have e := wn (v := (ns.getD b 0 + 1) % (p.most + 1)) hb
    iterate 4 refine (seq (st' := [some (false, p.d), some (false, stD (i, ns)), some (false, .int i), some (false, .tuple (iD ns)), some (false, (Row.more b).d)]) (by simp only [runD, Dv.start, evSs_nil, evSs_cons, evS, evE, evL, evB, evAnd, evOr, evO, onOwn, guardO, setAll, thenS_nx, thenS_rt, thenS_ex, onV_ok, onV_ex, onB_ok, onB_ex, bindV_ok, bindV_ex, boolV_ok, bindA_ok, consA_ok, optI_none, optI_some, outcome_nx, outcome_shr, outcome_frs, outcome_ex, setV_shr, setV_frs, binD_add, binD_addT, binD_addL, binD_sub, binD_mulr, binD_mull, binD_fdiv', binD_mod', cmpD_lt, cmpD_le, cmpD_gt, cmpD_ge, cmpD_eqi, cmpD_nei, cmpD_is, cmpD_isn, cmpD_memL, cmpD_nmemL, cmpD_memT, cmpD_nmemT, isN_none, isN_int, isN_tup, isN_lst, isN_bool, isN_str, flat_int, flat_str, flat_none, flat_bool, fnD_lenL, fnD_lenT, fnD_lenS, fnD_intB, fnD_str, fnD_tupL, fnD_tupT, fnD_lstL, fnD_lstT, fnD_all, idxD_L, idxD_T, idxD_S, slcD_L, slcD_T, itemsD_L, itemsD_T, asD_shr, asD_frs, asB_ok, okCall_t, noBrw_nil, noBrw_shr, noBrw_frs, tests_nil, tests_one, at0, at1, at2, lim_eq, List.set_cons_zero, List.set_cons_succ, List.getElem?_cons_zero, List.getElem?_cons_succ, List.length_cons, List.length_nil, List.map_cons, List.map_nil, Option.map_some, Option.map_none, if_true, if_false, ite_true, ite_false, reduceIte, reduceCtorEq, decide_true, decide_false, Nat.reduceAdd, Nat.reduceSub, Nat.reduceEqDiff, Int.reduceNeg, Int.reduceLT, Int.reduceLE, Bool.not_true, Bool.not_false, Nat.reduceLeDiff, and_self, true_and, and_true, Row.d, w_put_put, w_put_more, w_put_copy, w_put_tell, w_put_go, w_put_ask, w_put_stop, w_put_is, w_put_by, w_more_put, w_more_more, w_more_copy, w_more_tell, w_more_go, w_more_ask, w_more_stop, w_more_is, w_more_by, w_copy_put, w_copy_more, w_copy_copy, w_copy_tell, w_copy_go, w_copy_ask, w_copy_stop, w_copy_is, w_copy_by, w_tell_put, w_tell_more, w_tell_copy, w_tell_tell, w_tell_go, w_tell_ask, w_tell_stop, w_tell_is, w_tell_by, w_go_put, w_go_more, w_go_copy, w_go_tell, w_go_go, w_go_ask, w_go_stop, w_go_is, w_go_by, w_ask_put, w_ask_more, w_ask_copy, w_ask_tell, w_ask_go, w_ask_ask, w_ask_stop, w_ask_is, w_ask_by, w_stop_put, w_stop_more, w_stop_copy, w_stop_tell, w_stop_go, w_stop_ask, w_stop_stop, w_stop_is, w_stop_by, w_is_put, w_is_more, w_is_copy, w_is_tell, w_is_go, w_is_ask, w_is_stop, w_is_is, w_is_by, w_by_put, w_by_more, w_by_copy, w_by_tell, w_by_go, w_by_ask, w_by_stop, w_by_is, w_by_by, Bool.false_eq_true])).trans ?_
    exact (seq_rt (by simp only [runD, Dv.start, evSs_nil, evSs_cons, evS, evE, evL, evB, evAnd, evOr, evO, onOwn, guardO, setAll, thenS_nx, thenS_rt, thenS_ex, onV_ok, onV_ex, onB_ok, onB_ex, bindV_ok, bindV_ex, boolV_ok, bindA_ok, consA_ok, optI_none, optI_some, outcome_nx, outcome_shr, outcome_frs, outcome_ex, setV_shr, setV_frs, binD_add, binD_addT, binD_addL, binD_sub, binD_mulr, binD_mull, binD_fdiv', binD_mod', cmpD_lt, cmpD_le, cmpD_gt, cmpD_ge, cmpD_eqi, cmpD_nei, cmpD_is, cmpD_isn, cmpD_memL, cmpD_nmemL, cmpD_memT, cmpD_nmemT, isN_none, isN_int, isN_tup, isN_lst, isN_bool, isN_str, flat_int, flat_str, flat_none, flat_bool, fnD_lenL, fnD_lenT, fnD_lenS, fnD_intB, fnD_str, fnD_tupL, fnD_tupT, fnD_lstL, fnD_lstT, fnD_all, idxD_L, idxD_T, idxD_S, slcD_L, slcD_T, itemsD_L, itemsD_T, asD_shr, asD_frs, asB_ok, okCall_t, noBrw_nil, noBrw_shr, noBrw_frs, tests_nil, tests_one, at0, at1, at2, lim_eq, List.set_cons_zero, List.set_cons_succ, List.getElem?_cons_zero, List.getElem?_cons_succ, List.length_cons, List.length_nil, List.map_cons, List.map_nil, Option.map_some, Option.map_none, if_true, if_false, ite_true, ite_false, reduceIte, reduceCtorEq, decide_true, decide_false, Nat.reduceAdd, Nat.reduceSub, Nat.reduceEqDiff, Int.reduceNeg, Int.reduceLT, Int.reduceLE, Bool.not_true, Bool.not_false, Nat.reduceLeDiff, and_self, true_and, and_true, Row.d, w_put_put, w_put_more, w_put_copy, w_put_tell, w_put_go, w_put_ask, w_put_stop, w_put_is, w_put_by, w_more_put, w_more_more, w_more_copy, w_more_tell, w_more_go, w_more_ask, w_more_stop, w_more_is, w_more_by, w_copy_put, w_copy_more, w_copy_copy, w_copy_tell, w_copy_go, w_copy_ask, w_copy_stop, w_copy_is, w_copy_by, w_tell_put, w_tell_more, w_tell_copy, w_tell_tell, w_tell_go, w_tell_ask, w_tell_stop, w_tell_is, w_tell_by, w_go_put, w_go_more, w_go_copy, w_go_tell, w_go_go, w_go_ask, w_go_stop, w_go_is, w_go_by, w_ask_put, w_ask_more, w_ask_copy, w_ask_tell, w_ask_go, w_ask_ask, w_ask_stop, w_ask_is, w_ask_by, w_stop_put, w_stop_more, w_stop_copy, w_stop_tell, w_stop_go, w_stop_ask, w_stop_stop, w_stop_is, w_stop_by, w_is_put, w_is_more, w_is_copy, w_is_tell, w_is_go, w_is_ask, w_is_stop, w_is_is, w_is_by, w_by_put, w_by_more, w_by_copy, w_by_tell, w_by_go, w_by_ask, w_by_stop, w_by_is, w_by_by, Prog.d, eb, hmz, ev, e, Nat.reduceLeDiff]; rfl)).trans rfl
  | copy b c =>
    have hb : b < ns.length := by rw [hn']; exact hr.1
    have hc : c < ns.length := by rw [hn']; exact hr.2
    have ec := iD_at hc
    have e := wn (v := ns.getD c 0) hb
    iterate 5 refine (seq (st' := [some (false, p.d), some (false, stD (i, ns)), some (false, .int i), some (false, .tuple (iD ns)), some (false, (Row.copy b c).d)]) (by simp only [runD, Dv.start, evSs_nil, evSs_cons, evS, evE, evL, evB, evAnd, evOr, evO, onOwn, guardO, setAll, thenS_nx, thenS_rt, thenS_ex, onV_ok, onV_ex, onB_ok, onB_ex, bindV_ok, bindV_ex, boolV_ok, bindA_ok, consA_ok, optI_none, optI_some, outcome_nx, outcome_shr, outcome_frs, outcome_ex, setV_shr, setV_frs, binD_add, binD_addT, binD_addL, binD_sub, binD_mulr, binD_mull, binD_fdiv', binD_mod', cmpD_lt, cmpD_le, cmpD_gt, cmpD_ge, cmpD_eqi, cmpD_nei, cmpD_is, cmpD_isn, cmpD_memL, cmpD_nmemL, cmpD_memT, cmpD_nmemT, isN_none, isN_int, isN_tup, isN_lst, isN_bool, isN_str, flat_int, flat_str, flat_none, flat_bool, fnD_lenL, fnD_lenT, fnD_lenS, fnD_intB, fnD_str, fnD_tupL, fnD_tupT, fnD_lstL, fnD_lstT, fnD_all, idxD_L, idxD_T, idxD_S, slcD_L, slcD_T, itemsD_L, itemsD_T, asD_shr, asD_frs, asB_ok, okCall_t, noBrw_nil, noBrw_shr, noBrw_frs, tests_nil, tests_one, at0, at1, at2, lim_eq, List.set_cons_zero, List.set_cons_succ, List.getElem?_cons_zero, List.getElem?_cons_succ, List.length_cons, List.length_nil, List.map_cons, List.map_nil, Option.map_some, Option.map_none, if_true, if_false, ite_true, ite_false, reduceIte, reduceCtorEq, decide_true, decide_false, Nat.reduceAdd, Nat.reduceSub, Nat.reduceEqDiff, Int.reduceNeg, Int.reduceLT, Int.reduceLE, Bool.not_true, Bool.not_false, Nat.reduceLeDiff, and_self, true_and, and_true, Row.d, w_put_put, w_put_more, w_put_copy, w_put_tell, w_put_go, w_put_ask, w_put_stop, w_put_is, w_put_by, w_more_put, w_more_more, w_more_copy, w_more_tell, w_more_go, w_more_ask, w_more_stop, w_more_is, w_more_by, w_copy_put, w_copy_more, w_copy_copy, w_copy_tell, w_copy_go, w_copy_ask, w_copy_stop, w_copy_is, w_copy_by, w_tell_put, w_tell_more, w_tell_copy, w_tell_tell, w_tell_go, w_tell_ask, w_tell_stop, w_tell_is, w_tell_by, w_go_put, w_go_more, w_go_copy, w_go_tell, w_go_go, w_go_ask, w_go_stop, w_go_is, w_go_by, w_ask_put, w_ask_more, w_ask_copy, w_ask_tell, w_ask_go, w_ask_ask, w_ask_stop, w_ask_is, w_ask_by, w_stop_put, w_stop_more, w_stop_copy, w_stop_tell, w_stop_go, w_stop_ask, w_stop_stop, w_stop_is, w_stop_by, w_is_put, w_is_more, w_is_copy, w_is_tell, w_is_go, w_is_ask, w_is_stop, w_is_is, w_is_by, w_by_put, w_by_more, w_by_copy, w_by_tell, w_by_go, w_by_ask, w_by_stop, w_by_is, w_by_by, Bool.false_eq_true])).trans ?_
    exact (seq_rt (by simp only [runD, Dv.start, evSs_nil, evSs_cons, evS, evE, evL, evB, evAnd, evOr, evO, onOwn, guardO, setAll, thenS_nx, thenS_rt, thenS_ex, onV_ok, onV_ex, onB_ok, onB_ex, bindV_ok, bindV_ex, boolV_ok, bindA_ok, consA_ok, optI_none, optI_some, outcome_nx, outcome_shr, outcome_frs, outcome_ex, setV_shr, setV_frs, binD_add, binD_addT, binD_addL, binD_sub, binD_mulr, binD_mull, binD_fdiv', binD_mod', cmpD_lt, cmpD_le, cmpD_gt, cmpD_ge, cmpD_eqi, cmpD_nei, cmpD_is, cmpD_isn, cmpD_memL, cmpD_nmemL, cmpD_memT, cmpD_nmemT, isN_none, isN_int, isN_tup, isN_lst, isN_bool, isN_str, flat_int, flat_str, flat_none, flat_bool, fnD_lenL, fnD_lenT, fnD_lenS, fnD_intB, fnD_str, fnD_tupL, fnD_tupT, fnD_lstL, fnD_lstT, fnD_all, idxD_L, idxD_T, idxD_S, slcD_L, slcD_T, itemsD_L, itemsD_T, asD_shr, asD_frs, asB_ok, okCall_t, noBrw_nil, noBrw_shr, noBrw_frs, tests_nil, tests_one, at0, at1, at2, lim_eq, List.set_cons_zero, List.set_cons_succ, List.getElem?_cons_zero, List.getElem?_cons_succ, List.length_cons, List.length_nil, List.map_cons, List.map_nil, Option.map_some, Option.map_none, if_true, if_false, ite_true, ite_false, reduceIte, reduceCtorEq, decide_true, decide_false, Nat.reduceAdd, Nat.reduceSub, Nat.reduceEqDiff, Int.reduceNeg, Int.reduceLT, Int.reduceLE, Bool.not_true, Bool.not_false, Nat.reduceLeDiff, and_self, true_and, and_true, Row.d, w_put_put, w_put_more, w_put_copy, w_put_tell, w_put_go, w_put_ask, w_put_stop, w_put_is, w_put_by, w_more_put, w_more_more, w_more_copy, w_more_tell, w_more_go, w_more_ask, w_more_stop, w_more_is, w_more_by, w_copy_put, w_copy_more, w_copy_copy, w_copy_tell, w_copy_go, w_copy_ask, w_copy_stop, w_copy_is, w_copy_by, w_tell_put, w_tell_more, w_tell_copy, w_tell_tell, w_tell_go, w_tell_ask, w_tell_stop, w_tell_is, w_tell_by, w_go_put, w_go_more, w_go_copy, w_go_tell, w_go_go, w_go_ask, w_go_stop, w_go_is, w_go_by, w_ask_put, w_ask_more, w_ask_copy, w_ask_tell, w_ask_go, w_ask_ask, w_ask_stop, w_ask_is, w_ask_by, w_stop_put, w_stop_more, w_stop_copy, w_stop_tell, w_stop_go, w_stop_ask, w_stop_stop, w_stop_is, w_stop_by, w_is_put, w_is_more, w_is_copy, w_is_tell, w_is_go, w_is_ask, w_is_stop, w_is_is, w_is_by, w_by_put, w_by_more, w_by_copy, w_by_tell, w_by_go, w_by_ask, w_by_stop, w_by_is, w_by_by, ec, e, Nat.reduceLeDiff]; rfl)).trans rfl
  | tell b =>
    iterate 6 refine (seq (st' := [some (false, p.d), some (false, stD (i, ns)), some (false, .int i), some (false, .tuple (iD ns)), some (false, (Row.tell b).d)]) (by simp only [runD, Dv.start, evSs_nil, evSs_cons, evS, evE, evL, evB, evAnd, evOr, evO, onOwn, guardO, setAll, thenS_nx, thenS_rt, thenS_ex, onV_ok, onV_ex, onB_ok, onB_ex, bindV_ok, bindV_ex, boolV_ok, bindA_ok, consA_ok, optI_none, optI_some, outcome_nx, outcome_shr, outcome_frs, outcome_ex, setV_shr, setV_frs, binD_add, binD_addT, binD_addL, binD_sub, binD_mulr, binD_mull, binD_fdiv', binD_mod', cmpD_lt, cmpD_le, cmpD_gt, cmpD_ge, cmpD_eqi, cmpD_nei, cmpD_is, cmpD_isn, cmpD_memL, cmpD_nmemL, cmpD_memT, cmpD_nmemT, isN_none, isN_int, isN_tup, isN_lst, isN_bool, isN_str, flat_int, flat_str, flat_none, flat_bool, fnD_lenL, fnD_lenT, fnD_lenS, fnD_intB, fnD_str, fnD_tupL, fnD_tupT, fnD_lstL, fnD_lstT, fnD_all, idxD_L, idxD_T, idxD_S, slcD_L, slcD_T, itemsD_L, itemsD_T, asD_shr, asD_frs, asB_ok, okCall_t, noBrw_nil, noBrw_shr, noBrw_frs, tests_nil, tests_one, at0, at1, at2, lim_eq, List.set_cons_zero, List.set_cons_succ, List.getElem?_cons_zero, List.getElem?_cons_succ, List.length_cons, List.length_nil, List.map_cons, List.map_nil, Option.map_some, Option.map_none, if_true, if_false, ite_true, ite_false, reduceIte, reduceCtorEq, decide_true, decide_false, Nat.reduceAdd, Nat.reduceSub, Nat.reduceEqDiff, Int.reduceNeg, Int.reduceLT, Int.reduceLE, Bool.not_true, Bool.not_false, Nat.reduceLeDiff, and_self, true_and, and_true, Row.d, w_put_put, w_put_more, w_put_copy, w_put_tell, w_put_go, w_put_ask, w_put_stop, w_put_is, w_put_by, w_more_put, w_more_more, w_more_copy, w_more_tell, w_more_go, w_more_ask, w_more_stop, w_more_is, w_more_by, w_copy_put, w_copy_more, w_copy_copy, w_copy_tell, w_copy_go, w_copy_ask, w_copy_stop, w_copy_is, w_copy_by, w_tell_put, w_tell_more, w_tell_copy, w_tell_tell, w_tell_go, w_tell_ask, w_tell_stop, w_tell_is, w_tell_by, w_go_put, w_go_more, w_go_copy, w_go_tell, w_go_go, w_go_ask, w_go_stop, w_go_is, w_go_by, w_ask_put, w_ask_more, w_ask_copy, w_ask_tell, w_ask_go, w_ask_ask, w_ask_stop, w_ask_is, w_ask_by, w_stop_put, w_stop_more, w_stop_copy, w_stop_tell, w_stop_go, w_stop_ask, w_stop_stop, w_stop_is, w_stop_by, w_is_put, w_is_more, w_is_copy, w_is_tell, w_is_go, w_is_ask, w_is_stop, w_is_is, w_is_by, w_by_put, w_by_more, w_by_copy, w_by_tell, w_by_go, w_by_ask, w_by_stop, w_by_is, w_by_by, Bool.false_eq_true])).trans ?_
    exact (seq_rt (by simp only [runD, Dv.start, evSs_nil, evSs_cons, evS, evE, evL, evB, evAnd, evOr, evO, onOwn, guardO, setAll, thenS_nx, thenS_rt, thenS_ex, onV_ok, onV_ex, onB_ok, onB_ex, bindV_ok, bindV_ex, boolV_ok, bindA_ok, consA_ok, optI_none, optI_some, outcome_nx, outcome_shr, outcome_frs, outcome_ex, setV_shr, setV_frs, binD_add, binD_addT, binD_addL, binD_sub, binD_mulr, binD_mull, binD_fdiv', binD_mod', cmpD_lt, cmpD_le, cmpD_gt, cmpD_ge, cmpD_eqi, cmpD_nei, cmpD_is, cmpD_isn, cmpD_memL, cmpD_nmemL, cmpD_memT, cmpD_nmemT, isN_none, isN_int, isN_tup, isN_lst, isN_bool, isN_str, flat_int, flat_str, flat_none, flat_bool, fnD_lenL, fnD_lenT, fnD_lenS, fnD_intB, fnD_str, fnD_tupL, fnD_tupT, fnD_lstL, fnD_lstT, fnD_all, idxD_L, idxD_T, idxD_S, slcD_L, slcD_T, itemsD_L, itemsD_T, asD_shr, asD_frs, asB_ok, okCall_t, noBrw_nil, noBrw_shr, noBrw_frs, tests_nil, tests_one, at0, at1, at2, lim_eq, List.set_cons_zero, List.set_cons_succ, List.getElem?_cons_zero, List.getElem?_cons_succ, List.length_cons, List.length_nil, List.map_cons, List.map_nil, Option.map_some, Option.map_none, if_true, if_false, ite_true, ite_false, reduceIte, reduceCtorEq, decide_true, decide_false, Nat.reduceAdd, Nat.reduceSub, Nat.reduceEqDiff, Int.reduceNeg, Int.reduceLT, Int.reduceLE, Bool.not_true, Bool.not_false, Nat.reduceLeDiff, and_self, true_and, and_true, Nat.reduceLeDiff]; rfl)).trans rfl
end Law
namespace Law
open PySem Dv
def pairD (x : Option (Nat × List Nat) × Option Nat) : D := .tuple [optS x.1, cellD x.2]
theorem step_is {fu n : Nat} {p : Prog} (hp : p.Ok) {s : Nat × List Nat} (hs : StateOk p s) : run tab fu (n + 4) "step" [p.d, stD s] = some (.ok .shr (pairD (stepV p s))) := by
  have h1 := need_state_yes (fu := fu) (n := n) p (state_plain hp.boxes hs) (state_yes hs)
  have h2 := next_is (fu := fu) (n := n + 1) hp hs
  have ea := row_at hs.1
  have hr := hp.row _ (row_mem hs.1)
  obtain ⟨i, ns⟩ := s
  rw [run_step]
  refine runD_rt rfl ?_
  unfold d_step
  rw [show Dv.start _ _ = [some (false, p.d), some (false, stD (i, ns)), none] from rfl]
  refine (seq (st' := [some (false, p.d), some (false, stD (i, ns)), none]) (by simp only [runD, Dv.start, evSs_nil, evSs_cons, evS, evE, evL, evB, evAnd, evOr, evO, onOwn, guardO, setAll, thenS_nx, thenS_rt, thenS_ex, onV_ok, onV_ex, onB_ok, onB_ex, bindV_ok, bindV_ex, boolV_ok, bindA_ok, consA_ok, optI_none, optI_some, outcome_nx, outcome_shr, outcome_frs, outcome_ex, setV_shr, setV_frs, binD_add, binD_addT, binD_addL, binD_sub, binD_mulr, binD_mull, binD_fdiv', binD_mod', cmpD_lt, cmpD_le, cmpD_gt, cmpD_ge, cmpD_eqi, cmpD_nei, cmpD_is, cmpD_isn, cmpD_memL, cmpD_nmemL, cmpD_memT, cmpD_nmemT, isN_none, isN_int, isN_tup, isN_lst, isN_bool, isN_str, flat_int, flat_str, flat_none, flat_bool, fnD_lenL, fnD_lenT, fnD_lenS, fnD_intB, fnD_str, fnD_tupL, fnD_tupT, fnD_lstL, fnD_lstT, fnD_all, idxD_L, idxD_T, idxD_S, slcD_L, slcD_T, itemsD_L, itemsD_T, asD_shr, asD_frs, asB_ok, okCall_t, noBrw_nil, noBrw_shr, noBrw_frs, tests_nil, tests_one, at0, at1, at2, lim_eq, List.set_cons_zero, List.set_cons_succ, List.getElem?_cons_zero, List.getElem?_cons_succ, List.length_cons, List.length_nil, List.map_cons, List.map_nil, Option.map_some, Option.map_none, if_true, if_false, ite_true, ite_false, reduceIte, reduceCtorEq, decide_true, decide_false, Nat.reduceAdd, Nat.reduceSub, Nat.reduceEqDiff, Int.reduceNeg, Int.reduceLT, Int.reduceLE, Bool.not_true, Bool.not_false, Nat.reduceLeDiff, and_self, true_and, and_true, h1])).trans ?_
  have hv : stepV p (i, ns) = stepR p (i, ns) (p.rows.getD i .stop) := rfl
  rw [hv] at h2 ⊢
  generalize p.rows.getD i .stop = r at hr ea h2
  refine (seq (st' := [some (false, p.d), some (false, stD (i, ns)), some (false, r.d)]) (by simp only [runD, Dv.start, evSs_nil, evSs_cons, evS, evE, evL, evB, evAnd, evOr, evO, onOwn, guardO, setAll, thenS_nx, thenS_rt, thenS_ex, onV_ok, onV_ex, onB_ok, onB_ex, bindV_ok, bindV_ex, boolV_ok, bindA_ok, consA_ok, optI_none, optI_some, outcome_nx, outcome_shr, outcome_frs, outcome_ex, setV_shr, setV_frs, binD_add, binD_addT, binD_addL, binD_sub, binD_mulr, binD_mull, binD_fdiv', binD_mod', cmpD_lt, cmpD_le, cmpD_gt, cmpD_ge, cmpD_eqi, cmpD_nei, cmpD_is, cmpD_isn, cmpD_memL, cmpD_nmemL, cmpD_memT, cmpD_nmemT, isN_none, isN_int, isN_tup, isN_lst, isN_bool, isN_str, flat_int, flat_str, flat_none, flat_bool, fnD_lenL, fnD_lenT, fnD_lenS, fnD_intB, fnD_str, fnD_tupL, fnD_tupT, fnD_lstL, fnD_lstT, fnD_all, idxD_L, idxD_T, idxD_S, slcD_L, slcD_T, itemsD_L, itemsD_T, asD_shr, asD_frs, asB_ok, okCall_t, noBrw_nil, noBrw_shr, noBrw_frs, tests_nil, tests_one, at0, at1, at2, lim_eq, List.set_cons_zero, List.set_cons_succ, List.getElem?_cons_zero, List.getElem?_cons_succ, List.length_cons, List.length_nil, List.map_cons, List.map_nil, Option.map_some, Option.map_none, if_true, if_false, ite_true, ite_false, reduceIte, reduceCtorEq, decide_true, decide_false, Nat.reduceAdd, Nat.reduceSub, Nat.reduceEqDiff, Int.reduceNeg, Int.reduceLT, Int.reduceLE, Bool.not_true, Bool.not_false, Nat.reduceLeDiff, and_self, true_and, and_true, stD, Prog.d, ea])).trans ?_
  cases r with
  | tell b =>
    have hb : b < ns.length := by rw [hs.2.1]; exact hr
    have eb := iD_at hb
    exact (seq_rt (by simp only [runD, Dv.start, evSs_nil, evSs_cons, evS, evE, evL, evB, evAnd, evOr, evO, onOwn, guardO, setAll, thenS_nx, thenS_rt, thenS_ex, onV_ok, onV_ex, onB_ok, onB_ex, bindV_ok, bindV_ex, boolV_ok, bindA_ok, consA_ok, optI_none, optI_some, outcome_nx, outcome_shr, outcome_frs, outcome_ex, setV_shr, setV_frs, binD_add, binD_addT, binD_addL, binD_sub, binD_mulr, binD_mull, binD_fdiv', binD_mod', cmpD_lt, cmpD_le, cmpD_gt, cmpD_ge, cmpD_eqi, cmpD_nei, cmpD_is, cmpD_isn, cmpD_memL, cmpD_nmemL, cmpD_memT, cmpD_nmemT, isN_none, isN_int, isN_tup, isN_lst, isN_bool, isN_str, flat_int, flat_str, flat_none, flat_bool, fnD_lenL, fnD_lenT, fnD_lenS, fnD_intB, fnD_str, fnD_tupL, fnD_tupT, fnD_lstL, fnD_lstT, fnD_all, idxD_L, idxD_T, idxD_S, slcD_L, slcD_T, itemsD_L, itemsD_T, asD_shr, asD_frs, asB_ok, okCall_t, noBrw_nil, noBrw_shr, noBrw_frs, tests_nil, tests_one, at0, at1, at2, lim_eq, List.set_cons_zero, List.set_cons_succ, List.getElem?_cons_zero, List.getElem?_cons_succ, List.length_cons, List.length_nil, List.map_cons, List.map_nil, Option.map_some, Option.map_none, if_true, if_false, ite_true, ite_false, reduceIte, reduceCtorEq, decide_true, decide_false, Nat.reduceAdd, Nat.reduceSub, Nat.reduceEqDiff, Int.reduceNeg, Int.reduceLT, Int.reduceLE, Bool.not_true, Bool.not_false, Nat.reduceLeDiff, and_self, true_and, and_true, Row.d, w_put_put, w_put_more, w_put_copy, w_put_tell, w_put_go, w_put_ask, w_put_stop, w_put_is, w_put_by, w_more_put, w_more_more, w_more_copy, w_more_tell, w_more_go, w_more_ask, w_more_stop, w_more_is, w_more_by, w_copy_put, w_copy_more, w_copy_copy, w_copy_tell, w_copy_go, w_copy_ask, w_copy_stop, w_copy_is, w_copy_by, w_tell_put, w_tell_more, w_tell_copy, w_tell_tell, w_tell_go, w_tell_ask, w_tell_stop, w_tell_is, w_tell_by, w_go_put, w_go_more, w_go_copy, w_go_tell, w_go_go, w_go_ask, w_go_stop, w_go_is, w_go_by, w_ask_put, w_ask_more, w_ask_copy, w_ask_tell, w_ask_go, w_ask_ask, w_ask_stop, w_ask_is, w_ask_by, w_stop_put, w_stop_more, w_stop_copy, w_stop_tell, w_stop_go, w_stop_ask, w_stop_stop, w_stop_is, w_stop_by, w_is_put, w_is_more, w_is_copy, w_is_tell, w_is_go, w_is_ask, w_is_stop, w_is_is, w_is_by, w_by_put, w_by_more, w_by_copy, w_by_tell, w_by_go, w_by_ask, w_by_stop, w_by_is, w_by_by, h2]; simp only [runD, Dv.start, evSs_nil, evSs_cons, evS, evE, evL, evB, evAnd, evOr, evO, onOwn, guardO, setAll, thenS_nx, thenS_rt, thenS_ex, onV_ok, onV_ex, onB_ok, onB_ex, bindV_ok, bindV_ex, boolV_ok, bindA_ok, consA_ok, optI_none, optI_some, outcome_nx, outcome_shr, outcome_frs, outcome_ex, setV_shr, setV_frs, binD_add, binD_addT, binD_addL, binD_sub, binD_mulr, binD_mull, binD_fdiv', binD_mod', cmpD_lt, cmpD_le, cmpD_gt, cmpD_ge, cmpD_eqi, cmpD_nei, cmpD_is, cmpD_isn, cmpD_memL, cmpD_nmemL, cmpD_memT, cmpD_nmemT, isN_none, isN_int, isN_tup, isN_lst, isN_bool, isN_str, flat_int, flat_str, flat_none, flat_bool, fnD_lenL, fnD_lenT, fnD_lenS, fnD_intB, fnD_str, fnD_tupL, fnD_tupT, fnD_lstL, fnD_lstT, fnD_all, idxD_L, idxD_T, idxD_S, slcD_L, slcD_T, itemsD_L, itemsD_T, asD_shr, asD_frs, asB_ok, okCall_t, noBrw_nil, noBrw_shr, noBrw_frs, tests_nil, tests_one, at0, at1, at2, lim_eq, List.set_cons_zero, List.set_cons_succ, List.getElem?_cons_zero, List.getElem?_cons_succ, List.length_cons, List.length_nil, List.map_cons, List.map_nil, Option.map_some, Option.map_none, if_true, if_false, ite_true, ite_false, reduceIte, reduceCtorEq, decide_true, decide_false, Nat.reduceAdd, Nat.reduceSub, Nat.reduceEqDiff, Int.reduceNeg, Int.reduceLT, Int.reduceLE, Bool.not_true, Bool.not_false, Nat.reduceLeDiff, and_self, true_and, and_true, stD, numsD_i, eb, Nat.reduceLeDiff]; rfl)).trans rfl
  | stop =>
    refine (seq (st' := [some (false, p.d), some (false, stD (i, ns)), some (false, Row.stop.d)]) (by simp only [runD, Dv.start, evSs_nil, evSs_cons, evS, evE, evL, evB, evAnd, evOr, evO, onOwn, guardO, setAll, thenS_nx, thenS_rt, thenS_ex, onV_ok, onV_ex, onB_ok, onB_ex, bindV_ok, bindV_ex, boolV_ok, bindA_ok, consA_ok, optI_none, optI_some, outcome_nx, outcome_shr, outcome_frs, outcome_ex, setV_shr, setV_frs, binD_add, binD_addT, binD_addL, binD_sub, binD_mulr, binD_mull, binD_fdiv', binD_mod', cmpD_lt, cmpD_le, cmpD_gt, cmpD_ge, cmpD_eqi, cmpD_nei, cmpD_is, cmpD_isn, cmpD_memL, cmpD_nmemL, cmpD_memT, cmpD_nmemT, isN_none, isN_int, isN_tup, isN_lst, isN_bool, isN_str, flat_int, flat_str, flat_none, flat_bool, fnD_lenL, fnD_lenT, fnD_lenS, fnD_intB, fnD_str, fnD_tupL, fnD_tupT, fnD_lstL, fnD_lstT, fnD_all, idxD_L, idxD_T, idxD_S, slcD_L, slcD_T, itemsD_L, itemsD_T, asD_shr, asD_frs, asB_ok, okCall_t, noBrw_nil, noBrw_shr, noBrw_frs, tests_nil, tests_one, at0, at1, at2, lim_eq, List.set_cons_zero, List.set_cons_succ, List.getElem?_cons_zero, List.getElem?_cons_succ, List.length_cons, List.length_nil, List.map_cons, List.map_nil, Option.map_some, Option.map_none, if_true, if_false, ite_true, ite_false, reduceIte, reduceCtorEq, decide_true, decide_false, Nat.reduceAdd, Nat.reduceSub, Nat.reduceEqDiff, Int.reduceNeg, Int.reduceLT, Int.reduceLE, Bool.not_true, Bool.not_false, Nat.reduceLeDiff, and_self, true_and, and_true, Row.d, w_put_put, w_put_more, w_put_copy, w_put_tell, w_put_go, w_put_ask, w_put_stop, w_put_is, w_put_by, w_more_put, w_more_more, w_more_copy, w_more_tell, w_more_go, w_more_ask, w_more_stop, w_more_is, w_more_by, w_copy_put, w_copy_more, w_copy_copy, w_copy_tell, w_copy_go, w_copy_ask, w_copy_stop, w_copy_is, w_copy_by, w_tell_put, w_tell_more, w_tell_copy, w_tell_tell, w_tell_go, w_tell_ask, w_tell_stop, w_tell_is, w_tell_by, w_go_put, w_go_more, w_go_copy, w_go_tell, w_go_go, w_go_ask, w_go_stop, w_go_is, w_go_by, w_ask_put, w_ask_more, w_ask_copy, w_ask_tell, w_ask_go, w_ask_ask, w_ask_stop, w_ask_is, w_ask_by, w_stop_put, w_stop_more, w_stop_copy, w_stop_tell, w_stop_go, w_stop_ask, w_stop_stop, w_stop_is, w_stop_by, w_is_put, w_is_more, w_is_copy, w_is_tell, w_is_go, w_is_ask, w_is_stop, w_is_is, w_is_by, w_by_put, w_by_more, w_by_copy, w_by_tell, w_by_go, w_by_ask, w_by_stop, w_by_is, w_by_by, Bool.false_eq_true])).trans ?_
    exact (seq_rt (by simp only [runD, Dv.start, evSs_nil, evSs_cons, evS, evE, evL, evB, evAnd, evOr, evO, onOwn, guardO, setAll, thenS_nx, thenS_rt, thenS_ex, onV_ok, onV_ex, onB_ok, onB_ex, bindV_ok, bindV_ex, boolV_ok, bindA_ok, consA_ok, optI_none, optI_some, outcome_nx, outcome_shr, outcome_frs, outcome_ex, setV_shr, setV_frs, binD_add, binD_addT, binD_addL, binD_sub, binD_mulr, binD_mull, binD_fdiv', binD_mod', cmpD_lt, cmpD_le, cmpD_gt, cmpD_ge, cmpD_eqi, cmpD_nei, cmpD_is, cmpD_isn, cmpD_memL, cmpD_nmemL, cmpD_memT, cmpD_nmemT, isN_none, isN_int, isN_tup, isN_lst, isN_bool, isN_str, flat_int, flat_str, flat_none, flat_bool, fnD_lenL, fnD_lenT, fnD_lenS, fnD_intB, fnD_str, fnD_tupL, fnD_tupT, fnD_lstL, fnD_lstT, fnD_all, idxD_L, idxD_T, idxD_S, slcD_L, slcD_T, itemsD_L, itemsD_T, asD_shr, asD_frs, asB_ok, okCall_t, noBrw_nil, noBrw_shr, noBrw_frs, tests_nil, tests_one, at0, at1, at2, lim_eq, List.set_cons_zero, List.set_cons_succ, List.getElem?_cons_zero, List.getElem?_cons_succ, List.length_cons, List.length_nil, List.map_cons, List.map_nil, Option.map_some, Option.map_none, if_true, if_false, ite_true, ite_false, reduceIte, reduceCtorEq, decide_true, decide_false, Nat.reduceAdd, Nat.reduceSub, Nat.reduceEqDiff, Int.reduceNeg, Int.reduceLT, Int.reduceLE, Bool.not_true, Bool.not_false, Nat.reduceLeDiff, and_self, true_and, and_true, h2, Nat.reduceLeDiff]; rfl)).trans rfl
  | put b v =>
    refine (seq (st' := [some (false, p.d), some (false, stD (i, ns)), some (false, (Row.put b v).d)]) (by simp only [runD, Dv.start, evSs_nil, evSs_cons, evS, evE, evL, evB, evAnd, evOr, evO, onOwn, guardO, setAll, thenS_nx, thenS_rt, thenS_ex, onV_ok, onV_ex, onB_ok, onB_ex, bindV_ok, bindV_ex, boolV_ok, bindA_ok, consA_ok, optI_none, optI_some, outcome_nx, outcome_shr, outcome_frs, outcome_ex, setV_shr, setV_frs, binD_add, binD_addT, binD_addL, binD_sub, binD_mulr, binD_mull, binD_fdiv', binD_mod', cmpD_lt, cmpD_le, cmpD_gt, cmpD_ge, cmpD_eqi, cmpD_nei, cmpD_is, cmpD_isn, cmpD_memL, cmpD_nmemL, cmpD_memT, cmpD_nmemT, isN_none, isN_int, isN_tup, isN_lst, isN_bool, isN_str, flat_int, flat_str, flat_none, flat_bool, fnD_lenL, fnD_lenT, fnD_lenS, fnD_intB, fnD_str, fnD_tupL, fnD_tupT, fnD_lstL, fnD_lstT, fnD_all, idxD_L, idxD_T, idxD_S, slcD_L, slcD_T, itemsD_L, itemsD_T, asD_shr, asD_frs, asB_ok, okCall_t, noBrw_nil, noBrw_shr, noBrw_frs, tests_nil, tests_one, at0, at1, at2, lim_eq, List.set_cons_zero, List.set_cons_succ, List.getElem?_cons_zero, List.getElem?_cons_succ, List.length_cons, List.length_nil, List.map_cons, List.map_nil, Option.map_some, Option.map_none, if_true, if_false, ite_true, ite_false, reduceIte, reduceCtorEq, decide_true, decide_false, Nat.reduceAdd, Nat.reduceSub, Nat.reduceEqDiff, Int.reduceNeg, Int.reduceLT, Int.reduceLE, Bool.not_true, Bool.not_false, Nat.reduceLeDiff, and_self, true_and, and_true, Row.d, w_put_put, w_put_more, w_put_copy, w_put_tell, w_put_go, w_put_ask, w_put_stop, w_put_is, w_put_by, w_more_put, w_more_more, w_more_copy, w_more_tell, w_more_go, w_more_ask, w_more_stop, w_more_is, w_more_by, w_copy_put, w_copy_more, w_copy_copy, w_copy_tell, w_copy_go, w_copy_ask, w_copy_stop, w_copy_is, w_copy_by, w_tell_put, w_tell_more, w_tell_copy, w_tell_tell, w_tell_go, w_tell_ask, w_tell_stop, w_tell_is, w_tell_by, w_go_put, w_go_more, w_go_copy, w_go_tell, w_go_go, w_go_ask, w_go_stop, w_go_is, w_go_by, w_ask_put, w_ask_more, w_ask_copy, w_ask_tell, w_ask_go, w_ask_ask, w_ask_stop, w_ask_is, w_ask_by, w_stop_put, w_stop_more, w_stop_copy, w_stop_tell, w_stop_go, w_stop_ask, w_stop_stop, w_stop_is, w_stop_by, w_is_put, w_is_more, w_is_copy, w_is_tell, w_is_go, w_is_ask, w_is_stop, w_is_is, w_is_by, w_by_put, w_by_more, w_by_copy, w_by_tell, w_by_go, w_by_ask, w_by_stop, w_by_is, w_by_by, Bool.false_eq_true])).trans ?_
    exact (seq_rt (by simp only [runD, Dv.start, evSs_nil, evSs_cons, evS, evE, evL, evB, evAnd, evOr, evO, onOwn, guardO, setAll, thenS_nx, thenS_rt, thenS_ex, onV_ok, onV_ex, onB_ok, onB_ex, bindV_ok, bindV_ex, boolV_ok, bindA_ok, consA_ok, optI_none, optI_some, outcome_nx, outcome_shr, outcome_frs, outcome_ex, setV_shr, setV_frs, binD_add, binD_addT, binD_addL, binD_sub, binD_mulr, binD_mull, binD_fdiv', binD_mod', cmpD_lt, cmpD_le, cmpD_gt, cmpD_ge, cmpD_eqi, cmpD_nei, cmpD_is, cmpD_isn, cmpD_memL, cmpD_nmemL, cmpD_memT, cmpD_nmemT, isN_none, isN_int, isN_tup, isN_lst, isN_bool, isN_str, flat_int, flat_str, flat_none, flat_bool, fnD_lenL, fnD_lenT, fnD_lenS, fnD_intB, fnD_str, fnD_tupL, fnD_tupT, fnD_lstL, fnD_lstT, fnD_all, idxD_L, idxD_T, idxD_S, slcD_L, slcD_T, itemsD_L, itemsD_T, asD_shr, asD_frs, asB_ok, okCall_t, noBrw_nil, noBrw_shr, noBrw_frs, tests_nil, tests_one, at0, at1, at2, lim_eq, List.set_cons_zero, List.set_cons_succ, List.getElem?_cons_zero, List.getElem?_cons_succ, List.length_cons, List.length_nil, List.map_cons, List.map_nil, Option.map_some, Option.map_none, if_true, if_false, ite_true, ite_false, reduceIte, reduceCtorEq, decide_true, decide_false, Nat.reduceAdd, Nat.reduceSub, Nat.reduceEqDiff, Int.reduceNeg, Int.reduceLT, Int.reduceLE, Bool.not_true, Bool.not_false, Nat.reduceLeDiff, and_self, true_and, and_true, h2, Nat.reduceLeDiff]; rfl)).trans rfl
  | more b =>
    refine (seq (st' := [some (false, p.d), some (false, stD (i, ns)), some (false, (Row.more b).d)]) (by simp only [runD, Dv.start, evSs_nil, evSs_cons, evS, evE, evL, evB, evAnd, evOr, evO, onOwn, guardO, setAll, thenS_nx, thenS_rt, thenS_ex, onV_ok, onV_ex, onB_ok, onB_ex, bindV_ok, bindV_ex, boolV_ok, bindA_ok, consA_ok, optI_none, optI_some, outcome_nx, outcome_shr, outcome_frs, outcome_ex, setV_shr, setV_frs, binD_add, binD_addT, binD_addL, binD_sub, binD_mulr, binD_mull, binD_fdiv', binD_mod', cmpD_lt, cmpD_le, cmpD_gt, cmpD_ge, cmpD_eqi, cmpD_nei, cmpD_is, cmpD_isn, cmpD_memL, cmpD_nmemL, cmpD_memT, cmpD_nmemT, isN_none, isN_int, isN_tup, isN_lst, isN_bool, isN_str, flat_int, flat_str, flat_none, flat_bool, fnD_lenL, fnD_lenT, fnD_lenS, fnD_intB, fnD_str, fnD_tupL, fnD_tupT, fnD_lstL, fnD_lstT, fnD_all, idxD_L, idxD_T, idxD_S, slcD_L, slcD_T, itemsD_L, itemsD_T, asD_shr, asD_frs, asB_ok, okCall_t, noBrw_nil, noBrw_shr, noBrw_frs, tests_nil, tests_one, at0, at1, at2, lim_eq, List.set_cons_zero, List.set_cons_succ, List.getElem?_cons_zero, List.getElem?_cons_succ, List.length_cons, List.length_nil, List.map_cons, List.map_nil, Option.map_some, Option.map_none, if_true, if_false, ite_true, ite_false, reduceIte, reduceCtorEq, decide_true, decide_false, Nat.reduceAdd, Nat.reduceSub, Nat.reduceEqDiff, Int.reduceNeg, Int.reduceLT, Int.reduceLE, Bool.not_true, Bool.not_false, Nat.reduceLeDiff, and_self, true_and, and_true, Row.d, w_put_put, w_put_more, w_put_copy, w_put_tell, w_put_go, w_put_ask, w_put_stop, w_put_is, w_put_by, w_more_put, w_more_more, w_more_copy, w_more_tell, w_more_go, w_more_ask, w_more_stop, w_more_is, w_more_by, w_copy_put, w_copy_more, w_copy_copy, w_copy_tell, w_copy_go, w_copy_ask, w_copy_stop, w_copy_is, w_copy_by, w_tell_put, w_tell_more, w_tell_copy, w_tell_tell, w_tell_go, w_tell_ask, w_tell_stop, w_tell_is, w_tell_by, w_go_put, w_go_more, w_go_copy, w_go_tell, w_go_go, w_go_ask, w_go_stop, w_go_is, w_go_by, w_ask_put, w_ask_more, w_ask_copy, w_ask_tell, w_ask_go, w_ask_ask, w_ask_stop, w_ask_is, w_ask_by, w_stop_put, w_stop_more, w_stop_copy, w_stop_tell, w_stop_go, w_stop_ask, w_stop_stop, w_stop_is, w_stop_by, w_is_put, w_is_more, w_is_copy, w_is_tell, w_is_go, w_is_ask, w_is_stop, w_is_is, w_is_by, w_by_put, w_by_more, w_by_copy, w_by_tell, w_by_go, w_by_ask, w_by_stop, w_by_is, w_by_by, Bool.false_eq_true])).trans ?_
    exact (seq_rt (by simp only [runD, Dv.start, evSs_nil, evSs_cons, evS, evE, evL, evB, evAnd, evOr, evO, onOwn, guardO, setAll, thenS_nx, thenS_rt, thenS_ex, onV_ok, onV_ex, onB_ok, onB_ex, bindV_ok, bindV_ex, boolV_ok, bindA_ok, consA_ok, optI_none, optI_some, outcome_nx, outcome_shr, outcome_frs, outcome_ex, setV_shr, setV_frs, binD_add, binD_addT, binD_addL, binD_sub, binD_mulr, binD_mull, binD_fdiv', binD_mod', cmpD_lt, cmpD_le, cmpD_gt, cmpD_ge, cmpD_eqi, cmpD_nei, cmpD_is, cmpD_isn, cmpD_memL, cmpD_nmemL, cmpD_memT, cmpD_nmemT, isN_none, isN_int, isN_tup, isN_lst, isN_bool, isN_str, flat_int, flat_str, flat_none, flat_bool, fnD_lenL, fnD_lenT, fnD_lenS, fnD_intB, fnD_str, fnD_tupL, fnD_tupT, fnD_lstL, fnD_lstT, fnD_all, idxD_L, idxD_T, idxD_S, slcD_L, slcD_T, itemsD_L, itemsD_T, asD_shr, asD_frs, asB_ok, okCall_t, noBrw_nil, noBrw_shr, noBrw_frs, tests_nil, tests_one, at0, at1, at2, lim_eq, List.set_cons_zero, List.set_cons_succ, List.getElem?_cons_zero, List.getElem?_cons_succ, List.length_cons, List.length_nil, List.map_cons, List.map_nil, Option.map_some, Option.map_none, if_true, if_false, ite_true, ite_false, reduceIte, reduceCtorEq, decide_true, decide_false, Nat.reduceAdd, Nat.reduceSub, Nat.reduceEqDiff, Int.reduceNeg, Int.reduceLT, Int.reduceLE, Bool.not_true, Bool.not_false, Nat.reduceLeDiff, and_self, true_and, and_true, h2, Nat.reduceLeDiff]; rfl)).trans rfl
  | copy b c =>
    refine (seq (st' := [some (false, p.d), some (false, stD (i, ns)), some (false, (Row.copy b c).d)]) (by simp only [runD, Dv.start, evSs_nil, evSs_cons, evS, evE, evL, evB, evAnd, evOr, evO, onOwn, guardO, setAll, thenS_nx, thenS_rt, thenS_ex, onV_ok, onV_ex, onB_ok, onB_ex, bindV_ok, bindV_ex, boolV_ok, bindA_ok, consA_ok, optI_none, optI_some, outcome_nx, outcome_shr, outcome_frs, outcome_ex, setV_shr, setV_frs, binD_add, binD_addT, binD_addL, binD_sub, binD_mulr, binD_mull, binD_fdiv', binD_mod', cmpD_lt, cmpD_le, cmpD_gt, cmpD_ge, cmpD_eqi, cmpD_nei, cmpD_is, cmpD_isn, cmpD_memL, cmpD_nmemL, cmpD_memT, cmpD_nmemT, isN_none, isN_int, isN_tup, isN_lst, isN_bool, isN_str, flat_int, flat_str, flat_none, flat_bool, fnD_lenL, fnD_lenT, fnD_lenS, fnD_intB, fnD_str, fnD_tupL, fnD_tupT, fnD_lstL, fnD_lstT, fnD_all, idxD_L, idxD_T, idxD_S, slcD_L, slcD_T, itemsD_L, itemsD_T, asD_shr, asD_frs, asB_ok, okCall_t, noBrw_nil, noBrw_shr, noBrw_frs, tests_nil, tests_one, at0, at1, at2, lim_eq, List.set_cons_zero, List.set_cons_succ, List.getElem?_cons_zero, List.getElem?_cons_succ, List.length_cons, List.length_nil, List.map_cons, List.map_nil, Option.map_some, Option.map_none, if_true, if_false, ite_true, ite_false, reduceIte, reduceCtorEq, decide_true, decide_false, Nat.reduceAdd, Nat.reduceSub, Nat.reduceEqDiff, Int.reduceNeg, Int.reduceLT, Int.reduceLE, Bool.not_true, Bool.not_false, Nat.reduceLeDiff, and_self, true_and, and_true, Row.d, w_put_put, w_put_more, w_put_copy, w_put_tell, w_put_go, w_put_ask, w_put_stop, w_put_is, w_put_by, w_more_put, w_more_more, w_more_copy, w_more_tell, w_more_go, w_more_ask, w_more_stop, w_more_is, w_more_by, w_copy_put, w_copy_more, w_copy_copy, w_copy_tell, w_copy_go, w_copy_ask, w_copy_stop, w_copy_is, w_copy_by, w_tell_put, w_tell_more, w_tell_copy, w_tell_tell, w_tell_go, w_tell_ask, w_tell_stop, w_tell_is, w_tell_by, w_go_put, w_go_more, w_go_copy, w_go_tell, w_go_go, w_go_ask, w_go_stop, w_go_is, w_go_by, w_ask_put, w_ask_more, w_ask_copy, w_ask_tell, w_ask_go, w_ask_ask, w_ask_stop, w_ask_is, w_ask_by, w_stop_put, w_stop_more, w_stop_copy, w_stop_tell, w_stop_go, w_stop_ask, w_stop_stop, w_stop_is, w_stop_by, w_is_put, w_is_more, w_is_copy, w_is_tell, w_is_go, w_is_ask, w_is_stop, w_is_is, w_is_by, w_by_put, w_by_more, w_by_copy, w_by_tell, w_by_go, w_by_ask, w_by_stop, w_by_is, w_by_by, Bool.false_eq_true])).trans ?_
    exact (seq_rt (by simp only [runD, Dv.start, evSs_nil, evSs_cons, evS, evE, evL, evB, evAnd, evOr, evO, onOwn, guardO, setAll, thenS_nx, thenS_rt, thenS_ex, onV_ok, onV_ex, onB_ok, onB_ex, bindV_ok, bindV_ex, boolV_ok, bindA_ok, consA_ok, optI_none, optI_some, outcome_nx, outcome_shr, outcome_frs, outcome_ex, setV_shr, setV_frs, binD_add, binD_addT, binD_addL, binD_sub, binD_mulr, binD_mull, binD_fdiv', binD_mod', cmpD_lt, cmpD_le, cmpD_gt, cmpD_ge, cmpD_eqi, cmpD_nei, cmpD_is, cmpD_isn, cmpD_memL, cmpD_nmemL, cmpD_memT, cmpD_nmemT, isN_none, isN_int, isN_tup, isN_lst, isN_bool, isN_str, flat_int, flat_str, flat_none, flat_bool, fnD_lenL, fnD_lenT, fnD_lenS, fnD_intB, fnD_str, fnD_tupL, fnD_tupT, fnD_lstL, fnD_lstT, fnD_all, idxD_L, idxD_T, idxD_S, slcD_L, slcD_T, itemsD_L, itemsD_T, asD_shr, asD_frs, asB_ok, okCall_t, noBrw_nil, noBrw_shr, noBrw_frs, tests_nil, tests_one, at0, at1, at2, lim_eq, List.set_cons_zero, List.set_cons_succ, List.getElem?_cons_zero, List.getElem?_cons_succ, List.length_cons, List.length_nil, List.map_cons, List.map_nil, Option.map_some, Option.map_none, if_true, if_false, ite_true, ite_false, reduceIte, reduceCtorEq, decide_true, decide_false, Nat.reduceAdd, Nat.reduceSub, Nat.reduceEqDiff, Int.reduceNeg, Int.reduceLT, Int.reduceLE, Bool.not_true, Bool.not_false, Nat.reduceLeDiff, and_self, true_and, and_true, h2, Nat.reduceLeDiff]; rfl)).trans rfl
  | go x =>
    refine (seq (st' := [some (false, p.d), some (false, stD (i, ns)), some (false, (Row.go x).d)]) (by simp only [runD, Dv.start, evSs_nil, evSs_cons, evS, evE, evL, evB, evAnd, evOr, evO, onOwn, guardO, setAll, thenS_nx, thenS_rt, thenS_ex, onV_ok, onV_ex, onB_ok, onB_ex, bindV_ok, bindV_ex, boolV_ok, bindA_ok, consA_ok, optI_none, optI_some, outcome_nx, outcome_shr, outcome_frs, outcome_ex, setV_shr, setV_frs, binD_add, binD_addT, binD_addL, binD_sub, binD_mulr, binD_mull, binD_fdiv', binD_mod', cmpD_lt, cmpD_le, cmpD_gt, cmpD_ge, cmpD_eqi, cmpD_nei, cmpD_is, cmpD_isn, cmpD_memL, cmpD_nmemL, cmpD_memT, cmpD_nmemT, isN_none, isN_int, isN_tup, isN_lst, isN_bool, isN_str, flat_int, flat_str, flat_none, flat_bool, fnD_lenL, fnD_lenT, fnD_lenS, fnD_intB, fnD_str, fnD_tupL, fnD_tupT, fnD_lstL, fnD_lstT, fnD_all, idxD_L, idxD_T, idxD_S, slcD_L, slcD_T, itemsD_L, itemsD_T, asD_shr, asD_frs, asB_ok, okCall_t, noBrw_nil, noBrw_shr, noBrw_frs, tests_nil, tests_one, at0, at1, at2, lim_eq, List.set_cons_zero, List.set_cons_succ, List.getElem?_cons_zero, List.getElem?_cons_succ, List.length_cons, List.length_nil, List.map_cons, List.map_nil, Option.map_some, Option.map_none, if_true, if_false, ite_true, ite_false, reduceIte, reduceCtorEq, decide_true, decide_false, Nat.reduceAdd, Nat.reduceSub, Nat.reduceEqDiff, Int.reduceNeg, Int.reduceLT, Int.reduceLE, Bool.not_true, Bool.not_false, Nat.reduceLeDiff, and_self, true_and, and_true, Row.d, w_put_put, w_put_more, w_put_copy, w_put_tell, w_put_go, w_put_ask, w_put_stop, w_put_is, w_put_by, w_more_put, w_more_more, w_more_copy, w_more_tell, w_more_go, w_more_ask, w_more_stop, w_more_is, w_more_by, w_copy_put, w_copy_more, w_copy_copy, w_copy_tell, w_copy_go, w_copy_ask, w_copy_stop, w_copy_is, w_copy_by, w_tell_put, w_tell_more, w_tell_copy, w_tell_tell, w_tell_go, w_tell_ask, w_tell_stop, w_tell_is, w_tell_by, w_go_put, w_go_more, w_go_copy, w_go_tell, w_go_go, w_go_ask, w_go_stop, w_go_is, w_go_by, w_ask_put, w_ask_more, w_ask_copy, w_ask_tell, w_ask_go, w_ask_ask, w_ask_stop, w_ask_is, w_ask_by, w_stop_put, w_stop_more, w_stop_copy, w_stop_tell, w_stop_go, w_stop_ask, w_stop_stop, w_stop_is, w_stop_by, w_is_put, w_is_more, w_is_copy, w_is_tell, w_is_go, w_is_ask, w_is_stop, w_is_is, w_is_by, w_by_put, w_by_more, w_by_copy, w_by_tell, w_by_go, w_by_ask, w_by_stop, w_by_is, w_by_by, Bool.false_eq_true])).trans ?_
    exact (seq_rt (by simp only [runD, Dv.start, evSs_nil, evSs_cons, evS, evE, evL, evB, evAnd, evOr, evO, onOwn, guardO, setAll, thenS_nx, thenS_rt, thenS_ex, onV_ok, onV_ex, onB_ok, onB_ex, bindV_ok, bindV_ex, boolV_ok, bindA_ok, consA_ok, optI_none, optI_some, outcome_nx, outcome_shr, outcome_frs, outcome_ex, setV_shr, setV_frs, binD_add, binD_addT, binD_addL, binD_sub, binD_mulr, binD_mull, binD_fdiv', binD_mod', cmpD_lt, cmpD_le, cmpD_gt, cmpD_ge, cmpD_eqi, cmpD_nei, cmpD_is, cmpD_isn, cmpD_memL, cmpD_nmemL, cmpD_memT, cmpD_nmemT, isN_none, isN_int, isN_tup, isN_lst, isN_bool, isN_str, flat_int, flat_str, flat_none, flat_bool, fnD_lenL, fnD_lenT, fnD_lenS, fnD_intB, fnD_str, fnD_tupL, fnD_tupT, fnD_lstL, fnD_lstT, fnD_all, idxD_L, idxD_T, idxD_S, slcD_L, slcD_T, itemsD_L, itemsD_T, asD_shr, asD_frs, asB_ok, okCall_t, noBrw_nil, noBrw_shr, noBrw_frs, tests_nil, tests_one, at0, at1, at2, lim_eq, List.set_cons_zero, List.set_cons_succ, List.getElem?_cons_zero, List.getElem?_cons_succ, List.length_cons, List.length_nil, List.map_cons, List.map_nil, Option.map_some, Option.map_none, if_true, if_false, ite_true, ite_false, reduceIte, reduceCtorEq, decide_true, decide_false, Nat.reduceAdd, Nat.reduceSub, Nat.reduceEqDiff, Int.reduceNeg, Int.reduceLT, Int.reduceLE, Bool.not_true, Bool.not_false, Nat.reduceLeDiff, and_self, true_and, and_true, h2, Nat.reduceLeDiff]; rfl)).trans rfl
  | ask b x =>
    refine (seq (st' := [some (false, p.d), some (false, stD (i, ns)), some (false, (Row.ask b x).d)]) (by simp only [runD, Dv.start, evSs_nil, evSs_cons, evS, evE, evL, evB, evAnd, evOr, evO, onOwn, guardO, setAll, thenS_nx, thenS_rt, thenS_ex, onV_ok, onV_ex, onB_ok, onB_ex, bindV_ok, bindV_ex, boolV_ok, bindA_ok, consA_ok, optI_none, optI_some, outcome_nx, outcome_shr, outcome_frs, outcome_ex, setV_shr, setV_frs, binD_add, binD_addT, binD_addL, binD_sub, binD_mulr, binD_mull, binD_fdiv', binD_mod', cmpD_lt, cmpD_le, cmpD_gt, cmpD_ge, cmpD_eqi, cmpD_nei, cmpD_is, cmpD_isn, cmpD_memL, cmpD_nmemL, cmpD_memT, cmpD_nmemT, isN_none, isN_int, isN_tup, isN_lst, isN_bool, isN_str, flat_int, flat_str, flat_none, flat_bool, fnD_lenL, fnD_lenT, fnD_lenS, fnD_intB, fnD_str, fnD_tupL, fnD_tupT, fnD_lstL, fnD_lstT, fnD_all, idxD_L, idxD_T, idxD_S, slcD_L, slcD_T, itemsD_L, itemsD_T, asD_shr, asD_frs, asB_ok, okCall_t, noBrw_nil, noBrw_shr, noBrw_frs, tests_nil, tests_one, at0, at1, at2, lim_eq, List.set_cons_zero, List.set_cons_succ, List.getElem?_cons_zero, List.getElem?_cons_succ, List.length_cons, List.length_nil, List.map_cons, List.map_nil, Option.map_some, Option.map_none, if_true, if_false, ite_true, ite_false, reduceIte, reduceCtorEq, decide_true, decide_false, Nat.reduceAdd, Nat.reduceSub, Nat.reduceEqDiff, Int.reduceNeg, Int.reduceLT, Int.reduceLE, Bool.not_true, Bool.not_false, Nat.reduceLeDiff, and_self, true_and, and_true, Row.d, w_put_put, w_put_more, w_put_copy, w_put_tell, w_put_go, w_put_ask, w_put_stop, w_put_is, w_put_by, w_more_put, w_more_more, w_more_copy, w_more_tell, w_more_go, w_more_ask, w_more_stop, w_more_is, w_more_by, w_copy_put, w_copy_more, w_copy_copy, w_copy_tell, w_copy_go, w_copy_ask, w_copy_stop, w_copy_is, w_copy_by, w_tell_put, w_tell_more, w_tell_copy, w_tell_tell, w_tell_go, w_tell_ask, w_tell_stop, w_tell_is, w_tell_by, w_go_put, w_go_more, w_go_copy, w_go_tell, w_go_go, w_go_ask, w_go_stop, w_go_is, w_go_by, w_ask_put, w_ask_more, w_ask_copy, w_ask_tell, w_ask_go, w_ask_ask, w_ask_stop, w_ask_is, w_ask_by, w_stop_put, w_stop_more, w_stop_copy, w_stop_tell, w_stop_go, w_stop_ask, w_stop_stop, w_stop_is, w_stop_by, w_is_put, w_is_more, w_is_copy, w_is_tell, w_is_go, w_is_ask, w_is_stop, w_is_is, w_is_by, w_by_put, w_by_more, w_by_copy, w_by_tell, w_by_go, w_by_ask, w_by_stop, w_by_is, w_by_by, Bool.false_eq_true])).trans ?_
    exact (seq_rt (by simp only [runD, Dv.start, evSs_nil, evSs_cons, evS, evE, evL, evB, evAnd, evOr, evO, onOwn, guardO, setAll, thenS_nx, thenS_rt, thenS_ex, onV_ok, onV_ex, onB_ok, onB_ex, bindV_ok, bindV_ex, boolV_ok, bindA_ok, consA_ok, optI_none, optI_some, outcome_nx, outcome_shr, outcome_frs, outcome_ex, setV_shr, setV_frs, binD_add, binD_addT, binD_addL, binD_sub, binD_mulr, binD_mull, binD_fdiv', binD_mod', cmpD_lt, cmpD_le, cmpD_gt, cmpD_ge, cmpD_eqi, cmpD_nei, cmpD_is, cmpD_isn, cmpD_memL, cmpD_nmemL, cmpD_memT, cmpD_nmemT, isN_none, isN_int, isN_tup, isN_lst, isN_bool, isN_str, flat_int, flat_str, flat_none, flat_bool, fnD_lenL, fnD_lenT, fnD_lenS, fnD_intB, fnD_str, fnD_tupL, fnD_tupT, fnD_lstL, fnD_lstT, fnD_all, idxD_L, idxD_T, idxD_S, slcD_L, slcD_T, itemsD_L, itemsD_T, asD_shr, asD_frs, asB_ok, okCall_t, noBrw_nil, noBrw_shr, noBrw_frs, tests_nil, tests_one, at0, at1, at2, lim_eq, List.set_cons_zero, List.set_cons_succ, List.getElem?_cons_zero, List.getElem?_cons_succ, List.length_cons, List.length_nil, List.map_cons, List.map_nil, Option.map_some, Option.map_none, if_true, if_false, ite_true, ite_false, reduceIte, reduceCtorEq, decide_true, decide_false, Nat.reduceAdd, Nat.reduceSub, Nat.reduceEqDiff, Int.reduceNeg, Int.reduceLT, Int.reduceLE, Bool.not_true, Bool.not_false, Nat.reduceLeDiff, and_self, true_and, and_true, h2, Nat.reduceLeDiff]; rfl)).trans rfl
theorem ixN_nat {b n : Nat} (h : b < n) : L2.ixN n (b : Int) = some b := by
  unfold L2.ixN
  rw [if_pos (by omega), if_pos (by omega), Int.toNat_natCast]
theorem law_put_ok {fu n : Nat} {ns : List Nat} {b v : Nat} (h : b < ns.length) : run tab fu (n + 1) "_law_put" [numsD ns, .int b, .int v] = some (.ok .shr (numsD (ns.set b v))) := by
  rw [run_law_put]
  refine runD_rt rfl ?_
  unfold d_law_put
  rw [show Dv.start _ _ = [some (false, numsD ns), some (false, .int b), some (false, .int v), none] from rfl]
  have e : (iD ns).set b (.int (v : Int)) = iD (ns.set b v) := by unfold iD; rw [List.map_set]
  have ix : L2.ixN (iD ns).length (b : Int) = some b := ixN_nat (by rw [iD_len]; exact h)
  refine (seq (st' := [some (false, numsD ns), some (false, .int b), some (false, .int v), some (true, .list (iD ns))]) (by simp only [runD, Dv.start, evSs_nil, evSs_cons, evS, evE, evL, evB, evAnd, evOr, evO, onOwn, guardO, setAll, thenS_nx, thenS_rt, thenS_ex, onV_ok, onV_ex, onB_ok, onB_ex, bindV_ok, bindV_ex, boolV_ok, bindA_ok, consA_ok, optI_none, optI_some, outcome_nx, outcome_shr, outcome_frs, outcome_ex, setV_shr, setV_frs, binD_add, binD_addT, binD_addL, binD_sub, binD_mulr, binD_mull, binD_fdiv', binD_mod', cmpD_lt, cmpD_le, cmpD_gt, cmpD_ge, cmpD_eqi, cmpD_nei, cmpD_is, cmpD_isn, cmpD_memL, cmpD_nmemL, cmpD_memT, cmpD_nmemT, isN_none, isN_int, isN_tup, isN_lst, isN_bool, isN_str, flat_int, flat_str, flat_none, flat_bool, fnD_lenL, fnD_lenT, fnD_lenS, fnD_intB, fnD_str, fnD_tupL, fnD_tupT, fnD_lstL, fnD_lstT, fnD_all, idxD_L, idxD_T, idxD_S, slcD_L, slcD_T, itemsD_L, itemsD_T, asD_shr, asD_frs, asB_ok, okCall_t, noBrw_nil, noBrw_shr, noBrw_frs, tests_nil, tests_one, at0, at1, at2, lim_eq, List.set_cons_zero, List.set_cons_succ, List.getElem?_cons_zero, List.getElem?_cons_succ, List.length_cons, List.length_nil, List.map_cons, List.map_nil, Option.map_some, Option.map_none, if_true, if_false, ite_true, ite_false, reduceIte, reduceCtorEq, decide_true, decide_false, Nat.reduceAdd, Nat.reduceSub, Nat.reduceEqDiff, Int.reduceNeg, Int.reduceLT, Int.reduceLE, Bool.not_true, Bool.not_false, Nat.reduceLeDiff, and_self, true_and, and_true, numsD_i])).trans ?_
  refine (seq (st' := [some (false, numsD ns), some (false, .int b), some (false, .int v), some (true, .list (iD (ns.set b v)))]) (by simp only [runD, Dv.start, evSs_nil, evSs_cons, evS, evE, evL, evB, evAnd, evOr, evO, onOwn, guardO, setAll, thenS_nx, thenS_rt, thenS_ex, onV_ok, onV_ex, onB_ok, onB_ex, bindV_ok, bindV_ex, boolV_ok, bindA_ok, consA_ok, optI_none, optI_some, outcome_nx, outcome_shr, outcome_frs, outcome_ex, setV_shr, setV_frs, binD_add, binD_addT, binD_addL, binD_sub, binD_mulr, binD_mull, binD_fdiv', binD_mod', cmpD_lt, cmpD_le, cmpD_gt, cmpD_ge, cmpD_eqi, cmpD_nei, cmpD_is, cmpD_isn, cmpD_memL, cmpD_nmemL, cmpD_memT, cmpD_nmemT, isN_none, isN_int, isN_tup, isN_lst, isN_bool, isN_str, flat_int, flat_str, flat_none, flat_bool, fnD_lenL, fnD_lenT, fnD_lenS, fnD_intB, fnD_str, fnD_tupL, fnD_tupT, fnD_lstL, fnD_lstT, fnD_all, idxD_L, idxD_T, idxD_S, slcD_L, slcD_T, itemsD_L, itemsD_T, asD_shr, asD_frs, asB_ok, okCall_t, noBrw_nil, noBrw_shr, noBrw_frs, tests_nil, tests_one, at0, at1, at2, lim_eq, List.set_cons_zero, List.set_cons_succ, List.getElem?_cons_zero, List.getElem?_cons_succ, List.length_cons, List.length_nil, List.map_cons, List.map_nil, Option.map_some, Option.map_none, if_true, if_false, ite_true, ite_false, reduceIte, reduceCtorEq, decide_true, decide_false, Nat.reduceAdd, Nat.reduceSub, Nat.reduceEqDiff, Int.reduceNeg, Int.reduceLT, Int.reduceLE, Bool.not_true, Bool.not_false, Nat.reduceLeDiff, and_self, true_and, and_true, ix, e])).trans ?_
  exact (seq_rt (by simp only [runD, Dv.start, evSs_nil, evSs_cons, evS, evE, evL, evB, evAnd, evOr, evO, onOwn, guardO, setAll, thenS_nx, thenS_rt, thenS_ex, onV_ok, onV_ex, onB_ok, onB_ex, bindV_ok, bindV_ex, boolV_ok, bindA_ok, consA_ok, optI_none, optI_some, outcome_nx, outcome_shr, outcome_frs, outcome_ex, setV_shr, setV_frs, binD_add, binD_addT, binD_addL, binD_sub, binD_mulr, binD_mull, binD_fdiv', binD_mod', cmpD_lt, cmpD_le, cmpD_gt, cmpD_ge, cmpD_eqi, cmpD_nei, cmpD_is, cmpD_isn, cmpD_memL, cmpD_nmemL, cmpD_memT, cmpD_nmemT, isN_none, isN_int, isN_tup, isN_lst, isN_bool, isN_str, flat_int, flat_str, flat_none, flat_bool, fnD_lenL, fnD_lenT, fnD_lenS, fnD_intB, fnD_str, fnD_tupL, fnD_tupT, fnD_lstL, fnD_lstT, fnD_all, idxD_L, idxD_T, idxD_S, slcD_L, slcD_T, itemsD_L, itemsD_T, asD_shr, asD_frs, asB_ok, okCall_t, noBrw_nil, noBrw_shr, noBrw_frs, tests_nil, tests_one, at0, at1, at2, lim_eq, List.set_cons_zero, List.set_cons_succ, List.getElem?_cons_zero, List.getElem?_cons_succ, List.length_cons, List.length_nil, List.map_cons, List.map_nil, Option.map_some, Option.map_none, if_true, if_false, ite_true, ite_false, reduceIte, reduceCtorEq, decide_true, decide_false, Nat.reduceAdd, Nat.reduceSub, Nat.reduceEqDiff, Int.reduceNeg, Int.reduceLT, Int.reduceLE, Bool.not_true, Bool.not_false, Nat.reduceLeDiff, and_self, true_and, and_true]; try rfl)).trans rfl
end Law
namespace Law
open PySem Dv
theorem law_step_is {fu n : Nat} {p : Prog} (hp : p.Ok) {s : Nat × List Nat} (hs : StateOk p s) : run tab fu (n + 2) "_law_step" [p.d, stD s] = some (.ok .shr (pairD (stepV p s))) := by
  have ea := row_at hs.1
  have hr := hp.row _ (row_mem hs.1)
  obtain ⟨i, ns⟩ := s
  have hn' : ns.length = p.boxes := hs.2.1
  have hmost := hs.2.2
  rw [run_law_step]
  refine runD_rt rfl ?_
  unfold d_law_step
  rw [show Dv.start _ _ = [some (false, p.d), some (false, stD (i, ns)), none, none, none, none] from rfl]
  have hv : stepV p (i, ns) = stepR p (i, ns) (p.rows.getD i .stop) := rfl
  rw [hv]
  generalize p.rows.getD i .stop = r at hr ea
  have pn : ∀ {b v : Nat}, b < ns.length → run tab fu (n + 1) "_law_put" [.tuple (iD ns), .int b, .int v] = some (.ok .shr (.tuple (iD (ns.set b v)))) := fun {b v} hb => law_put_ok (fu := fu) (n := n) hb
  refine (seq (st' := [some (false, p.d), some (false, stD (i, ns)), some (false, .int i), none, none, none]) (by simp only [runD, Dv.start, evSs_nil, evSs_cons, evS, evE, evL, evB, evAnd, evOr, evO, onOwn, guardO, setAll, thenS_nx, thenS_rt, thenS_ex, onV_ok, onV_ex, onB_ok, onB_ex, bindV_ok, bindV_ex, boolV_ok, bindA_ok, consA_ok, optI_none, optI_some, outcome_nx, outcome_shr, outcome_frs, outcome_ex, setV_shr, setV_frs, binD_add, binD_addT, binD_addL, binD_sub, binD_mulr, binD_mull, binD_fdiv', binD_mod', cmpD_lt, cmpD_le, cmpD_gt, cmpD_ge, cmpD_eqi, cmpD_nei, cmpD_is, cmpD_isn, cmpD_memL, cmpD_nmemL, cmpD_memT, cmpD_nmemT, isN_none, isN_int, isN_tup, isN_lst, isN_bool, isN_str, flat_int, flat_str, flat_none, flat_bool, fnD_lenL, fnD_lenT, fnD_lenS, fnD_intB, fnD_str, fnD_tupL, fnD_tupT, fnD_lstL, fnD_lstT, fnD_all, idxD_L, idxD_T, idxD_S, slcD_L, slcD_T, itemsD_L, itemsD_T, asD_shr, asD_frs, asB_ok, okCall_t, noBrw_nil, noBrw_shr, noBrw_frs, tests_nil, tests_one, at0, at1, at2, lim_eq, List.set_cons_zero, List.set_cons_succ, List.getElem?_cons_zero, List.getElem?_cons_succ, List.length_cons, List.length_nil, List.map_cons, List.map_nil, Option.map_some, Option.map_none, if_true, if_false, ite_true, ite_false, reduceIte, reduceCtorEq, decide_true, decide_false, Nat.reduceAdd, Nat.reduceSub, Nat.reduceEqDiff, Int.reduceNeg, Int.reduceLT, Int.reduceLE, Bool.not_true, Bool.not_false, Nat.reduceLeDiff, and_self, true_and, and_true, stD])).trans ?_
  refine (seq (st' := [some (false, p.d), some (false, stD (i, ns)), some (false, .int i), some (false, .tuple (iD ns)), none, none]) (by simp only [runD, Dv.start, evSs_nil, evSs_cons, evS, evE, evL, evB, evAnd, evOr, evO, onOwn, guardO, setAll, thenS_nx, thenS_rt, thenS_ex, onV_ok, onV_ex, onB_ok, onB_ex, bindV_ok, bindV_ex, boolV_ok, bindA_ok, consA_ok, optI_none, optI_some, outcome_nx, outcome_shr, outcome_frs, outcome_ex, setV_shr, setV_frs, binD_add, binD_addT, binD_addL, binD_sub, binD_mulr, binD_mull, binD_fdiv', binD_mod', cmpD_lt, cmpD_le, cmpD_gt, cmpD_ge, cmpD_eqi, cmpD_nei, cmpD_is, cmpD_isn, cmpD_memL, cmpD_nmemL, cmpD_memT, cmpD_nmemT, isN_none, isN_int, isN_tup, isN_lst, isN_bool, isN_str, flat_int, flat_str, flat_none, flat_bool, fnD_lenL, fnD_lenT, fnD_lenS, fnD_intB, fnD_str, fnD_tupL, fnD_tupT, fnD_lstL, fnD_lstT, fnD_all, idxD_L, idxD_T, idxD_S, slcD_L, slcD_T, itemsD_L, itemsD_T, asD_shr, asD_frs, asB_ok, okCall_t, noBrw_nil, noBrw_shr, noBrw_frs, tests_nil, tests_one, at0, at1, at2, lim_eq, List.set_cons_zero, List.set_cons_succ, List.getElem?_cons_zero, List.getElem?_cons_succ, List.length_cons, List.length_nil, List.map_cons, List.map_nil, Option.map_some, Option.map_none, if_true, if_false, ite_true, ite_false, reduceIte, reduceCtorEq, decide_true, decide_false, Nat.reduceAdd, Nat.reduceSub, Nat.reduceEqDiff, Int.reduceNeg, Int.reduceLT, Int.reduceLE, Bool.not_true, Bool.not_false, Nat.reduceLeDiff, and_self, true_and, and_true, stD, numsD_i])).trans ?_
  refine (seq (st' := [some (false, p.d), some (false, stD (i, ns)), some (false, .int i), some (false, .tuple (iD ns)), some (false, r.d), none]) (by simp only [runD, Dv.start, evSs_nil, evSs_cons, evS, evE, evL, evB, evAnd, evOr, evO, onOwn, guardO, setAll, thenS_nx, thenS_rt, thenS_ex, onV_ok, onV_ex, onB_ok, onB_ex, bindV_ok, bindV_ex, boolV_ok, bindA_ok, consA_ok, optI_none, optI_some, outcome_nx, outcome_shr, outcome_frs, outcome_ex, setV_shr, setV_frs, binD_add, binD_addT, binD_addL, binD_sub, binD_mulr, binD_mull, binD_fdiv', binD_mod', cmpD_lt, cmpD_le, cmpD_gt, cmpD_ge, cmpD_eqi, cmpD_nei, cmpD_is, cmpD_isn, cmpD_memL, cmpD_nmemL, cmpD_memT, cmpD_nmemT, isN_none, isN_int, isN_tup, isN_lst, isN_bool, isN_str, flat_int, flat_str, flat_none, flat_bool, fnD_lenL, fnD_lenT, fnD_lenS, fnD_intB, fnD_str, fnD_tupL, fnD_tupT, fnD_lstL, fnD_lstT, fnD_all, idxD_L, idxD_T, idxD_S, slcD_L, slcD_T, itemsD_L, itemsD_T, asD_shr, asD_frs, asB_ok, okCall_t, noBrw_nil, noBrw_shr, noBrw_frs, tests_nil, tests_one, at0, at1, at2, lim_eq, List.set_cons_zero, List.set_cons_succ, List.getElem?_cons_zero, List.getElem?_cons_succ, List.length_cons, List.length_nil, List.map_cons, List.map_nil, Option.map_some, Option.map_none, if_true, if_false, ite_true, ite_false, reduceIte, reduceCtorEq, decide_true, decide_false, Nat.reduceAdd, Nat.reduceSub, Nat.reduceEqDiff, Int.reduceNeg, Int.reduceLT, Int.reduceLE, Bool.not_true, Bool.not_false, Nat.reduceLeDiff, and_self, true_and, and_true, Prog.d, ea])).trans ?_
  cases r with
  | stop => exact (seq_rt (by simp only [runD, Dv.start, evSs_nil, evSs_cons, evS, evE, evL, evB, evAnd, evOr, evO, onOwn, guardO, setAll, thenS_nx, thenS_rt, thenS_ex, onV_ok, onV_ex, onB_ok, onB_ex, bindV_ok, bindV_ex, boolV_ok, bindA_ok, consA_ok, optI_none, optI_some, outcome_nx, outcome_shr, outcome_frs, outcome_ex, setV_shr, setV_frs, binD_add, binD_addT, binD_addL, binD_sub, binD_mulr, binD_mull, binD_fdiv', binD_mod', cmpD_lt, cmpD_le, cmpD_gt, cmpD_ge, cmpD_eqi, cmpD_nei, cmpD_is, cmpD_isn, cmpD_memL, cmpD_nmemL, cmpD_memT, cmpD_nmemT, isN_none, isN_int, isN_tup, isN_lst, isN_bool, isN_str, flat_int, flat_str, flat_none, flat_bool, fnD_lenL, fnD_lenT, fnD_lenS, fnD_intB, fnD_str, fnD_tupL, fnD_tupT, fnD_lstL, fnD_lstT, fnD_all, idxD_L, idxD_T, idxD_S, slcD_L, slcD_T, itemsD_L, itemsD_T, asD_shr, asD_frs, asB_ok, okCall_t, noBrw_nil, noBrw_shr, noBrw_frs, tests_nil, tests_one, at0, at1, at2, lim_eq, List.set_cons_zero, List.set_cons_succ, List.getElem?_cons_zero, List.getElem?_cons_succ, List.length_cons, List.length_nil, List.map_cons, List.map_nil, Option.map_some, Option.map_none, if_true, if_false, ite_true, ite_false, reduceIte, reduceCtorEq, decide_true, decide_false, Nat.reduceAdd, Nat.reduceSub, Nat.reduceEqDiff, Int.reduceNeg, Int.reduceLT, Int.reduceLE, Bool.not_true, Bool.not_false, Nat.reduceLeDiff, and_self, true_and, and_true, Row.d, w_put_put, w_put_more, w_put_copy, w_put_tell, w_put_go, w_put_ask, w_put_stop, w_put_is, w_put_by, w_more_put, w_more_more, w_more_copy, w_more_tell, w_more_go, w_more_ask, w_more_stop, w_more_is, w_more_by, w_copy_put, w_copy_more, w_copy_copy, w_copy_tell, w_copy_go, w_copy_ask, w_copy_stop, w_copy_is, w_copy_by, w_tell_put, w_tell_more, w_tell_copy, w_tell_tell, w_tell_go, w_tell_ask, w_tell_stop, w_tell_is, w_tell_by, w_go_put, w_go_more, w_go_copy, w_go_tell, w_go_go, w_go_ask, w_go_stop, w_go_is, w_go_by, w_ask_put, w_ask_more, w_ask_copy, w_ask_tell, w_ask_go, w_ask_ask, w_ask_stop, w_ask_is, w_ask_by, w_stop_put, w_stop_more, w_stop_copy, w_stop_tell, w_stop_go, w_stop_ask, w_stop_stop, w_stop_is, w_stop_by, w_is_put, w_is_more, w_is_copy, w_is_tell, w_is_go, w_is_ask, w_is_stop, w_is_is, w_is_by, w_by_put, w_by_more, w_by_copy, w_by_tell, w_by_go, w_by_ask, w_by_stop, w_by_is, w_by_by, Nat.reduceLeDiff]; rfl)).trans rfl
  | tell b =>
    have hb : b < ns.length := by rw [hn']; exact hr
    have eb := iD_at hb
    refine (seq (st' := [some (false, p.d), some (false, stD (i, ns)), some (false, .int i), some (false, .tuple (iD ns)), some (false, (Row.tell b).d), none]) (by simp only [runD, Dv.start, evSs_nil, evSs_cons, evS, evE, evL, evB, evAnd, evOr, evO, onOwn, guardO, setAll, thenS_nx, thenS_rt, thenS_ex, onV_ok, onV_ex, onB_ok, onB_ex, bindV_ok, bindV_ex, boolV_ok, bindA_ok, consA_ok, optI_none, optI_some, outcome_nx, outcome_shr, outcome_frs, outcome_ex, setV_shr, setV_frs, binD_add, binD_addT, binD_addL, binD_sub, binD_mulr, binD_mull, binD_fdiv', binD_mod', cmpD_lt, cmpD_le, cmpD_gt, cmpD_ge, cmpD_eqi, cmpD_nei, cmpD_is, cmpD_isn, cmpD_memL, cmpD_nmemL, cmpD_memT, cmpD_nmemT, isN_none, isN_int, isN_tup, isN_lst, isN_bool, isN_str, flat_int, flat_str, flat_none, flat_bool, fnD_lenL, fnD_lenT, fnD_lenS, fnD_intB, fnD_str, fnD_tupL, fnD_tupT, fnD_lstL, fnD_lstT, fnD_all, idxD_L, idxD_T, idxD_S, slcD_L, slcD_T, itemsD_L, itemsD_T, asD_shr, asD_frs, asB_ok, okCall_t, noBrw_nil, noBrw_shr, noBrw_frs, tests_nil, tests_one, at0, at1, at2, lim_eq, List.set_cons_zero, List.set_cons_succ, List.getElem?_cons_zero, List.getElem?_cons_succ, List.length_cons, List.length_nil, List.map_cons, List.map_nil, Option.map_some, Option.map_none, if_true, if_false, ite_true, ite_false, reduceIte, reduceCtorEq, decide_true, decide_false, Nat.reduceAdd, Nat.reduceSub, Nat.reduceEqDiff, Int.reduceNeg, Int.reduceLT, Int.reduceLE, Bool.not_true, Bool.not_false, Nat.reduceLeDiff, and_self, true_and, and_true, Row.d, w_put_put, w_put_more, w_put_copy, w_put_tell, w_put_go, w_put_ask, w_put_stop, w_put_is, w_put_by, w_more_put, w_more_more, w_more_copy, w_more_tell, w_more_go, w_more_ask, w_more_stop, w_more_is, w_more_by, w_copy_put, w_copy_more, w_copy_copy, w_copy_tell, w_copy_go, w_copy_ask, w_copy_stop, w_copy_is, w_copy_by, w_tell_put, w_tell_more, w_tell_copy, w_tell_tell, w_tell_go, w_tell_ask, w_tell_stop, w_tell_is, w_tell_by, w_go_put, w_go_more, w_go_copy, w_go_tell, w_go_go, w_go_ask, w_go_stop, w_go_is, w_go_by, w_ask_put, w_ask_more, w_ask_copy, w_ask_tell, w_ask_go, w_ask_ask, w_ask_stop, w_ask_is, w_ask_by, w_stop_put, w_stop_more, w_stop_copy, w_stop_tell, w_stop_go, w_stop_ask, w_stop_stop, w_stop_is, w_stop_by, w_is_put, w_is_more, w_is_copy, w_is_tell, w_is_go, w_is_ask, w_is_stop, w_is_is, w_is_by, w_by_put, w_by_more, w_by_copy, w_by_tell, w_by_go, w_by_ask, w_by_stop, w_by_is, w_by_by, Bool.false_eq_true])).trans ?_
    exact (seq_rt (by simp only [runD, Dv.start, evSs_nil, evSs_cons, evS, evE, evL, evB, evAnd, evOr, evO, onOwn, guardO, setAll, thenS_nx, thenS_rt, thenS_ex, onV_ok, onV_ex, onB_ok, onB_ex, bindV_ok, bindV_ex, boolV_ok, bindA_ok, consA_ok, optI_none, optI_some, outcome_nx, outcome_shr, outcome_frs, outcome_ex, setV_shr, setV_frs, binD_add, binD_addT, binD_addL, binD_sub, binD_mulr, binD_mull, binD_fdiv', binD_mod', cmpD_lt, cmpD_le, cmpD_gt, cmpD_ge, cmpD_eqi, cmpD_nei, cmpD_is, cmpD_isn, cmpD_memL, cmpD_nmemL, cmpD_memT, cmpD_nmemT, isN_none, isN_int, isN_tup, isN_lst, isN_bool, isN_str, flat_int, flat_str, flat_none, flat_bool, fnD_lenL, fnD_lenT, fnD_lenS, fnD_intB, fnD_str, fnD_tupL, fnD_tupT, fnD_lstL, fnD_lstT, fnD_all, idxD_L, idxD_T, idxD_S, slcD_L, slcD_T, itemsD_L, itemsD_T, asD_shr, asD_frs, asB_ok, okCall_t, noBrw_nil, noBrw_shr, noBrw_frs, tests_nil, tests_one, at0, at1, at2, lim_eq, List.set_cons_zero, List.set_cons_succ, List.getElem?_cons_zero, List.getElem?_cons_succ, List.length_cons, List.length_nil, List.map_cons, List.map_nil, Option.map_some, Option.map_none, if_true, if_false, ite_true, ite_false, reduceIte, reduceCtorEq, decide_true, decide_false, Nat.reduceAdd, Nat.reduceSub, Nat.reduceEqDiff, Int.reduceNeg, Int.reduceLT, Int.reduceLE, Bool.not_true, Bool.not_false, Nat.reduceLeDiff, and_self, true_and, and_true, Row.d, w_put_put, w_put_more, w_put_copy, w_put_tell, w_put_go, w_put_ask, w_put_stop, w_put_is, w_put_by, w_more_put, w_more_more, w_more_copy, w_more_tell, w_more_go, w_more_ask, w_more_stop, w_more_is, w_more_by, w_copy_put, w_copy_more, w_copy_copy, w_copy_tell, w_copy_go, w_copy_ask, w_copy_stop, w_copy_is, w_copy_by, w_tell_put, w_tell_more, w_tell_copy, w_tell_tell, w_tell_go, w_tell_ask, w_tell_stop, w_tell_is, w_tell_by, w_go_put, w_go_more, w_go_copy, w_go_tell, w_go_go, w_go_ask, w_go_stop, w_go_is, w_go_by, w_ask_put, w_ask_more, w_ask_copy, w_ask_tell, w_ask_go, w_ask_ask, w_ask_stop, w_ask_is, w_ask_by, w_stop_put, w_stop_more, w_stop_copy, w_stop_tell, w_stop_go, w_stop_ask, w_stop_stop, w_stop_is, w_stop_by, w_is_put, w_is_more, w_is_copy, w_is_tell, w_is_go, w_is_ask, w_is_stop, w_is_is, w_is_by, w_by_put, w_by_more, w_by_copy, w_by_tell, w_by_go, w_by_ask, w_by_stop, w_by_is, w_by_by, eb, Nat.reduceLeDiff]; rfl)).trans rfl
  | go x =>
    have el : L2.atI [PyData.str "go", .int (x : Int)] (-1) = some (.int x) := rfl
    iterate 2 refine (seq (st' := [some (false, p.d), some (false, stD (i, ns)), some (false, .int i), some (false, .tuple (iD ns)), some (false, (Row.go x).d), none]) (by simp only [runD, Dv.start, evSs_nil, evSs_cons, evS, evE, evL, evB, evAnd, evOr, evO, onOwn, guardO, setAll, thenS_nx, thenS_rt, thenS_ex, onV_ok, onV_ex, onB_ok, onB_ex, bindV_ok, bindV_ex, boolV_ok, bindA_ok, consA_ok, optI_none, optI_some, outcome_nx, outcome_shr, outcome_frs, outcome_ex, setV_shr, setV_frs, binD_add, binD_addT, binD_addL, binD_sub, binD_mulr, binD_mull, binD_fdiv', binD_mod', cmpD_lt, cmpD_le, cmpD_gt, cmpD_ge, cmpD_eqi, cmpD_nei, cmpD_is, cmpD_isn, cmpD_memL, cmpD_nmemL, cmpD_memT, cmpD_nmemT, isN_none, isN_int, isN_tup, isN_lst, isN_bool, isN_str, flat_int, flat_str, flat_none, flat_bool, fnD_lenL, fnD_lenT, fnD_lenS, fnD_intB, fnD_str, fnD_tupL, fnD_tupT, fnD_lstL, fnD_lstT, fnD_all, idxD_L, idxD_T, idxD_S, slcD_L, slcD_T, itemsD_L, itemsD_T, asD_shr, asD_frs, asB_ok, okCall_t, noBrw_nil, noBrw_shr, noBrw_frs, tests_nil, tests_one, at0, at1, at2, lim_eq, List.set_cons_zero, List.set_cons_succ, List.getElem?_cons_zero, List.getElem?_cons_succ, List.length_cons, List.length_nil, List.map_cons, List.map_nil, Option.map_some, Option.map_none, if_true, if_false, ite_true, ite_false, reduceIte, reduceCtorEq, decide_true, decide_false, Nat.reduceAdd, Nat.reduceSub, Nat.reduceEqDiff, Int.reduceNeg, Int.reduceLT, Int.reduceLE, Bool.not_true, Bool.not_false, Nat.reduceLeDiff, and_self, true_and, and_true, Row.d, w_put_put, w_put_more, w_put_copy, w_put_tell, w_put_go, w_put_ask, w_put_stop, w_put_is, w_put_by, w_more_put, w_more_more, w_more_copy, w_more_tell, w_more_go, w_more_ask, w_more_stop, w_more_is, w_more_by, w_copy_put, w_copy_more, w_copy_copy, w_copy_tell, w_copy_go, w_copy_ask, w_copy_stop, w_copy_is, w_copy_by, w_tell_put, w_tell_more, w_tell_copy, w_tell_tell, w_tell_go, w_tell_ask, w_tell_stop, w_tell_is, w_tell_by, w_go_put, w_go_more, w_go_copy, w_go_tell, w_go_go, w_go_ask, w_go_stop, w_go_is, w_go_by, w_ask_put, w_ask_more, w_ask_copy, w_ask_tell, w_ask_go, w_ask_ask, w_ask_stop, w_ask_is, w_ask_by, w_stop_put, w_stop_more, w_stop_copy, w_stop_tell, w_stop_go, w_stop_ask, w_stop_stop, w_stop_is, w_stop_by, w_is_put, w_is_more, w_is_copy, w_is_tell, w_is_go, w_is_ask, w_is_stop, w_is_is, w_is_by, w_by_put, w_by_more, w_by_copy, w_by_tell, w_by_go, w_by_ask, w_by_stop, w_by_is, w_by_by, Bool.false_eq_true])).trans ?_
    exact (seq_rt (by simp only [runD, Dv.start, evSs_nil, evSs_cons, evS, evE, evL, evB, evAnd, evOr, evO, onOwn, guardO, setAll, thenS_nx, thenS_rt, thenS_ex, onV_ok, onV_ex, onB_ok, onB_ex, bindV_ok, bindV_ex, boolV_ok, bindA_ok, consA_ok, optI_none, optI_some, outcome_nx, outcome_shr, outcome_frs, outcome_ex, setV_shr, setV_frs, binD_add, binD_addT, binD_addL, binD_sub, binD_mulr, binD_mull, binD_fdiv', binD_mod', cmpD_lt, cmpD_le, cmpD_gt, cmpD_ge, cmpD_eqi, cmpD_nei, cmpD_is, cmpD_isn, cmpD_memL, cmpD_nmemL, cmpD_memT, cmpD_nmemT, isN_none, isN_int, isN_tup, isN_lst, isN_bool, isN_str, flat_int, flat_str, flat_none, flat_bool, fnD_lenL, fnD_lenT, fnD_lenS, fnD_intB, fnD_str, fnD_tupL, fnD_tupT, fnD_lstL, fnD_lstT, fnD_all, idxD_L, idxD_T, idxD_S, slcD_L, slcD_T, itemsD_L, itemsD_T, asD_shr, asD_frs, asB_ok, okCall_t, noBrw_nil, noBrw_shr, noBrw_frs, tests_nil, tests_one, at0, at1, at2, lim_eq, List.set_cons_zero, List.set_cons_succ, List.getElem?_cons_zero, List.getElem?_cons_succ, List.length_cons, List.length_nil, List.map_cons, List.map_nil, Option.map_some, Option.map_none, if_true, if_false, ite_true, ite_false, reduceIte, reduceCtorEq, decide_true, decide_false, Nat.reduceAdd, Nat.reduceSub, Nat.reduceEqDiff, Int.reduceNeg, Int.reduceLT, Int.reduceLE, Bool.not_true, Bool.not_false, Nat.reduceLeDiff, and_self, true_and, and_true, Row.d, w_put_put, w_put_more, w_put_copy, w_put_tell, w_put_go, w_put_ask, w_put_stop, w_put_is, w_put_by, w_more_put, w_more_more, w_more_copy, w_more_tell, w_more_go, w_more_ask, w_more_stop, w_more_is, w_more_by, w_copy_put, w_copy_more, w_copy_copy, w_copy_tell, w_copy_go, w_copy_ask, w_copy_stop, w_copy_is, w_copy_by, w_tell_put, w_tell_more, w_tell_copy, w_tell_tell, w_tell_go, w_tell_ask, w_tell_stop, w_tell_is, w_tell_by, w_go_put, w_go_more, w_go_copy, w_go_tell, w_go_go, w_go_ask, w_go_stop, w_go_is, w_go_by, w_ask_put, w_ask_more, w_ask_copy, w_ask_tell, w_ask_go, w_ask_ask, w_ask_stop, w_ask_is, w_ask_by, w_stop_put, w_stop_more, w_stop_copy, w_stop_tell, w_stop_go, w_stop_ask, w_stop_stop, w_stop_is, w_stop_by, w_is_put, w_is_more, w_is_copy, w_is_tell, w_is_go, w_is_ask, w_is_stop, w_is_is, w_is_by, w_by_put, w_by_more, w_by_copy, w_by_tell, w_by_go, w_by_ask, w_by_stop, w_by_is, w_by_by, el, Nat.reduceLeDiff]; rfl)).trans rfl
  | ask b x =>
    have hb : b < ns.length := by rw [hn']; exact hr.1
    have eb := iD_at hb
    have el : L2.atI [PyData.str "ask", .int (b : Int), .int (x : Int)] (-1) = some (.int x) := rfl
    iterate 2 refine (seq (st' := [some (false, p.d), some (false, stD (i, ns)), some (false, .int i), some (false, .tuple (iD ns)), some (false, (Row.ask b x).d), none]) (by simp only [runD, Dv.start, evSs_nil, evSs_cons, evS, evE, evL, evB, evAnd, evOr, evO, onOwn, guardO, setAll, thenS_nx, thenS_rt, thenS_ex, onV_ok, onV_ex, onB_ok, onB_ex, bindV_ok, bindV_ex, boolV_ok, bindA_ok, consA_ok, optI_none, optI_some, outcome_nx, outcome_shr, outcome_frs, outcome_ex, setV_shr, setV_frs, binD_add, binD_addT, binD_addL, binD_sub, binD_mulr, binD_mull, binD_fdiv', binD_mod', cmpD_lt, cmpD_le, cmpD_gt, cmpD_ge, cmpD_eqi, cmpD_nei, cmpD_is, cmpD_isn, cmpD_memL, cmpD_nmemL, cmpD_memT, cmpD_nmemT, isN_none, isN_int, isN_tup, isN_lst, isN_bool, isN_str, flat_int, flat_str, flat_none, flat_bool, fnD_lenL, fnD_lenT, fnD_lenS, fnD_intB, fnD_str, fnD_tupL, fnD_tupT, fnD_lstL, fnD_lstT, fnD_all, idxD_L, idxD_T, idxD_S, slcD_L, slcD_T, itemsD_L, itemsD_T, asD_shr, asD_frs, asB_ok, okCall_t, noBrw_nil, noBrw_shr, noBrw_frs, tests_nil, tests_one, at0, at1, at2, lim_eq, List.set_cons_zero, List.set_cons_succ, List.getElem?_cons_zero, List.getElem?_cons_succ, List.length_cons, List.length_nil, List.map_cons, List.map_nil, Option.map_some, Option.map_none, if_true, if_false, ite_true, ite_false, reduceIte, reduceCtorEq, decide_true, decide_false, Nat.reduceAdd, Nat.reduceSub, Nat.reduceEqDiff, Int.reduceNeg, Int.reduceLT, Int.reduceLE, Bool.not_true, Bool.not_false, Nat.reduceLeDiff, and_self, true_and, and_true, Row.d, w_put_put, w_put_more, w_put_copy, w_put_tell, w_put_go, w_put_ask, w_put_stop, w_put_is, w_put_by, w_more_put, w_more_more, w_more_copy, w_more_tell, w_more_go, w_more_ask, w_more_stop, w_more_is, w_more_by, w_copy_put, w_copy_more, w_copy_copy, w_copy_tell, w_copy_go, w_copy_ask, w_copy_stop, w_copy_is, w_copy_by, w_tell_put, w_tell_more, w_tell_copy, w_tell_tell, w_tell_go, w_tell_ask, w_tell_stop, w_tell_is, w_tell_by, w_go_put, w_go_more, w_go_copy, w_go_tell, w_go_go, w_go_ask, w_go_stop, w_go_is, w_go_by, w_ask_put, w_ask_more, w_ask_copy, w_ask_tell, w_ask_go, w_ask_ask, w_ask_stop, w_ask_is, w_ask_by, w_stop_put, w_stop_more, w_stop_copy, w_stop_tell, w_stop_go, w_stop_ask, w_stop_stop, w_stop_is, w_stop_by, w_is_put, w_is_more, w_is_copy, w_is_tell, w_is_go, w_is_ask, w_is_stop, w_is_is, w_is_by, w_by_put, w_by_more, w_by_copy, w_by_tell, w_by_go, w_by_ask, w_by_stop, w_by_is, w_by_by, Bool.false_eq_true])).trans ?_
    by_cases hz : ns.getD b 0 = 0
    · have hz' : (((ns.getD b 0 : Nat) : Int) == 0) = true := by rw [hz]; rfl
      refine (seq_rt (d := pairD (some (x, ns), none)) (by simp only [runD, Dv.start, evSs_nil, evSs_cons, evS, evE, evL, evB, evAnd, evOr, evO, onOwn, guardO, setAll, thenS_nx, thenS_rt, thenS_ex, onV_ok, onV_ex, onB_ok, onB_ex, bindV_ok, bindV_ex, boolV_ok, bindA_ok, consA_ok, optI_none, optI_some, outcome_nx, outcome_shr, outcome_frs, outcome_ex, setV_shr, setV_frs, binD_add, binD_addT, binD_addL, binD_sub, binD_mulr, binD_mull, binD_fdiv', binD_mod', cmpD_lt, cmpD_le, cmpD_gt, cmpD_ge, cmpD_eqi, cmpD_nei, cmpD_is, cmpD_isn, cmpD_memL, cmpD_nmemL, cmpD_memT, cmpD_nmemT, isN_none, isN_int, isN_tup, isN_lst, isN_bool, isN_str, flat_int, flat_str, flat_none, flat_bool, fnD_lenL, fnD_lenT, fnD_lenS, fnD_intB, fnD_str, fnD_tupL, fnD_tupT, fnD_lstL, fnD_lstT, fnD_all, idxD_L, idxD_T, idxD_S, slcD_L, slcD_T, itemsD_L, itemsD_T, asD_shr, asD_frs, asB_ok, okCall_t, noBrw_nil, noBrw_shr, noBrw_frs, tests_nil, tests_one, at0, at1, at2, lim_eq, List.set_cons_zero, List.set_cons_succ, List.getElem?_cons_zero, List.getElem?_cons_succ, List.length_cons, List.length_nil, List.map_cons, List.map_nil, Option.map_some, Option.map_none, if_true, if_false, ite_true, ite_false, reduceIte, reduceCtorEq, decide_true, decide_false, Nat.reduceAdd, Nat.reduceSub, Nat.reduceEqDiff, Int.reduceNeg, Int.reduceLT, Int.reduceLE, Bool.not_true, Bool.not_false, Nat.reduceLeDiff, and_self, true_and, and_true, Row.d, w_put_put, w_put_more, w_put_copy, w_put_tell, w_put_go, w_put_ask, w_put_stop, w_put_is, w_put_by, w_more_put, w_more_more, w_more_copy, w_more_tell, w_more_go, w_more_ask, w_more_stop, w_more_is, w_more_by, w_copy_put, w_copy_more, w_copy_copy, w_copy_tell, w_copy_go, w_copy_ask, w_copy_stop, w_copy_is, w_copy_by, w_tell_put, w_tell_more, w_tell_copy, w_tell_tell, w_tell_go, w_tell_ask, w_tell_stop, w_tell_is, w_tell_by, w_go_put, w_go_more, w_go_copy, w_go_tell, w_go_go, w_go_ask, w_go_stop, w_go_is, w_go_by, w_ask_put, w_ask_more, w_ask_copy, w_ask_tell, w_ask_go, w_ask_ask, w_ask_stop, w_ask_is, w_ask_by, w_stop_put, w_stop_more, w_stop_copy, w_stop_tell, w_stop_go, w_stop_ask, w_stop_stop, w_stop_is, w_stop_by, w_is_put, w_is_more, w_is_copy, w_is_tell, w_is_go, w_is_ask, w_is_stop, w_is_is, w_is_by, w_by_put, w_by_more, w_by_copy, w_by_tell, w_by_go, w_by_ask, w_by_stop, w_by_is, w_by_by, eb, hz', el, Nat.reduceLeDiff, Bool.false_eq_true]; rfl)).trans ?_
      show _ = some (SO.rt .shr (pairD (some (if ns.getD b 0 = 0 then x else i + 1, ns), none)))
      rw [if_pos hz]
    · have hz' : (((ns.getD b 0 : Nat) : Int) == 0) = false := by rw [beq_eq_false_iff_ne]; omega
      iterate 4 refine (seq (st' := [some (false, p.d), some (false, stD (i, ns)), some (false, .int i), some (false, .tuple (iD ns)), some (false, (Row.ask b x).d), none]) (by simp only [runD, Dv.start, evSs_nil, evSs_cons, evS, evE, evL, evB, evAnd, evOr, evO, onOwn, guardO, setAll, thenS_nx, thenS_rt, thenS_ex, onV_ok, onV_ex, onB_ok, onB_ex, bindV_ok, bindV_ex, boolV_ok, bindA_ok, consA_ok, optI_none, optI_some, outcome_nx, outcome_shr, outcome_frs, outcome_ex, setV_shr, setV_frs, binD_add, binD_addT, binD_addL, binD_sub, binD_mulr, binD_mull, binD_fdiv', binD_mod', cmpD_lt, cmpD_le, cmpD_gt, cmpD_ge, cmpD_eqi, cmpD_nei, cmpD_is, cmpD_isn, cmpD_memL, cmpD_nmemL, cmpD_memT, cmpD_nmemT, isN_none, isN_int, isN_tup, isN_lst, isN_bool, isN_str, flat_int, flat_str, flat_none, flat_bool, fnD_lenL, fnD_lenT, fnD_lenS, fnD_intB, fnD_str, fnD_tupL, fnD_tupT, fnD_lstL, fnD_lstT, fnD_all, idxD_L, idxD_T, idxD_S, slcD_L, slcD_T, itemsD_L, itemsD_T, asD_shr, asD_frs, asB_ok, okCall_t, noBrw_nil, noBrw_shr, noBrw_frs, tests_nil, tests_one, at0, at1, at2, lim_eq, List.set_cons_zero, List.set_cons_succ, List.getElem?_cons_zero, List.getElem?_cons_succ, List.length_cons, List.length_nil, List.map_cons, List.map_nil, Option.map_some, Option.map_none, if_true, if_false, ite_true, ite_false, reduceIte, reduceCtorEq, decide_true, decide_false, Nat.reduceAdd, Nat.reduceSub, Nat.reduceEqDiff, Int.reduceNeg, Int.reduceLT, Int.reduceLE, Bool.not_true, Bool.not_false, Nat.reduceLeDiff, and_self, true_and, and_true, Row.d, w_put_put, w_put_more, w_put_copy, w_put_tell, w_put_go, w_put_ask, w_put_stop, w_put_is, w_put_by, w_more_put, w_more_more, w_more_copy, w_more_tell, w_more_go, w_more_ask, w_more_stop, w_more_is, w_more_by, w_copy_put, w_copy_more, w_copy_copy, w_copy_tell, w_copy_go, w_copy_ask, w_copy_stop, w_copy_is, w_copy_by, w_tell_put, w_tell_more, w_tell_copy, w_tell_tell, w_tell_go, w_tell_ask, w_tell_stop, w_tell_is, w_tell_by, w_go_put, w_go_more, w_go_copy, w_go_tell, w_go_go, w_go_ask, w_go_stop, w_go_is, w_go_by, w_ask_put, w_ask_more, w_ask_copy, w_ask_tell, w_ask_go, w_ask_ask, w_ask_stop, w_ask_is, w_ask_by, w_stop_put, w_stop_more, w_stop_copy, w_stop_tell, w_stop_go, w_stop_ask, w_stop_stop, w_stop_is, w_stop_by, w_is_put, w_is_more, w_is_copy, w_is_tell, w_is_go, w_is_ask, w_is_stop, w_is_is, w_is_by, w_by_put, w_by_more, w_by_copy, w_by_tell, w_by_go, w_by_ask, w_by_stop, w_by_is, w_by_by, eb, hz', Bool.false_eq_true])).trans ?_
      refine (seq_rt (d := pairD (some (i + 1, ns), none)) (by simp only [runD, Dv.start, evSs_nil, evSs_cons, evS, evE, evL, evB, evAnd, evOr, evO, onOwn, guardO, setAll, thenS_nx, thenS_rt, thenS_ex, onV_ok, onV_ex, onB_ok, onB_ex, bindV_ok, bindV_ex, boolV_ok, bindA_ok, consA_ok, optI_none, optI_some, outcome_nx, outcome_shr, outcome_frs, outcome_ex, setV_shr, setV_frs, binD_add, binD_addT, binD_addL, binD_sub, binD_mulr, binD_mull, binD_fdiv', binD_mod', cmpD_lt, cmpD_le, cmpD_gt, cmpD_ge, cmpD_eqi, cmpD_nei, cmpD_is, cmpD_isn, cmpD_memL, cmpD_nmemL, cmpD_memT, cmpD_nmemT, isN_none, isN_int, isN_tup, isN_lst, isN_bool, isN_str, flat_int, flat_str, flat_none, flat_bool, fnD_lenL, fnD_lenT, fnD_lenS, fnD_intB, fnD_str, fnD_tupL, fnD_tupT, fnD_lstL, fnD_lstT, fnD_all, idxD_L, idxD_T, idxD_S, slcD_L, slcD_T, itemsD_L, itemsD_T, asD_shr, asD_frs, asB_ok, okCall_t, noBrw_nil, noBrw_shr, noBrw_frs, tests_nil, tests_one, at0, at1, at2, lim_eq, List.set_cons_zero, List.set_cons_succ, List.getElem?_cons_zero, List.getElem?_cons_succ, List.length_cons, List.length_nil, List.map_cons, List.map_nil, Option.map_some, Option.map_none, if_true, if_false, ite_true, ite_false, reduceIte, reduceCtorEq, decide_true, decide_false, Nat.reduceAdd, Nat.reduceSub, Nat.reduceEqDiff, Int.reduceNeg, Int.reduceLT, Int.reduceLE, Bool.not_true, Bool.not_false, Nat.reduceLeDiff, and_self, true_and, and_true, Nat.reduceLeDiff]; rfl)).trans ?_
      show _ = some (SO.rt .shr (pairD (some (if ns.getD b 0 = 0 then x else i + 1, ns), none)))
      rw [if_neg hz]
  | put b v =>
    have hb : b < ns.length := by rw [hn']; exact hr.1
    have e := pn (v := v) hb
    iterate 3 refine (seq (st' := [some (false, p.d), some (false, stD (i, ns)), some (false, .int i), some (false, .tuple (iD ns)), some (false, (Row.put b v).d), none]) (by simp only [runD, Dv.start, evSs_nil, evSs_cons, evS, evE, evL, evB, evAnd, evOr, evO, onOwn, guardO, setAll, thenS_nx, thenS_rt, thenS_ex, onV_ok, onV_ex, onB_ok, onB_ex, bindV_ok, bindV_ex, boolV_ok, bindA_ok, consA_ok, optI_none, optI_some, outcome_nx, outcome_shr, outcome_frs, outcome_ex, setV_shr, setV_frs, binD_add, binD_addT, binD_addL, binD_sub, binD_mulr, binD_mull, binD_fdiv', binD_mod', cmpD_lt, cmpD_le, cmpD_gt, cmpD_ge, cmpD_eqi, cmpD_nei, cmpD_is, cmpD_isn, cmpD_memL, cmpD_nmemL, cmpD_memT, cmpD_nmemT, isN_none, isN_int, isN_tup, isN_lst, isN_bool, isN_str, flat_int, flat_str, flat_none, flat_bool, fnD_lenL, fnD_lenT, fnD_lenS, fnD_intB, fnD_str, fnD_tupL, fnD_tupT, fnD_lstL, fnD_lstT, fnD_all, idxD_L, idxD_T, idxD_S, slcD_L, slcD_T, itemsD_L, itemsD_T, asD_shr, asD_frs, asB_ok, okCall_t, noBrw_nil, noBrw_shr, noBrw_frs, tests_nil, tests_one, at0, at1, at2, lim_eq, List.set_cons_zero, List.set_cons_succ, List.getElem?_cons_zero, List.getElem?_cons_succ, List.length_cons, List.length_nil, List.map_cons, List.map_nil, Option.map_some, Option.map_none, if_true, if_false, ite_true, ite_false, reduceIte, reduceCtorEq, decide_true, decide_false, Nat.reduceAdd, Nat.reduceSub, Nat.reduceEqDiff, Int.reduceNeg, Int.reduceLT, Int.reduceLE, Bool.not_true, Bool.not_false, Nat.reduceLeDiff, and_self, true_and, and_true, Row.d, w_put_put, w_put_more, w_put_copy, w_put_tell, w_put_go, w_put_ask, w_put_stop, w_put_is, w_put_by, w_more_put, w_more_more, w_more_copy, w_more_tell, w_more_go, w_more_ask, w_more_stop, w_more_is, w_more_by, w_copy_put, w_copy_more, w_copy_copy, w_copy_tell, w_copy_go, w_copy_ask, w_copy_stop, w_copy_is, w_copy_by, w_tell_put, w_tell_more, w_tell_copy, w_tell_tell, w_tell_go, w_tell_ask, w_tell_stop, w_tell_is, w_tell_by, w_go_put, w_go_more, w_go_copy, w_go_tell, w_go_go, w_go_ask, w_go_stop, w_go_is, w_go_by, w_ask_put, w_ask_more, w_ask_copy, w_ask_tell, w_ask_go, w_ask_ask, w_ask_stop, w_ask_is, w_ask_by, w_stop_put, w_stop_more, w_stop_copy, w_stop_tell, w_stop_go, w_stop_ask, w_stop_stop, w_stop_is, w_stop_by, w_is_put, w_is_more, w_is_copy, w_is_tell, w_is_go, w_is_ask, w_is_stop, w_is_is, w_is_by, w_by_put, w_by_more, w_by_copy, w_by_tell, w_by_go, w_by_ask, w_by_stop, w_by_is, w_by_by, Bool.false_eq_true])).trans ?_
    iterate 3 refine (seq (st' := [some (false, p.d), some (false, stD (i, ns)), some (false, .int i), some (false, .tuple (iD (ns.set b v))), some (false, (Row.put b v).d), none]) (by simp only [runD, Dv.start, evSs_nil, evSs_cons, evS, evE, evL, evB, evAnd, evOr, evO, onOwn, guardO, setAll, thenS_nx, thenS_rt, thenS_ex, onV_ok, onV_ex, onB_ok, onB_ex, bindV_ok, bindV_ex, boolV_ok, bindA_ok, consA_ok, optI_none, optI_some, outcome_nx, outcome_shr, outcome_frs, outcome_ex, setV_shr, setV_frs, binD_add, binD_addT, binD_addL, binD_sub, binD_mulr, binD_mull, binD_fdiv', binD_mod', cmpD_lt, cmpD_le, cmpD_gt, cmpD_ge, cmpD_eqi, cmpD_nei, cmpD_is, cmpD_isn, cmpD_memL, cmpD_nmemL, cmpD_memT, cmpD_nmemT, isN_none, isN_int, isN_tup, isN_lst, isN_bool, isN_str, flat_int, flat_str, flat_none, flat_bool, fnD_lenL, fnD_lenT, fnD_lenS, fnD_intB, fnD_str, fnD_tupL, fnD_tupT, fnD_lstL, fnD_lstT, fnD_all, idxD_L, idxD_T, idxD_S, slcD_L, slcD_T, itemsD_L, itemsD_T, asD_shr, asD_frs, asB_ok, okCall_t, noBrw_nil, noBrw_shr, noBrw_frs, tests_nil, tests_one, at0, at1, at2, lim_eq, List.set_cons_zero, List.set_cons_succ, List.getElem?_cons_zero, List.getElem?_cons_succ, List.length_cons, List.length_nil, List.map_cons, List.map_nil, Option.map_some, Option.map_none, if_true, if_false, ite_true, ite_false, reduceIte, reduceCtorEq, decide_true, decide_false, Nat.reduceAdd, Nat.reduceSub, Nat.reduceEqDiff, Int.reduceNeg, Int.reduceLT, Int.reduceLE, Bool.not_true, Bool.not_false, Nat.reduceLeDiff, and_self, true_and, and_true, Row.d, w_put_put, w_put_more, w_put_copy, w_put_tell, w_put_go, w_put_ask, w_put_stop, w_put_is, w_put_by, w_more_put, w_more_more, w_more_copy, w_more_tell, w_more_go, w_more_ask, w_more_stop, w_more_is, w_more_by, w_copy_put, w_copy_more, w_copy_copy, w_copy_tell, w_copy_go, w_copy_ask, w_copy_stop, w_copy_is, w_copy_by, w_tell_put, w_tell_more, w_tell_copy, w_tell_tell, w_tell_go, w_tell_ask, w_tell_stop, w_tell_is, w_tell_by, w_go_put, w_go_more, w_go_copy, w_go_tell, w_go_go, w_go_ask, w_go_stop, w_go_is, w_go_by, w_ask_put, w_ask_more, w_ask_copy, w_ask_tell, w_ask_go, w_ask_ask, w_ask_stop, w_ask_is, w_ask_by, w_stop_put, w_stop_more, w_stop_copy, w_stop_tell, w_stop_go, w_stop_ask, w_stop_stop, w_stop_is, w_stop_by, w_is_put, w_is_more, w_is_copy, w_is_tell, w_is_go, w_is_ask, w_is_stop, w_is_is, w_is_by, w_by_put, w_by_more, w_by_copy, w_by_tell, w_by_go, w_by_ask, w_by_stop, w_by_is, w_by_by, e, Bool.false_eq_true])).trans ?_
    exact (seq_rt (by simp only [runD, Dv.start, evSs_nil, evSs_cons, evS, evE, evL, evB, evAnd, evOr, evO, onOwn, guardO, setAll, thenS_nx, thenS_rt, thenS_ex, onV_ok, onV_ex, onB_ok, onB_ex, bindV_ok, bindV_ex, boolV_ok, bindA_ok, consA_ok, optI_none, optI_some, outcome_nx, outcome_shr, outcome_frs, outcome_ex, setV_shr, setV_frs, binD_add, binD_addT, binD_addL, binD_sub, binD_mulr, binD_mull, binD_fdiv', binD_mod', cmpD_lt, cmpD_le, cmpD_gt, cmpD_ge, cmpD_eqi, cmpD_nei, cmpD_is, cmpD_isn, cmpD_memL, cmpD_nmemL, cmpD_memT, cmpD_nmemT, isN_none, isN_int, isN_tup, isN_lst, isN_bool, isN_str, flat_int, flat_str, flat_none, flat_bool, fnD_lenL, fnD_lenT, fnD_lenS, fnD_intB, fnD_str, fnD_tupL, fnD_tupT, fnD_lstL, fnD_lstT, fnD_all, idxD_L, idxD_T, idxD_S, slcD_L, slcD_T, itemsD_L, itemsD_T, asD_shr, asD_frs, asB_ok, okCall_t, noBrw_nil, noBrw_shr, noBrw_frs, tests_nil, tests_one, at0, at1, at2, lim_eq, List.set_cons_zero, List.set_cons_succ, List.getElem?_cons_zero, List.getElem?_cons_succ, List.length_cons, List.length_nil, List.map_cons, List.map_nil, Option.map_some, Option.map_none, if_true, if_false, ite_true, ite_false, reduceIte, reduceCtorEq, decide_true, decide_false, Nat.reduceAdd, Nat.reduceSub, Nat.reduceEqDiff, Int.reduceNeg, Int.reduceLT, Int.reduceLE, Bool.not_true, Bool.not_false, Nat.reduceLeDiff, and_self, true_and, and_true, Nat.reduceLeDiff]; rfl)).trans rfl
  | copy b c =>
    have hb : b < ns.length := by rw [hn']; exact hr.1
    have hc : c < ns.length := by rw [hn']; exact hr.2
    have ec := iD_at hc
    have e := pn (v := ns.getD c 0) hb
    iterate 4 refine (seq (st' := [some (false, p.d), some (false, stD (i, ns)), some (false, .int i), some (false, .tuple (iD ns)), some (false, (Row.copy b c).d), none]) (by simp only [runD, Dv.start, evSs_nil, evSs_cons, evS, evE, evL, evB, evAnd, evOr, evO, onOwn, guardO, setAll, thenS_nx, thenS_rt, thenS_ex, onV_ok, onV_ex, onB_ok, onB_ex, bindV_ok, bindV_ex, boolV_ok, bindA_ok, consA_ok, optI_none, optI_some, outcome_nx, outcome_shr, outcome_frs, outcome_ex, setV_shr, setV_frs, binD_add, binD_addT, binD_addL, binD_sub, binD_mulr, binD_mull, binD_fdiv', binD_mod', cmpD_lt, cmpD_le, cmpD_gt, cmpD_ge, cmpD_eqi, cmpD_nei, cmpD_is, cmpD_isn, cmpD_memL, cmpD_nmemL, cmpD_memT, cmpD_nmemT, isN_none, isN_int, isN_tup, isN_lst, isN_bool, isN_str, flat_int, flat_str, flat_none, flat_bool, fnD_lenL, fnD_lenT, fnD_lenS, fnD_intB, fnD_str, fnD_tupL, fnD_tupT, fnD_lstL, fnD_lstT, fnD_all, idxD_L, idxD_T, idxD_S, slcD_L, slcD_T, itemsD_L, itemsD_T, asD_shr, asD_frs, asB_ok, okCall_t, noBrw_nil, noBrw_shr, noBrw_frs, tests_nil, tests_one, at0, at1, at2, lim_eq, List.set_cons_zero, List.set_cons_succ, List.getElem?_cons_zero, List.getElem?_cons_succ, List.length_cons, List.length_nil, List.map_cons, List.map_nil, Option.map_some, Option.map_none, if_true, if_false, ite_true, ite_false, reduceIte, reduceCtorEq, decide_true, decide_false, Nat.reduceAdd, Nat.reduceSub, Nat.reduceEqDiff, Int.reduceNeg, Int.reduceLT, Int.reduceLE, Bool.not_true, Bool.not_false, Nat.reduceLeDiff, and_self, true_and, and_true, Row.d, w_put_put, w_put_more, w_put_copy, w_put_tell, w_put_go, w_put_ask, w_put_stop, w_put_is, w_put_by, w_more_put, w_more_more, w_more_copy, w_more_tell, w_more_go, w_more_ask, w_more_stop, w_more_is, w_more_by, w_copy_put, w_copy_more, w_copy_copy, w_copy_tell, w_copy_go, w_copy_ask, w_copy_stop, w_copy_is, w_copy_by, w_tell_put, w_tell_more, w_tell_copy, w_tell_tell, w_tell_go, w_tell_ask, w_tell_stop, w_tell_is, w_tell_by, w_go_put, w_go_more, w_go_copy, w_go_tell, w_go_go, w_go_ask, w_go_stop, w_go_is, w_go_by, w_ask_put, w_ask_more, w_ask_copy, w_ask_tell, w_ask_go, w_ask_ask, w_ask_stop, w_ask_is, w_ask_by, w_stop_put, w_stop_more, w_stop_copy, w_stop_tell, w_stop_go, w_stop_ask, w_stop_stop, w_stop_is, w_stop_by, w_is_put, w_is_more, w_is_copy, w_is_tell, w_is_go, w_is_ask, w_is_stop, w_is_is, w_is_by, w_by_put, w_by_more, w_by_copy, w_by_tell, w_by_go, w_by_ask, w_by_stop, w_by_is, w_by_by, Bool.false_eq_true])).trans ?_
    iterate 2 refine (seq (st' := [some (false, p.d), some (false, stD (i, ns)), some (false, .int i), some (false, .tuple (iD (ns.set b (ns.getD c 0)))), some (false, (Row.copy b c).d), none]) (by simp only [runD, Dv.start, evSs_nil, evSs_cons, evS, evE, evL, evB, evAnd, evOr, evO, onOwn, guardO, setAll, thenS_nx, thenS_rt, thenS_ex, onV_ok, onV_ex, onB_ok, onB_ex, bindV_ok, bindV_ex, boolV_ok, bindA_ok, consA_ok, optI_none, optI_some, outcome_nx, outcome_shr, outcome_frs, outcome_ex, setV_shr, setV_frs, binD_add, binD_addT, binD_addL, binD_sub, binD_mulr, binD_mull, binD_fdiv', binD_mod', cmpD_lt, cmpD_le, cmpD_gt, cmpD_ge, cmpD_eqi, cmpD_nei, cmpD_is, cmpD_isn, cmpD_memL, cmpD_nmemL, cmpD_memT, cmpD_nmemT, isN_none, isN_int, isN_tup, isN_lst, isN_bool, isN_str, flat_int, flat_str, flat_none, flat_bool, fnD_lenL, fnD_lenT, fnD_lenS, fnD_intB, fnD_str, fnD_tupL, fnD_tupT, fnD_lstL, fnD_lstT, fnD_all, idxD_L, idxD_T, idxD_S, slcD_L, slcD_T, itemsD_L, itemsD_T, asD_shr, asD_frs, asB_ok, okCall_t, noBrw_nil, noBrw_shr, noBrw_frs, tests_nil, tests_one, at0, at1, at2, lim_eq, List.set_cons_zero, List.set_cons_succ, List.getElem?_cons_zero, List.getElem?_cons_succ, List.length_cons, List.length_nil, List.map_cons, List.map_nil, Option.map_some, Option.map_none, if_true, if_false, ite_true, ite_false, reduceIte, reduceCtorEq, decide_true, decide_false, Nat.reduceAdd, Nat.reduceSub, Nat.reduceEqDiff, Int.reduceNeg, Int.reduceLT, Int.reduceLE, Bool.not_true, Bool.not_false, Nat.reduceLeDiff, and_self, true_and, and_true, Row.d, w_put_put, w_put_more, w_put_copy, w_put_tell, w_put_go, w_put_ask, w_put_stop, w_put_is, w_put_by, w_more_put, w_more_more, w_more_copy, w_more_tell, w_more_go, w_more_ask, w_more_stop, w_more_is, w_more_by, w_copy_put, w_copy_more, w_copy_copy, w_copy_tell, w_copy_go, w_copy_ask, w_copy_stop, w_copy_is, w_copy_by, w_tell_put, w_tell_more, w_tell_copy, w_tell_tell, w_tell_go, w_tell_ask, w_tell_stop, w_tell_is, w_tell_by, w_go_put, w_go_more, w_go_copy, w_go_tell, w_go_go, w_go_ask, w_go_stop, w_go_is, w_go_by, w_ask_put, w_ask_more, w_ask_copy, w_ask_tell, w_ask_go, w_ask_ask, w_ask_stop, w_ask_is, w_ask_by, w_stop_put, w_stop_more, w_stop_copy, w_stop_tell, w_stop_go, w_stop_ask, w_stop_stop, w_stop_is, w_stop_by, w_is_put, w_is_more, w_is_copy, w_is_tell, w_is_go, w_is_ask, w_is_stop, w_is_is, w_is_by, w_by_put, w_by_more, w_by_copy, w_by_tell, w_by_go, w_by_ask, w_by_stop, w_by_is, w_by_by, ec, e, Bool.false_eq_true])).trans ?_
    exact (seq_rt (by simp only [runD, Dv.start, evSs_nil, evSs_cons, evS, evE, evL, evB, evAnd, evOr, evO, onOwn, guardO, setAll, thenS_nx, thenS_rt, thenS_ex, onV_ok, onV_ex, onB_ok, onB_ex, bindV_ok, bindV_ex, boolV_ok, bindA_ok, consA_ok, optI_none, optI_some, outcome_nx, outcome_shr, outcome_frs, outcome_ex, setV_shr, setV_frs, binD_add, binD_addT, binD_addL, binD_sub, binD_mulr, binD_mull, binD_fdiv', binD_mod', cmpD_lt, cmpD_le, cmpD_gt, cmpD_ge, cmpD_eqi, cmpD_nei, cmpD_is, cmpD_isn, cmpD_memL, cmpD_nmemL, cmpD_memT, cmpD_nmemT, isN_none, isN_int, isN_tup, isN_lst, isN_bool, isN_str, flat_int, flat_str, flat_none, flat_bool, fnD_lenL, fnD_lenT, fnD_lenS, fnD_intB, fnD_str, fnD_tupL, fnD_tupT, fnD_lstL, fnD_lstT, fnD_all, idxD_L, idxD_T, idxD_S, slcD_L, slcD_T, itemsD_L, itemsD_T, asD_shr, asD_frs, asB_ok, okCall_t, noBrw_nil, noBrw_shr, noBrw_frs, tests_nil, tests_one, at0, at1, at2, lim_eq, List.set_cons_zero, List.set_cons_succ, List.getElem?_cons_zero, List.getElem?_cons_succ, List.length_cons, List.length_nil, List.map_cons, List.map_nil, Option.map_some, Option.map_none, if_true, if_false, ite_true, ite_false, reduceIte, reduceCtorEq, decide_true, decide_false, Nat.reduceAdd, Nat.reduceSub, Nat.reduceEqDiff, Int.reduceNeg, Int.reduceLT, Int.reduceLE, Bool.not_true, Bool.not_false, Nat.reduceLeDiff, and_self, true_and, and_true, Nat.reduceLeDiff]; rfl)).trans rfl
  | more b =>
    have hb : b < ns.length := by rw [hn']; exact hr
    have eb := iD_at hb
    have e := pn (v := (ns.getD b 0 + 1) % (p.most + 1)) hb
    have hbm : ns.getD b 0 ≤ p.most := by
      rw [List.getD_eq_getElem?_getD, List.getElem?_eq_getElem hb]
      exact hmost _ (List.getElem_mem hb)
    have pick : L2.atI [PyData.int (((ns.getD b 0 : Nat) : Int) + 1), .int 0] (if decide ((p.most : Int) < ((ns.getD b 0 : Nat) : Int) + 1) = true then 1 else 0) = some (.int (((ns.getD b 0 + 1) % (p.most + 1) : Nat) : Int)) := by
      by_cases q : ns.getD b 0 = p.most
      · rw [if_pos (by rw [decide_eq_true_eq]; omega), q, Nat.mod_self]
        rfl
      · rw [if_neg (by rw [decide_eq_true_eq]; omega), Nat.mod_eq_of_lt (by omega)]
        rfl
    iterate 5 refine (seq (st' := [some (false, p.d), some (false, stD (i, ns)), some (false, .int i), some (false, .tuple (iD ns)), some (false, (Row.more b).d), none]) (by simp only [runD, Dv.start, evSs_nil, evSs_cons, evS, evE, evL, evB, evAnd, evOr, evO, onOwn, guardO, setAll, thenS_nx, thenS_rt, thenS_ex, onV_ok, onV_ex, onB_ok, onB_ex, bindV_ok, bindV_ex, boolV_ok, bindA_ok, consA_ok, optI_none, optI_some, outcome_nx, outcome_shr, outcome_frs, outcome_ex, setV_shr, setV_frs, binD_add, binD_addT, binD_addL, binD_sub, binD_mulr, binD_mull, binD_fdiv', binD_mod', cmpD_lt, cmpD_le, cmpD_gt, cmpD_ge, cmpD_eqi, cmpD_nei, cmpD_is, cmpD_isn, cmpD_memL, cmpD_nmemL, cmpD_memT, cmpD_nmemT, isN_none, isN_int, isN_tup, isN_lst, isN_bool, isN_str, flat_int, flat_str, flat_none, flat_bool, fnD_lenL, fnD_lenT, fnD_lenS, fnD_intB, fnD_str, fnD_tupL, fnD_tupT, fnD_lstL, fnD_lstT, fnD_all, idxD_L, idxD_T, idxD_S, slcD_L, slcD_T, itemsD_L, itemsD_T, asD_shr, asD_frs, asB_ok, okCall_t, noBrw_nil, noBrw_shr, noBrw_frs, tests_nil, tests_one, at0, at1, at2, lim_eq, List.set_cons_zero, List.set_cons_succ, List.getElem?_cons_zero, List.getElem?_cons_succ, List.length_cons, List.length_nil, List.map_cons, List.map_nil, Option.map_some, Option.map_none, if_true, if_false, ite_true, ite_false, reduceIte, reduceCtorEq, decide_true, decide_false, Nat.reduceAdd, Nat.reduceSub, Nat.reduceEqDiff, Int.reduceNeg, Int.reduceLT, Int.reduceLE, Bool.not_true, Bool.not_false, Nat.reduceLeDiff, and_self, true_and, and_true, Row.d, w_put_put, w_put_more, w_put_copy, w_put_tell, w_put_go, w_put_ask, w_put_stop, w_put_is, w_put_by, w_more_put, w_more_more, w_more_copy, w_more_tell, w_more_go, w_more_ask, w_more_stop, w_more_is, w_more_by, w_copy_put, w_copy_more, w_copy_copy, w_copy_tell, w_copy_go, w_copy_ask, w_copy_stop, w_copy_is, w_copy_by, w_tell_put, w_tell_more, w_tell_copy, w_tell_tell, w_tell_go, w_tell_ask, w_tell_stop, w_tell_is, w_tell_by, w_go_put, w_go_more, w_go_copy, w_go_tell, w_go_go, w_go_ask, w_go_stop, w_go_is, w_go_by, w_ask_put, w_ask_more, w_ask_copy, w_ask_tell, w_ask_go, w_ask_ask, w_ask_stop, w_ask_is, w_ask_by, w_stop_put, w_stop_more, w_stop_copy, w_stop_tell, w_stop_go, w_stop_ask, w_stop_stop, w_stop_is, w_stop_by, w_is_put, w_is_more, w_is_copy, w_is_tell, w_is_go, w_is_ask, w_is_stop, w_is_is, w_is_by, w_by_put, w_by_more, w_by_copy, w_by_tell, w_by_go, w_by_ask, w_by_stop, w_by_is, w_by_by, Bool.false_eq_true])).trans ?_
    refine (seq (st' := [some (false, p.d), some (false, stD (i, ns)), some (false, .int i), some (false, .tuple (iD (ns.set b ((ns.getD b 0 + 1) % (p.most + 1))))), some (false, (Row.more b).d), some (false, .int (((ns.getD b 0 : Nat) : Int) + 1))]) (by simp only [runD, Dv.start, evSs_nil, evSs_cons, evS, evE, evL, evB, evAnd, evOr, evO, onOwn, guardO, setAll, thenS_nx, thenS_rt, thenS_ex, onV_ok, onV_ex, onB_ok, onB_ex, bindV_ok, bindV_ex, boolV_ok, bindA_ok, consA_ok, optI_none, optI_some, outcome_nx, outcome_shr, outcome_frs, outcome_ex, setV_shr, setV_frs, binD_add, binD_addT, binD_addL, binD_sub, binD_mulr, binD_mull, binD_fdiv', binD_mod', cmpD_lt, cmpD_le, cmpD_gt, cmpD_ge, cmpD_eqi, cmpD_nei, cmpD_is, cmpD_isn, cmpD_memL, cmpD_nmemL, cmpD_memT, cmpD_nmemT, isN_none, isN_int, isN_tup, isN_lst, isN_bool, isN_str, flat_int, flat_str, flat_none, flat_bool, fnD_lenL, fnD_lenT, fnD_lenS, fnD_intB, fnD_str, fnD_tupL, fnD_tupT, fnD_lstL, fnD_lstT, fnD_all, idxD_L, idxD_T, idxD_S, slcD_L, slcD_T, itemsD_L, itemsD_T, asD_shr, asD_frs, asB_ok, okCall_t, noBrw_nil, noBrw_shr, noBrw_frs, tests_nil, tests_one, at0, at1, at2, lim_eq, List.set_cons_zero, List.set_cons_succ, List.getElem?_cons_zero, List.getElem?_cons_succ, List.length_cons, List.length_nil, List.map_cons, List.map_nil, Option.map_some, Option.map_none, if_true, if_false, ite_true, ite_false, reduceIte, reduceCtorEq, decide_true, decide_false, Nat.reduceAdd, Nat.reduceSub, Nat.reduceEqDiff, Int.reduceNeg, Int.reduceLT, Int.reduceLE, Bool.not_true, Bool.not_false, Nat.reduceLeDiff, and_self, true_and, and_true, Row.d, w_put_put, w_put_more, w_put_copy, w_put_tell, w_put_go, w_put_ask, w_put_stop, w_put_is, w_put_by, w_more_put, w_more_more, w_more_copy, w_more_tell, w_more_go, w_more_ask, w_more_stop, w_more_is, w_more_by, w_copy_put, w_copy_more, w_copy_copy, w_copy_tell, w_copy_go, w_copy_ask, w_copy_stop, w_copy_is, w_copy_by, w_tell_put, w_tell_more, w_tell_copy, w_tell_tell, w_tell_go, w_tell_ask, w_tell_stop, w_tell_is, w_tell_by, w_go_put, w_go_more, w_go_copy, w_go_tell, w_go_go, w_go_ask, w_go_stop, w_go_is, w_go_by, w_ask_put, w_ask_more, w_ask_copy, w_ask_tell, w_ask_go, w_ask_ask, w_ask_stop, w_ask_is, w_ask_by, w_stop_put, w_stop_more, w_stop_copy, w_stop_tell, w_stop_go, w_stop_ask, w_stop_stop, w_stop_is, w_stop_by, w_is_put, w_is_more, w_is_copy, w_is_tell, w_is_go, w_is_ask, w_is_stop, w_is_is, w_is_by, w_by_put, w_by_more, w_by_copy, w_by_tell, w_by_go, w_by_ask, w_by_stop, w_by_is, w_by_by, Prog.d, eb, pick, e, Nat.reduceLeDiff])).trans ?_
    exact (seq_rt (by simp only [runD, Dv.start, evSs_nil, evSs_cons, evS, evE, evL, evB, evAnd, evOr, evO, onOwn, guardO, setAll, thenS_nx, thenS_rt, thenS_ex, onV_ok, onV_ex, onB_ok, onB_ex, bindV_ok, bindV_ex, boolV_ok, bindA_ok, consA_ok, optI_none, optI_some, outcome_nx, outcome_shr, outcome_frs, outcome_ex, setV_shr, setV_frs, binD_add, binD_addT, binD_addL, binD_sub, binD_mulr, binD_mull, binD_fdiv', binD_mod', cmpD_lt, cmpD_le, cmpD_gt, cmpD_ge, cmpD_eqi, cmpD_nei, cmpD_is, cmpD_isn, cmpD_memL, cmpD_nmemL, cmpD_memT, cmpD_nmemT, isN_none, isN_int, isN_tup, isN_lst, isN_bool, isN_str, flat_int, flat_str, flat_none, flat_bool, fnD_lenL, fnD_lenT, fnD_lenS, fnD_intB, fnD_str, fnD_tupL, fnD_tupT, fnD_lstL, fnD_lstT, fnD_all, idxD_L, idxD_T, idxD_S, slcD_L, slcD_T, itemsD_L, itemsD_T, asD_shr, asD_frs, asB_ok, okCall_t, noBrw_nil, noBrw_shr, noBrw_frs, tests_nil, tests_one, at0, at1, at2, lim_eq, List.set_cons_zero, List.set_cons_succ, List.getElem?_cons_zero, List.getElem?_cons_succ, List.length_cons, List.length_nil, List.map_cons, List.map_nil, Option.map_some, Option.map_none, if_true, if_false, ite_true, ite_false, reduceIte, reduceCtorEq, decide_true, decide_false, Nat.reduceAdd, Nat.reduceSub, Nat.reduceEqDiff, Int.reduceNeg, Int.reduceLT, Int.reduceLE, Bool.not_true, Bool.not_false, Nat.reduceLeDiff, and_self, true_and, and_true, Nat.reduceLeDiff]; rfl)).trans rfl
end Law
namespace Law
open PySem Dv
theorem whole_ok {fu n : Nat} (i : Int) : run tab fu (n + 1) "_law_whole" [.int i] = some (.ok .shr (.bool true)) := by
  rw [run_law_whole]
  refine runD_rt rfl ?_
  unfold d_law_whole
  rw [show Dv.start _ _ = [some (false, .int i)] from rfl]
  exact (seq_rt (by simp only [runD, Dv.start, evSs_nil, evSs_cons, evS, evE, evL, evB, evAnd, evOr, evO, onOwn, guardO, setAll, thenS_nx, thenS_rt, thenS_ex, onV_ok, onV_ex, onB_ok, onB_ex, bindV_ok, bindV_ex, boolV_ok, bindA_ok, consA_ok, optI_none, optI_some, outcome_nx, outcome_shr, outcome_frs, outcome_ex, setV_shr, setV_frs, binD_add, binD_addT, binD_addL, binD_sub, binD_mulr, binD_mull, binD_fdiv', binD_mod', cmpD_lt, cmpD_le, cmpD_gt, cmpD_ge, cmpD_eqi, cmpD_nei, cmpD_is, cmpD_isn, cmpD_memL, cmpD_nmemL, cmpD_memT, cmpD_nmemT, isN_none, isN_int, isN_tup, isN_lst, isN_bool, isN_str, flat_int, flat_str, flat_none, flat_bool, fnD_lenL, fnD_lenT, fnD_lenS, fnD_intB, fnD_str, fnD_tupL, fnD_tupT, fnD_lstL, fnD_lstT, fnD_all, idxD_L, idxD_T, idxD_S, slcD_L, slcD_T, itemsD_L, itemsD_T, asD_shr, asD_frs, asB_ok, okCall_t, noBrw_nil, noBrw_shr, noBrw_frs, tests_nil, tests_one, at0, at1, at2, lim_eq, List.set_cons_zero, List.set_cons_succ, List.getElem?_cons_zero, List.getElem?_cons_succ, List.length_cons, List.length_nil, List.map_cons, List.map_nil, Option.map_some, Option.map_none, if_true, if_false, ite_true, ite_false, reduceIte, reduceCtorEq, decide_true, decide_false, Nat.reduceAdd, Nat.reduceSub, Nat.reduceEqDiff, Int.reduceNeg, Int.reduceLT, Int.reduceLE, Bool.not_true, Bool.not_false, Nat.reduceLeDiff, and_self, true_and, and_true, okTy, isInst, Bool.false_eq_true])).trans rfl
theorem cellD_fine (c : Option Nat) (n : Nat) : fine n (cellD c) := by
  cases c
  · exact fine_none n
  · exact fine_int n _
theorem numsD_fine (xs : List Nat) : fine 1 (numsD xs) := fine_tup fun d hd => by
  obtain ⟨n, _, rfl⟩ := List.mem_map.mp hd
  exact fine_int 0 _
theorem stD_fine (s : Nat × List Nat) : fine 2 (stD s) := fine_tup fun d hd => by
  simp only [List.mem_cons, List.not_mem_nil, or_false] at hd
  rcases hd with rfl | rfl
  · exact fine_int 1 _
  · exact numsD_fine _
theorem optS_fine (s : Option (Nat × List Nat)) : fine 2 (optS s) := by
  cases s
  · exact fine_none 2
  · exact stD_fine _
theorem pairD_fine (x : Option (Nat × List Nat) × Option Nat) : fine 3 (pairD x) := fine_tup fun d hd => by
  simp only [List.mem_cons, List.not_mem_nil, or_false] at hd
  rcases hd with rfl | rfl
  · exact optS_fine _
  · exact cellD_fine _ 2
theorem bools_rep {α : Type} : ∀ l : List α, bools (l.map fun _ => .bool true) = some (l.map fun _ => true)
  | [] => rfl
  | a :: l => by rw [List.map_cons, bools, bools_rep l]; rfl
theorem step_len {p : Prog} {s : Nat × List Nat} : ∀ t, (stepV p s).1 = some t → t.2.length = s.2.length := by
  intro t h
  unfold stepV at h
  cases hr : p.rows.getD s.1 .stop <;> rw [hr] at h <;> simp only [stepR, Option.some.injEq, reduceCtorEq] at h <;> subst h <;> first | rfl | simp
end Law
namespace Law
open PySem Dv
theorem at_mod {α : Type} {ys : List α} (s : Int) {m : Int} (h : (ys.length : Int) = m) (hm : 0 < m) : ∃ y, y ∈ ys ∧ L2.atI ys (s % m) = some y := by
  have h1 : 0 ≤ s % m := Int.emod_nonneg _ (by omega)
  have h2 : s % m < m := Int.emod_lt_of_pos _ hm
  obtain ⟨i, hi⟩ : ∃ i : Nat, s % m = i := ⟨(s % m).toNat, by omega⟩
  rw [hi] at h2 ⊢
  have h3 : i < ys.length := by omega
  exact ⟨ys[i], List.getElem_mem h3, atNn h3⟩
theorem pow12 : binD .pow (.int 10) (.int 12) = some (.ok .shr (.int 1000000000000)) := by
  show (if (0 : Int) ≤ 12 ∧ (12 : Int) ≤ 1000000 ∧ (10 : Int).natAbs < 2 ^ 64 then some (EO.ok .shr (.int ((10 : Int) ^ (12 : Int).toNat))) else none) = _
  rw [if_pos (by decide), show (10 : Int) ^ (12 : Int).toNat = 1000000000000 by decide +kernel]
/-- no state of p, and fit to be asked -/
def BadSt (p : Prog) (d : D) : Prop := plainState d = true ∧ stateV p d = false
section
variable {p : Prog} {i : Nat} {ns : List Nat} {far : Int}
theorem bad_at {a : D} (ha : plainD a = true) (hn : ns.length ≤ 100000) (h : amongV a 0 ((p.rows.length : Int) - 1) = false) : BadSt p (.tuple [a, numsD ns]) :=
  ⟨by show (plainD a && plainBeg (numsD ns)) = true; rw [ha, nums_plain ns hn]; rfl, by show (amongV a 0 ((p.rows.length : Int) - 1) && _) = false; rw [h]; rfl⟩
end
end Law
namespace Law
open PySem Dv
/-! ### stepping through what changes cells -/
section
variable {fl : List (Str × Str)} {Φ : Mu → Str → List D → Option EO} {Ψ Ψi : Mu → Str → List D → Option RO} {fu : Nat} {st st' : Ev} {μ μ' : Mu} {r : MO} {k : Kd} {d : D} {s : M} {ss a b : List M}
theorem evMs_nil : evMs fl Φ Ψ Ψi fu [] st μ = some (.nx st μ) := by rw [evMs]
theorem mseq (h : evM fl Φ Ψ Ψi fu s st μ = some (.nx st' μ')) : evMs fl Φ Ψ Ψi fu (s :: ss) st μ = evMs fl Φ Ψ Ψi fu ss st' μ' := by rw [evMs, h]; rfl
theorem mseq_rt (h : evM fl Φ Ψ Ψi fu s st μ = some (.rt k d μ')) : evMs fl Φ Ψ Ψi fu (s :: ss) st μ = some (.rt k d μ') := by rw [evMs, h]; rfl
theorem mseq_u (h : evM fl Φ Ψ Ψi fu s st μ = some (.exU d μ')) : evMs fl Φ Ψ Ψi fu (s :: ss) st μ = some (.exU d μ') := by rw [evMs, h]; rfl
theorem mp {s : S} (h : evS (Φ μ) fu s st = some (.nx st')) : evM fl Φ Ψ Ψi fu (.p s) st μ = some (.nx st' μ) := by rw [evM, h]; rfl
theorem mp_rt {s : S} (h : evS (Φ μ) fu s st = some (.rt k d)) : evM fl Φ Ψ Ψi fu (.p s) st μ = some (.rt k d μ) := by rw [evM, h]; rfl
theorem mite_t {c : E} (h : evE (Φ μ) c st = some (.ok .shr (.bool true))) : evM fl Φ Ψ Ψi fu (.ite c a b) st μ = evMs fl Φ Ψ Ψi fu a st μ := by rw [evM, h]; rfl
theorem mite_f {c : E} (h : evE (Φ μ) c st = some (.ok .shr (.bool false))) : evM fl Φ Ψ Ψi fu (.ite c a b) st μ = evMs fl Φ Ψ Ψi fu b st μ := by rw [evM, h]; rfl
/-- an if that does nothing -/
theorem mite_no {c : E} (h : evE (Φ μ) c st = some (.ok .shr (.bool false))) : evM fl Φ Ψ Ψi fu (.ite c a []) st μ = some (.nx st μ) := (mite_f h).trans evMs_nil
theorem meff {e : EM} (h : evEM Φ Ψ Ψi e st μ = some (.ok k d μ')) : evM fl Φ Ψ Ψi fu (.eff e) st μ = some (.nx st μ') := by rw [evM, h]; rfl
theorem meffS {i : Nat} {e : EM} (h : evEM Φ Ψ Ψi e st μ = some (.ok .shr d μ')) : evM fl Φ Ψ Ψi fu (.effS i e) st μ = some (.nx (st.set i (some (false, d))) μ') := by rw [evM, h]; rfl
theorem msetF {o e : E} {f : Str} {ke ko : Kd} {x : D} (h1 : evE (Φ μ) e st = some (.ok ke d)) (hk : ke ≠ .brw) (h2 : evE (Φ μ) o st = some (.ok ko x)) (h3 : setFD fl μ x f d = some μ') : evM fl Φ Ψ Ψi fu (.setF o f e) st μ = some (.nx st μ') := by
  rw [evM, h1]
  simp only [onVM, if_neg hk, h2, h3, Option.map_some]
theorem msetTF {o e : E} {f : Str} {i : Nat} {ko : Kd} {x y z : D} (h1 : evE (Φ μ) e st = some (.ok .shr (.tuple [y, z]))) (h2 : evE (Φ μ) o st = some (.ok ko x)) (h3 : setFD fl μ x f y = some μ') : evM fl Φ Ψ Ψi fu (.setTF o f i e) st μ = some (.nx (st.set i (some (false, z))) μ') := by
  rw [evM, h1]
  simp only [onVM, h2, h3, Option.map_some]
theorem mnewL {o e : E} {f : Str} {ko : Kd} {x : D} {ds : List D} (h1 : evE (Φ μ) e st = some (.ok .frs (.list ds))) (h2 : evE (Φ μ) o st = some (.ok ko x)) (h3 : setFD fl (μ ++ [.lst ds]) x f (refD μ.length) = some μ') : evM fl Φ Ψ Ψi fu (.newL o f e) st μ = some (.nx st μ') := by
  rw [evM, h1]
  simp only [onVM, h2, h3, Option.map_some]
theorem mappC {q e : E} {ke kq : Kd} {x : D} (h1 : evE (Φ μ) q st = some (.ok kq x)) (hl : isLstD μ x = true) (h2 : evE (Φ μ) e st = some (.ok ke d)) (hk : ke ≠ .brw) (h3 : appD μ x d = some μ') : evM fl Φ Ψ Ψi fu (.appC q e) st μ = some (.nx st μ') := by
  rw [evM, h1]
  simp only [onVM, if_pos hl, h2, if_neg hk, h3, Option.map_some]
theorem mraiU {e : E} {ke : Kd} (h1 : evE (Φ μ) e st = some (.ok ke d)) (hk : ke ≠ .brw) : evM fl Φ Ψ Ψi fu (.raiU e) st μ = some (.exU d μ) := by
  rw [evM, h1]
  simp only [onVM, if_neg hk]
theorem runDM_nx {d : DefM} {ds : List D} (hl : ds.length = d.np) (h : evMs fl Φ Ψ Ψi fu d.body (startM d ds) μ = some (.nx st' μ')) : runDM fl Φ Ψ Ψi fu d ds μ = some (.ok .shr .none μ') := by
  unfold runDM
  rw [if_pos hl, h]; rfl
theorem runDM_rt {e : DefM} {ds : List D} (hl : ds.length = e.np) (h : evMs fl Φ Ψ Ψi fu e.body (startM e ds) μ = some (.rt .shr d μ')) : runDM fl Φ Ψ Ψi fu e ds μ = some (.ok .shr d μ') := by
  unfold runDM
  rw [if_pos hl, h]; rfl
theorem runDM_u {e : DefM} {ds : List D} (hl : ds.length = e.np) (h : evMs fl Φ Ψ Ψi fu e.body (startM e ds) μ = some (.exU d μ')) : runDM fl Φ Ψ Ψi fu e ds μ = some (.exU d μ') := by
  unfold runDM
  rw [if_pos hl, h]; rfl
/-- loops: an invariant -/
theorem goM_rng {f : D → Ev → Mu → Option MO} (I : Nat → Ev → Mu → Prop) (n : Nat) (h : ∀ j st μ, j < n → I j st μ → ∃ st' μ', f (.int (j : Int)) st μ = some (.nx st' μ') ∧ I (j + 1) st' μ') : ∀ st μ, I 0 st μ → ∃ st' μ', goM f (rngD n) st μ = some (.nx st' μ') ∧ I n st' μ' := by
  have go : ∀ (m j : Nat) (st : Ev) (μ : Mu), j + m = n → I j st μ → ∃ st' μ', goM f ((List.range' j m).map fun (k : Nat) => PyData.int (k : Int)) st μ = some (.nx st' μ') ∧ I n st' μ' := by
    intro m
    induction m with
    | zero => intro j st μ e hI; have : j = n := by omega
              subst this; exact ⟨st, μ, rfl, hI⟩
    | succ m ih =>
      intro j st μ e hI
      obtain ⟨st1, μ1, h1, h2⟩ := h j st μ (by omega) hI
      obtain ⟨st2, μ2, h3, h4⟩ := ih (j + 1) st1 μ1 (by omega) h2
      refine ⟨st2, μ2, ?_, h4⟩
      rw [List.range'_succ, List.map_cons, goM, h1]
      exact h3
  intro st μ hI
  obtain ⟨st', μ', h1, h2⟩ := go n 0 st μ (by omega) hI
  refine ⟨st', μ', ?_, h2⟩
  unfold rngD
  rw [List.range_eq_range']
  exact h1
theorem mforR {i : Nat} {n : E} {bd : List M} {kn : Kd} {m : Nat} (h1 : evE (Φ μ) n st = some (.ok kn (.int (m : Int)))) (hm : m ≤ 1000) (h : goM (fun d st μ => evMs fl Φ Ψ Ψi fu bd (st.set i (some (false, d))) μ) (rngD m) st μ = some r) : evM fl Φ Ψ Ψi fu (.forR i n bd) st μ = some r := by
  rw [evM, h1]
  simp only [onVM]
  rw [if_pos (by omega), Int.toNat_natCast]
  exact h
end
theorem noT : noOps TB.r.tab = true := by decide +kernel
theorem rr {fu n : Nat} {μ : Mu} {f : Str} {ds : List D} {r : EO} (h : run tab fu n f ds = some r) : runR TB.r μ fu n f ds = some r := run_le noT (fun f d h => h) n f ds r h
theorem leT {fu n : Nat} {μ : Mu} : LeF (run tab fu n) (runR TB.r μ fu n) := run_le noT (fun f d h => h) n
section
variable {fu n : Nat} {μ : Mu} {st st' : Ev} {k : Kd} {d : D} {s : S} {e : E} {r : EO} {Ψ Ψi : Mu → Str → List D → Option RO}
theorem mpL (h : evS (run tab fu n) fu s st = some (.nx st')) : evM TB.r.fl (fun μ => runR TB.r μ fu n) Ψ Ψi fu (.p s) st μ = some (.nx st' μ) := mp (Φ := fun μ => runR TB.r μ fu n) (evS_le leT fu s st _ h)
theorem mpL_rt (h : evS (run tab fu n) fu s st = some (.rt k d)) : evM TB.r.fl (fun μ => runR TB.r μ fu n) Ψ Ψi fu (.p s) st μ = some (.rt k d μ) := mp_rt (Φ := fun μ => runR TB.r μ fu n) (evS_le leT fu s st _ h)
theorem eL (h : evE (run tab fu n) e st = some r) : evE (runR TB.r μ fu n) e st = some r := evE_le leT e st _ h
theorem runM_fn {f : Str} {d : DefM} {ds : List D} (ho : isOp f = false) (e : TB.fn.lookup f = some d) : runM TB fu (n + 1) μ f ds = runDM TB.r.fl (fun μ => runR TB.r μ fu n) (runM2 TB fu n).1 (runM2 TB fu n).2 fu d ds μ := by
  show stepM TB fu _ _ _ μ f ds = _
  unfold stepM
  rw [mtAtM_none ho]
  simp only [ho, Bool.false_eq_true, if_false, e]
end
end Law
namespace Law
open PySem Dv
abbrev Stt := Nat × List Nat
theorem step_ok {p : Prog} (hp : p.Ok) {s : Stt} (hs : StateOk p s) : ∀ t, (stepV p s).1 = some t → StateOk p t := by
  obtain ⟨i, ns⟩ := s
  obtain ⟨hi, hl, hn⟩ := hs
  have hi' : i < p.rows.length := hi
  have hr := hp.row _ (row_mem hi')
  have nxt : ¬ isEnd (p.rows.getD i .stop) → i + 1 < p.rows.length := by
    intro h
    by_cases e : i + 1 < p.rows.length
    · exact e
    · exfalso
      refine h (hp.last _ ?_)
      rw [List.getLast?_eq_getElem?, show p.rows.length - 1 = i by omega, List.getElem?_eq_getElem hi', List.getD_eq_getElem?_getD, List.getElem?_eq_getElem hi']
      rfl
  have gt : ∀ b, b < p.boxes → ns.getD b 0 ≤ p.most := by
    intro b hb
    have hb' : b < ns.length := by rw [show ns.length = p.boxes from hl]; exact hb
    rw [List.getD_eq_getElem?_getD, List.getElem?_eq_getElem hb']
    exact hn _ (List.getElem_mem hb')
  have st : ∀ (b v : Nat), v ≤ p.most → NumsOk p (ns.set b v) := fun b v hv => ⟨by rw [List.length_set]; exact hl, fun x hx => by
    rcases List.mem_or_eq_of_mem_set hx with h | h
    · exact hn x h
    · subst h; exact hv⟩
  intro t
  unfold stepV
  simp only
  generalize p.rows.getD i .stop = r at hr nxt
  intro ht
  cases r with
  | put b n => cases ht; exact ⟨nxt id, st b n hr.2⟩
  | more b => cases ht; exact ⟨nxt id, st b _ (Nat.le_of_lt_succ (Nat.mod_lt _ (by omega)))⟩
  | copy b c => cases ht; exact ⟨nxt id, st b _ (gt c hr.2)⟩
  | tell b => cases ht; exact ⟨nxt id, hl, hn⟩
  | go x => cases ht; exact ⟨hr, hl, hn⟩
  | ask b x =>
    cases ht
    refine ⟨?_, hl, hn⟩
    show (if ns.getD b 0 = 0 then x else i + 1) < _
    split
    · exact hr.2
    · exact nxt id
  | stop => cases ht
theorem isN_stD (s : Stt) : isNone (stD s) = false := rfl
theorem optS_some (s : Stt) : optS (some s) = stD s := rfl
theorem whlGo_no {c : Ev → Option EO} {f : Ev → Option SO} {n : Nat} {st : Ev} (h : c st = some (.ok .shr (.bool false))) : whlGo c f (n + 1) st = some (.nx st) := by
  rw [whlGo, h]; rfl
theorem whlGo_yes {c : Ev → Option EO} {f : Ev → Option SO} {n : Nat} {st st' : Ev} (h : c st = some (.ok .shr (.bool true))) (h2 : f st = some (.nx st')) : whlGo c f (n + 1) st = whlGo c f n st' := by
  rw [whlGo, h, onB_ok, if_pos rfl, h2, thenS_nx]
end Law
namespace Law
open PySem Dv
abbrev Stt' := Nat × List Nat
def toldL : Option Nat → List Nat
  | none => []
  | some n => [n]
def wordsD (ws : List Nat) : List D := ws.map fun (n : Nat) => PyData.int (n : Int)
end Law
namespace Law
open PySem Dv
def ranV (p : Prog) : Nat → Option Stt' → List Nat × Option Stt'
  | 0, o => ([], o)
  | _ + 1, none => ([], none)
  | m + 1, some s => (toldL (stepV p s).2 ++ (ranV p m (stepV p s).1).1, (ranV p m (stepV p s).1).2)
theorem ranV_none (p : Prog) : ∀ m, ranV p m none = ([], none)
  | 0 => rfl
  | _ + 1 => rfl
theorem ranV_ok {p : Prog} (hp : p.Ok) : ∀ (m : Nat) (o : Option Stt'), (∀ s, o = some s → StateOk p s) → ∀ s, (ranV p m o).2 = some s → StateOk p s
  | 0, o, h, s, e => h s e
  | m + 1, none, h, s, e => by cases e
  | m + 1, some t, h, s, e => ranV_ok hp m (stepV p t).1 (step_ok hp (h t rfl)) s e
theorem toldL_len (o : Option Nat) : (toldL o).length ≤ 1 := by cases o <;> simp [toldL]
theorem ranV_len (p : Prog) : ∀ (m : Nat) (o : Option Stt'), (ranV p m o).1.length ≤ m
  | 0, _ => Nat.le_refl _
  | _ + 1, none => Nat.zero_le _
  | m + 1, some s => by
    have h1 := toldL_len (stepV p s).2
    have h2 := ranV_len p m (stepV p s).1
    rw [ranV, List.length_append]
    omega
theorem ranV_add (p : Prog) : ∀ (a b : Nat) (o : Option Stt'), ranV p (a + b) o = ((ranV p a o).1 ++ (ranV p b (ranV p a o).2).1, (ranV p b (ranV p a o).2).2)
  | 0, b, o => by rw [Nat.zero_add]; rfl
  | a + 1, b, none => by rw [ranV_none, ranV_none]; show _ = (([] : List Nat) ++ (ranV p b none).1, (ranV p b none).2); rw [ranV_none]; rfl
  | a + 1, b, some s => by
    rw [show a + 1 + b = (a + b) + 1 by omega, ranV, ranV, ranV_add p a b]
    simp only [List.append_assoc]
theorem words_app (a b : List Nat) : wordsD a ++ wordsD b = wordsD (a ++ b) := (List.map_append ..).symm
theorem ran_loop {fu n : Nat} {p : Prog} (hp : p.Ok) : ∀ (m f : Nat) (o : Option Stt') (ws : List Nat) (j : Nat) (told : Option (Bool × D)), m < f → (∀ s, o = some s → StateOk p s) → ws.length + m ≤ 1000 →
    ∃ (j' : Nat) (told' : Option (Bool × D)), whlGo (evE (run tab fu (n + 4)) e_ran_0) (evSs (run tab fu (n + 4)) fu b_ran_1) f [some (false, p.d), some (false, optS o), some (false, .int ((j + m : Nat) : Int)), some (true, .list (wordsD ws)), some (false, .int (j : Int)), told] =
      some (.nx [some (false, p.d), some (false, optS (ranV p m o).2), some (false, .int ((j + m : Nat) : Int)), some (true, .list (wordsD (ws ++ (ranV p m o).1))), some (false, .int (j' : Int)), told'])
  | m, f + 1, none, ws, j, told, hf, ho, hl => by
    refine ⟨j, told, ?_⟩
    rw [ranV_none, List.append_nil]
    refine whlGo_no ?_
    unfold e_ran_0
    simp only [runD, Dv.start, evSs_nil, evSs_cons, evS, evE, evL, evB, evAnd, evOr, evO, onOwn, guardO, setAll, thenS_nx, thenS_rt, thenS_ex, onV_ok, onV_ex, onB_ok, onB_ex, bindV_ok, bindV_ex, boolV_ok, bindA_ok, consA_ok, optI_none, optI_some, outcome_nx, outcome_shr, outcome_frs, outcome_ex, setV_shr, setV_frs, binD_add, binD_addT, binD_addL, binD_sub, binD_mulr, binD_mull, binD_fdiv', binD_mod', cmpD_lt, cmpD_le, cmpD_gt, cmpD_ge, cmpD_eqi, cmpD_nei, cmpD_is, cmpD_isn, cmpD_memL, cmpD_nmemL, cmpD_memT, cmpD_nmemT, isN_none, isN_int, isN_tup, isN_lst, isN_bool, isN_str, flat_int, flat_str, flat_none, flat_bool, fnD_lenL, fnD_lenT, fnD_lenS, fnD_intB, fnD_str, fnD_tupL, fnD_tupT, fnD_lstL, fnD_lstT, fnD_all, idxD_L, idxD_T, idxD_S, slcD_L, slcD_T, itemsD_L, itemsD_T, asD_shr, asD_frs, asB_ok, okCall_t, noBrw_nil, noBrw_shr, noBrw_frs, tests_nil, tests_one, at0, at1, at2, lim_eq, List.set_cons_zero, List.set_cons_succ, List.getElem?_cons_zero, List.getElem?_cons_succ, List.length_cons, List.length_nil, List.map_cons, List.map_nil, Option.map_some, Option.map_none, if_true, if_false, ite_true, ite_false, reduceIte, reduceCtorEq, decide_true, decide_false, Nat.reduceAdd, Nat.reduceSub, Nat.reduceEqDiff, Int.reduceNeg, Int.reduceLT, Int.reduceLE, Bool.not_true, Bool.not_false, Nat.reduceLeDiff, and_self, true_and, and_true, optS]
  | 0, f + 1, some s, ws, j, told, hf, ho, hl => by
    refine ⟨j, told, ?_⟩
    rw [show ranV p 0 (some s) = ([], some s) from rfl, List.append_nil]
    refine whlGo_no ?_
    unfold e_ran_0
    have : decide ((j : Int) < ((j + 0 : Nat) : Int)) = false := by simp
    simp only [runD, Dv.start, evSs_nil, evSs_cons, evS, evE, evL, evB, evAnd, evOr, evO, onOwn, guardO, setAll, thenS_nx, thenS_rt, thenS_ex, onV_ok, onV_ex, onB_ok, onB_ex, bindV_ok, bindV_ex, boolV_ok, bindA_ok, consA_ok, optI_none, optI_some, outcome_nx, outcome_shr, outcome_frs, outcome_ex, setV_shr, setV_frs, binD_add, binD_addT, binD_addL, binD_sub, binD_mulr, binD_mull, binD_fdiv', binD_mod', cmpD_lt, cmpD_le, cmpD_gt, cmpD_ge, cmpD_eqi, cmpD_nei, cmpD_is, cmpD_isn, cmpD_memL, cmpD_nmemL, cmpD_memT, cmpD_nmemT, isN_none, isN_int, isN_tup, isN_lst, isN_bool, isN_str, flat_int, flat_str, flat_none, flat_bool, fnD_lenL, fnD_lenT, fnD_lenS, fnD_intB, fnD_str, fnD_tupL, fnD_tupT, fnD_lstL, fnD_lstT, fnD_all, idxD_L, idxD_T, idxD_S, slcD_L, slcD_T, itemsD_L, itemsD_T, asD_shr, asD_frs, asB_ok, okCall_t, noBrw_nil, noBrw_shr, noBrw_frs, tests_nil, tests_one, at0, at1, at2, lim_eq, List.set_cons_zero, List.set_cons_succ, List.getElem?_cons_zero, List.getElem?_cons_succ, List.length_cons, List.length_nil, List.map_cons, List.map_nil, Option.map_some, Option.map_none, if_true, if_false, ite_true, ite_false, reduceIte, reduceCtorEq, decide_true, decide_false, Nat.reduceAdd, Nat.reduceSub, Nat.reduceEqDiff, Int.reduceNeg, Int.reduceLT, Int.reduceLE, Bool.not_true, Bool.not_false, Nat.reduceLeDiff, and_self, true_and, and_true, optS_some, isN_stD, this, Bool.false_eq_true]
  | m + 1, f + 1, some s, ws, j, told, hf, ho, hl => by
    have st := step_is (fu := fu) (n := n) hp (ho s rfl)
    have tl := toldL_len (stepV p s).2
    obtain ⟨j', told', h⟩ := ran_loop (fu := fu) (n := n) hp m f (stepV p s).1 (ws ++ toldL (stepV p s).2) (j + 1) (some (false, cellD (stepV p s).2)) (by omega) (step_ok hp (ho s rfl)) (by rw [List.length_append]; omega)
    refine ⟨j', told', ?_⟩
    have e0 : ((j + (m + 1) : Nat) : Int) = ((j + 1 + m : Nat) : Int) := by omega
    rw [e0, show (ranV p (m + 1) (some s)).2 = (ranV p m (stepV p s).1).2 from rfl, show (ranV p (m + 1) (some s)).1 = toldL (stepV p s).2 ++ (ranV p m (stepV p s).1).1 from rfl, ← List.append_assoc]
    refine (whlGo_yes (st' := [some (false, p.d), some (false, optS (stepV p s).1), some (false, .int ((j + 1 + m : Nat) : Int)), some (true, .list (wordsD (ws ++ toldL (stepV p s).2))), some (false, .int ((j + 1 : Nat) : Int)), some (false, cellD (stepV p s).2)]) ?_ ?_).trans h
    · unfold e_ran_0
      have : decide ((j : Int) < ((j + 1 + m : Nat) : Int)) = true := decide_eq_true (by omega)
      simp only [runD, Dv.start, evSs_nil, evSs_cons, evS, evE, evL, evB, evAnd, evOr, evO, onOwn, guardO, setAll, thenS_nx, thenS_rt, thenS_ex, onV_ok, onV_ex, onB_ok, onB_ex, bindV_ok, bindV_ex, boolV_ok, bindA_ok, consA_ok, optI_none, optI_some, outcome_nx, outcome_shr, outcome_frs, outcome_ex, setV_shr, setV_frs, binD_add, binD_addT, binD_addL, binD_sub, binD_mulr, binD_mull, binD_fdiv', binD_mod', cmpD_lt, cmpD_le, cmpD_gt, cmpD_ge, cmpD_eqi, cmpD_nei, cmpD_is, cmpD_isn, cmpD_memL, cmpD_nmemL, cmpD_memT, cmpD_nmemT, isN_none, isN_int, isN_tup, isN_lst, isN_bool, isN_str, flat_int, flat_str, flat_none, flat_bool, fnD_lenL, fnD_lenT, fnD_lenS, fnD_intB, fnD_str, fnD_tupL, fnD_tupT, fnD_lstL, fnD_lstT, fnD_all, idxD_L, idxD_T, idxD_S, slcD_L, slcD_T, itemsD_L, itemsD_T, asD_shr, asD_frs, asB_ok, okCall_t, noBrw_nil, noBrw_shr, noBrw_frs, tests_nil, tests_one, at0, at1, at2, lim_eq, List.set_cons_zero, List.set_cons_succ, List.getElem?_cons_zero, List.getElem?_cons_succ, List.length_cons, List.length_nil, List.map_cons, List.map_nil, Option.map_some, Option.map_none, if_true, if_false, ite_true, ite_false, reduceIte, reduceCtorEq, decide_true, decide_false, Nat.reduceAdd, Nat.reduceSub, Nat.reduceEqDiff, Int.reduceNeg, Int.reduceLT, Int.reduceLE, Bool.not_true, Bool.not_false, Nat.reduceLeDiff, and_self, true_and, and_true, optS_some, isN_stD, this]
    · unfold b_ran_1
      refine (seq (st' := [some (false, p.d), some (false, optS (stepV p s).1), some (false, .int ((j + 1 + m : Nat) : Int)), some (true, .list (wordsD ws)), some (false, .int (j : Int)), some (false, cellD (stepV p s).2)]) (by simp only [runD, Dv.start, evSs_nil, evSs_cons, evS, evE, evL, evB, evAnd, evOr, evO, onOwn, guardO, setAll, thenS_nx, thenS_rt, thenS_ex, onV_ok, onV_ex, onB_ok, onB_ex, bindV_ok, bindV_ex, boolV_ok, bindA_ok, consA_ok, optI_none, optI_some, outcome_nx, outcome_shr, outcome_frs, outcome_ex, setV_shr, setV_frs, binD_add, binD_addT, binD_addL, binD_sub, binD_mulr, binD_mull, binD_fdiv', binD_mod', cmpD_lt, cmpD_le, cmpD_gt, cmpD_ge, cmpD_eqi, cmpD_nei, cmpD_is, cmpD_isn, cmpD_memL, cmpD_nmemL, cmpD_memT, cmpD_nmemT, isN_none, isN_int, isN_tup, isN_lst, isN_bool, isN_str, flat_int, flat_str, flat_none, flat_bool, fnD_lenL, fnD_lenT, fnD_lenS, fnD_intB, fnD_str, fnD_tupL, fnD_tupT, fnD_lstL, fnD_lstT, fnD_all, idxD_L, idxD_T, idxD_S, slcD_L, slcD_T, itemsD_L, itemsD_T, asD_shr, asD_frs, asB_ok, okCall_t, noBrw_nil, noBrw_shr, noBrw_frs, tests_nil, tests_one, at0, at1, at2, lim_eq, List.set_cons_zero, List.set_cons_succ, List.getElem?_cons_zero, List.getElem?_cons_succ, List.length_cons, List.length_nil, List.map_cons, List.map_nil, Option.map_some, Option.map_none, if_true, if_false, ite_true, ite_false, reduceIte, reduceCtorEq, decide_true, decide_false, Nat.reduceAdd, Nat.reduceSub, Nat.reduceEqDiff, Int.reduceNeg, Int.reduceLT, Int.reduceLE, Bool.not_true, Bool.not_false, Nat.reduceLeDiff, and_self, true_and, and_true, optS_some, st, pairD])).trans ?_
      have ej : (j : Int) + 1 = ((j + 1 : Nat) : Int) := by omega
      cases et : (stepV p s).2 with
      | none =>
        refine (seq (st' := [some (false, p.d), some (false, optS (stepV p s).1), some (false, .int ((j + 1 + m : Nat) : Int)), some (true, .list (wordsD ws)), some (false, .int (j : Int)), some (false, cellD none)]) (by simp only [runD, Dv.start, evSs_nil, evSs_cons, evS, evE, evL, evB, evAnd, evOr, evO, onOwn, guardO, setAll, thenS_nx, thenS_rt, thenS_ex, onV_ok, onV_ex, onB_ok, onB_ex, bindV_ok, bindV_ex, boolV_ok, bindA_ok, consA_ok, optI_none, optI_some, outcome_nx, outcome_shr, outcome_frs, outcome_ex, setV_shr, setV_frs, binD_add, binD_addT, binD_addL, binD_sub, binD_mulr, binD_mull, binD_fdiv', binD_mod', cmpD_lt, cmpD_le, cmpD_gt, cmpD_ge, cmpD_eqi, cmpD_nei, cmpD_is, cmpD_isn, cmpD_memL, cmpD_nmemL, cmpD_memT, cmpD_nmemT, isN_none, isN_int, isN_tup, isN_lst, isN_bool, isN_str, flat_int, flat_str, flat_none, flat_bool, fnD_lenL, fnD_lenT, fnD_lenS, fnD_intB, fnD_str, fnD_tupL, fnD_tupT, fnD_lstL, fnD_lstT, fnD_all, idxD_L, idxD_T, idxD_S, slcD_L, slcD_T, itemsD_L, itemsD_T, asD_shr, asD_frs, asB_ok, okCall_t, noBrw_nil, noBrw_shr, noBrw_frs, tests_nil, tests_one, at0, at1, at2, lim_eq, List.set_cons_zero, List.set_cons_succ, List.getElem?_cons_zero, List.getElem?_cons_succ, List.length_cons, List.length_nil, List.map_cons, List.map_nil, Option.map_some, Option.map_none, if_true, if_false, ite_true, ite_false, reduceIte, reduceCtorEq, decide_true, decide_false, Nat.reduceAdd, Nat.reduceSub, Nat.reduceEqDiff, Int.reduceNeg, Int.reduceLT, Int.reduceLE, Bool.not_true, Bool.not_false, Nat.reduceLeDiff, and_self, true_and, and_true, cellD, Bool.false_eq_true])).trans ?_
        refine (seq (st' := [some (false, p.d), some (false, optS (stepV p s).1), some (false, .int ((j + 1 + m : Nat) : Int)), some (true, .list (wordsD (ws ++ toldL none))), some (false, .int ((j + 1 : Nat) : Int)), some (false, cellD none)]) (by simp only [runD, Dv.start, evSs_nil, evSs_cons, evS, evE, evL, evB, evAnd, evOr, evO, onOwn, guardO, setAll, thenS_nx, thenS_rt, thenS_ex, onV_ok, onV_ex, onB_ok, onB_ex, bindV_ok, bindV_ex, boolV_ok, bindA_ok, consA_ok, optI_none, optI_some, outcome_nx, outcome_shr, outcome_frs, outcome_ex, setV_shr, setV_frs, binD_add, binD_addT, binD_addL, binD_sub, binD_mulr, binD_mull, binD_fdiv', binD_mod', cmpD_lt, cmpD_le, cmpD_gt, cmpD_ge, cmpD_eqi, cmpD_nei, cmpD_is, cmpD_isn, cmpD_memL, cmpD_nmemL, cmpD_memT, cmpD_nmemT, isN_none, isN_int, isN_tup, isN_lst, isN_bool, isN_str, flat_int, flat_str, flat_none, flat_bool, fnD_lenL, fnD_lenT, fnD_lenS, fnD_intB, fnD_str, fnD_tupL, fnD_tupT, fnD_lstL, fnD_lstT, fnD_all, idxD_L, idxD_T, idxD_S, slcD_L, slcD_T, itemsD_L, itemsD_T, asD_shr, asD_frs, asB_ok, okCall_t, noBrw_nil, noBrw_shr, noBrw_frs, tests_nil, tests_one, at0, at1, at2, lim_eq, List.set_cons_zero, List.set_cons_succ, List.getElem?_cons_zero, List.getElem?_cons_succ, List.length_cons, List.length_nil, List.map_cons, List.map_nil, Option.map_some, Option.map_none, if_true, if_false, ite_true, ite_false, reduceIte, reduceCtorEq, decide_true, decide_false, Nat.reduceAdd, Nat.reduceSub, Nat.reduceEqDiff, Int.reduceNeg, Int.reduceLT, Int.reduceLE, Bool.not_true, Bool.not_false, Nat.reduceLeDiff, and_self, true_and, and_true, toldL, List.append_nil, ej])).trans evSs_nil
      | some t =>
        have hw : (wordsD ws).length < 100000 := by unfold wordsD; rw [List.length_map]; omega
        have ew : wordsD ws ++ [PyData.int (t : Int)] = wordsD (ws ++ [t]) := by unfold wordsD; rw [List.map_append]; rfl
        refine (seq (st' := [some (false, p.d), some (false, optS (stepV p s).1), some (false, .int ((j + 1 + m : Nat) : Int)), some (true, .list (wordsD (ws ++ [t]))), some (false, .int (j : Int)), some (false, cellD (some t))]) (by simp only [runD, Dv.start, evSs_nil, evSs_cons, evS, evE, evL, evB, evAnd, evOr, evO, onOwn, guardO, setAll, thenS_nx, thenS_rt, thenS_ex, onV_ok, onV_ex, onB_ok, onB_ex, bindV_ok, bindV_ex, boolV_ok, bindA_ok, consA_ok, optI_none, optI_some, outcome_nx, outcome_shr, outcome_frs, outcome_ex, setV_shr, setV_frs, binD_add, binD_addT, binD_addL, binD_sub, binD_mulr, binD_mull, binD_fdiv', binD_mod', cmpD_lt, cmpD_le, cmpD_gt, cmpD_ge, cmpD_eqi, cmpD_nei, cmpD_is, cmpD_isn, cmpD_memL, cmpD_nmemL, cmpD_memT, cmpD_nmemT, isN_none, isN_int, isN_tup, isN_lst, isN_bool, isN_str, flat_int, flat_str, flat_none, flat_bool, fnD_lenL, fnD_lenT, fnD_lenS, fnD_intB, fnD_str, fnD_tupL, fnD_tupT, fnD_lstL, fnD_lstT, fnD_all, idxD_L, idxD_T, idxD_S, slcD_L, slcD_T, itemsD_L, itemsD_T, asD_shr, asD_frs, asB_ok, okCall_t, noBrw_nil, noBrw_shr, noBrw_frs, tests_nil, tests_one, at0, at1, at2, lim_eq, List.set_cons_zero, List.set_cons_succ, List.getElem?_cons_zero, List.getElem?_cons_succ, List.length_cons, List.length_nil, List.map_cons, List.map_nil, Option.map_some, Option.map_none, if_true, if_false, ite_true, ite_false, reduceIte, reduceCtorEq, decide_true, decide_false, Nat.reduceAdd, Nat.reduceSub, Nat.reduceEqDiff, Int.reduceNeg, Int.reduceLT, Int.reduceLE, Bool.not_true, Bool.not_false, Nat.reduceLeDiff, and_self, true_and, and_true, cellD, hw, ew])).trans ?_
        refine (seq (st' := [some (false, p.d), some (false, optS (stepV p s).1), some (false, .int ((j + 1 + m : Nat) : Int)), some (true, .list (wordsD (ws ++ toldL (some t)))), some (false, .int ((j + 1 : Nat) : Int)), some (false, cellD (some t))]) (by simp only [runD, Dv.start, evSs_nil, evSs_cons, evS, evE, evL, evB, evAnd, evOr, evO, onOwn, guardO, setAll, thenS_nx, thenS_rt, thenS_ex, onV_ok, onV_ex, onB_ok, onB_ex, bindV_ok, bindV_ex, boolV_ok, bindA_ok, consA_ok, optI_none, optI_some, outcome_nx, outcome_shr, outcome_frs, outcome_ex, setV_shr, setV_frs, binD_add, binD_addT, binD_addL, binD_sub, binD_mulr, binD_mull, binD_fdiv', binD_mod', cmpD_lt, cmpD_le, cmpD_gt, cmpD_ge, cmpD_eqi, cmpD_nei, cmpD_is, cmpD_isn, cmpD_memL, cmpD_nmemL, cmpD_memT, cmpD_nmemT, isN_none, isN_int, isN_tup, isN_lst, isN_bool, isN_str, flat_int, flat_str, flat_none, flat_bool, fnD_lenL, fnD_lenT, fnD_lenS, fnD_intB, fnD_str, fnD_tupL, fnD_tupT, fnD_lstL, fnD_lstT, fnD_all, idxD_L, idxD_T, idxD_S, slcD_L, slcD_T, itemsD_L, itemsD_T, asD_shr, asD_frs, asB_ok, okCall_t, noBrw_nil, noBrw_shr, noBrw_frs, tests_nil, tests_one, at0, at1, at2, lim_eq, List.set_cons_zero, List.set_cons_succ, List.getElem?_cons_zero, List.getElem?_cons_succ, List.length_cons, List.length_nil, List.map_cons, List.map_nil, Option.map_some, Option.map_none, if_true, if_false, ite_true, ite_false, reduceIte, reduceCtorEq, decide_true, decide_false, Nat.reduceAdd, Nat.reduceSub, Nat.reduceEqDiff, Int.reduceNeg, Int.reduceLT, Int.reduceLE, Bool.not_true, Bool.not_false, Nat.reduceLeDiff, and_self, true_and, and_true, toldL, ej])).trans evSs_nil
def ranD (r : List Nat × Option Stt') : D := .tuple [.list (wordsD r.1), optS r.2]
theorem ran_ok {fu n : Nat} {p : Prog} (hp : p.Ok) {s : Stt'} (hs : StateOk p s) (m : Nat) (hm : m ≤ 1000) (hfu : m < fu) : run tab fu (n + 5) "ran" [p.d, stD s, .int (m : Int)] = some (.ok .shr (ranD (ranV p m (some s)))) := by
  have ns := need_state_yes (fu := fu) (n := n + 1) p (state_plain hp.boxes hs) (state_yes hs)
  obtain ⟨j', told', lp⟩ := ran_loop (fu := fu) (n := n) hp m fu (some s) [] 0 none hfu (fun t e => by cases e; exact hs) (by simpa using hm)
  rw [Nat.zero_add, List.nil_append] at lp
  rw [run_ran]
  refine runD_rt rfl ?_
  unfold d_ran
  rw [show Dv.start _ _ = [some (false, p.d), some (false, stD s), some (false, .int (m : Int)), none, none, none] from rfl]
  refine (seq (st' := [some (false, p.d), some (false, stD s), some (false, .int (m : Int)), none, none, none]) (by simp only [runD, Dv.start, evSs_nil, evSs_cons, evS, evE, evL, evB, evAnd, evOr, evO, onOwn, guardO, setAll, thenS_nx, thenS_rt, thenS_ex, onV_ok, onV_ex, onB_ok, onB_ex, bindV_ok, bindV_ex, boolV_ok, bindA_ok, consA_ok, optI_none, optI_some, outcome_nx, outcome_shr, outcome_frs, outcome_ex, setV_shr, setV_frs, binD_add, binD_addT, binD_addL, binD_sub, binD_mulr, binD_mull, binD_fdiv', binD_mod', cmpD_lt, cmpD_le, cmpD_gt, cmpD_ge, cmpD_eqi, cmpD_nei, cmpD_is, cmpD_isn, cmpD_memL, cmpD_nmemL, cmpD_memT, cmpD_nmemT, isN_none, isN_int, isN_tup, isN_lst, isN_bool, isN_str, flat_int, flat_str, flat_none, flat_bool, fnD_lenL, fnD_lenT, fnD_lenS, fnD_intB, fnD_str, fnD_tupL, fnD_tupT, fnD_lstL, fnD_lstT, fnD_all, idxD_L, idxD_T, idxD_S, slcD_L, slcD_T, itemsD_L, itemsD_T, asD_shr, asD_frs, asB_ok, okCall_t, noBrw_nil, noBrw_shr, noBrw_frs, tests_nil, tests_one, at0, at1, at2, lim_eq, List.set_cons_zero, List.set_cons_succ, List.getElem?_cons_zero, List.getElem?_cons_succ, List.length_cons, List.length_nil, List.map_cons, List.map_nil, Option.map_some, Option.map_none, if_true, if_false, ite_true, ite_false, reduceIte, reduceCtorEq, decide_true, decide_false, Nat.reduceAdd, Nat.reduceSub, Nat.reduceEqDiff, Int.reduceNeg, Int.reduceLT, Int.reduceLE, Bool.not_true, Bool.not_false, Nat.reduceLeDiff, and_self, true_and, and_true, ns])).trans ?_
  have hneg : decide ((m : Int) < 0) = false := by simp
  refine (seq (st' := [some (false, p.d), some (false, stD s), some (false, .int (m : Int)), none, none, none]) (by simp only [runD, Dv.start, evSs_nil, evSs_cons, evS, evE, evL, evB, evAnd, evOr, evO, onOwn, guardO, setAll, thenS_nx, thenS_rt, thenS_ex, onV_ok, onV_ex, onB_ok, onB_ex, bindV_ok, bindV_ex, boolV_ok, bindA_ok, consA_ok, optI_none, optI_some, outcome_nx, outcome_shr, outcome_frs, outcome_ex, setV_shr, setV_frs, binD_add, binD_addT, binD_addL, binD_sub, binD_mulr, binD_mull, binD_fdiv', binD_mod', cmpD_lt, cmpD_le, cmpD_gt, cmpD_ge, cmpD_eqi, cmpD_nei, cmpD_is, cmpD_isn, cmpD_memL, cmpD_nmemL, cmpD_memT, cmpD_nmemT, isN_none, isN_int, isN_tup, isN_lst, isN_bool, isN_str, flat_int, flat_str, flat_none, flat_bool, fnD_lenL, fnD_lenT, fnD_lenS, fnD_intB, fnD_str, fnD_tupL, fnD_tupT, fnD_lstL, fnD_lstT, fnD_all, idxD_L, idxD_T, idxD_S, slcD_L, slcD_T, itemsD_L, itemsD_T, asD_shr, asD_frs, asB_ok, okCall_t, noBrw_nil, noBrw_shr, noBrw_frs, tests_nil, tests_one, at0, at1, at2, lim_eq, List.set_cons_zero, List.set_cons_succ, List.getElem?_cons_zero, List.getElem?_cons_succ, List.length_cons, List.length_nil, List.map_cons, List.map_nil, Option.map_some, Option.map_none, if_true, if_false, ite_true, ite_false, reduceIte, reduceCtorEq, decide_true, decide_false, Nat.reduceAdd, Nat.reduceSub, Nat.reduceEqDiff, Int.reduceNeg, Int.reduceLT, Int.reduceLE, Bool.not_true, Bool.not_false, Nat.reduceLeDiff, and_self, true_and, and_true, okTy, isInst, hneg, Bool.false_eq_true])).trans ?_
  refine (seq (st' := [some (false, p.d), some (false, stD s), some (false, .int (m : Int)), some (true, .list (wordsD [])), none, none]) (by simp only [runD, Dv.start, evSs_nil, evSs_cons, evS, evE, evL, evB, evAnd, evOr, evO, onOwn, guardO, setAll, thenS_nx, thenS_rt, thenS_ex, onV_ok, onV_ex, onB_ok, onB_ex, bindV_ok, bindV_ex, boolV_ok, bindA_ok, consA_ok, optI_none, optI_some, outcome_nx, outcome_shr, outcome_frs, outcome_ex, setV_shr, setV_frs, binD_add, binD_addT, binD_addL, binD_sub, binD_mulr, binD_mull, binD_fdiv', binD_mod', cmpD_lt, cmpD_le, cmpD_gt, cmpD_ge, cmpD_eqi, cmpD_nei, cmpD_is, cmpD_isn, cmpD_memL, cmpD_nmemL, cmpD_memT, cmpD_nmemT, isN_none, isN_int, isN_tup, isN_lst, isN_bool, isN_str, flat_int, flat_str, flat_none, flat_bool, fnD_lenL, fnD_lenT, fnD_lenS, fnD_intB, fnD_str, fnD_tupL, fnD_tupT, fnD_lstL, fnD_lstT, fnD_all, idxD_L, idxD_T, idxD_S, slcD_L, slcD_T, itemsD_L, itemsD_T, asD_shr, asD_frs, asB_ok, okCall_t, noBrw_nil, noBrw_shr, noBrw_frs, tests_nil, tests_one, at0, at1, at2, lim_eq, List.set_cons_zero, List.set_cons_succ, List.getElem?_cons_zero, List.getElem?_cons_succ, List.length_cons, List.length_nil, List.map_cons, List.map_nil, Option.map_some, Option.map_none, if_true, if_false, ite_true, ite_false, reduceIte, reduceCtorEq, decide_true, decide_false, Nat.reduceAdd, Nat.reduceSub, Nat.reduceEqDiff, Int.reduceNeg, Int.reduceLT, Int.reduceLE, Bool.not_true, Bool.not_false, Nat.reduceLeDiff, and_self, true_and, and_true, wordsD]; try rfl)).trans ?_
  refine (seq (st' := [some (false, p.d), some (false, optS (some s)), some (false, .int (m : Int)), some (true, .list (wordsD [])), some (false, .int ((0 : Nat) : Int)), none]) (by simp only [runD, Dv.start, evSs_nil, evSs_cons, evS, evE, evL, evB, evAnd, evOr, evO, onOwn, guardO, setAll, thenS_nx, thenS_rt, thenS_ex, onV_ok, onV_ex, onB_ok, onB_ex, bindV_ok, bindV_ex, boolV_ok, bindA_ok, consA_ok, optI_none, optI_some, outcome_nx, outcome_shr, outcome_frs, outcome_ex, setV_shr, setV_frs, binD_add, binD_addT, binD_addL, binD_sub, binD_mulr, binD_mull, binD_fdiv', binD_mod', cmpD_lt, cmpD_le, cmpD_gt, cmpD_ge, cmpD_eqi, cmpD_nei, cmpD_is, cmpD_isn, cmpD_memL, cmpD_nmemL, cmpD_memT, cmpD_nmemT, isN_none, isN_int, isN_tup, isN_lst, isN_bool, isN_str, flat_int, flat_str, flat_none, flat_bool, fnD_lenL, fnD_lenT, fnD_lenS, fnD_intB, fnD_str, fnD_tupL, fnD_tupT, fnD_lstL, fnD_lstT, fnD_all, idxD_L, idxD_T, idxD_S, slcD_L, slcD_T, itemsD_L, itemsD_T, asD_shr, asD_frs, asB_ok, okCall_t, noBrw_nil, noBrw_shr, noBrw_frs, tests_nil, tests_one, at0, at1, at2, lim_eq, List.set_cons_zero, List.set_cons_succ, List.getElem?_cons_zero, List.getElem?_cons_succ, List.length_cons, List.length_nil, List.map_cons, List.map_nil, Option.map_some, Option.map_none, if_true, if_false, ite_true, ite_false, reduceIte, reduceCtorEq, decide_true, decide_false, Nat.reduceAdd, Nat.reduceSub, Nat.reduceEqDiff, Int.reduceNeg, Int.reduceLT, Int.reduceLE, Bool.not_true, Bool.not_false, Nat.reduceLeDiff, and_self, true_and, and_true, optS_some]; try rfl)).trans ?_
  refine (seq (by rw [evS]; exact lp)).trans ?_
  refine (seq (st' := [some (false, p.d), some (false, optS (ranV p m (some s)).2), some (false, .int (m : Int)), some (false, .list (wordsD (ranV p m (some s)).1)), some (false, .int (j' : Int)), told']) (by simp only [runD, Dv.start, evSs_nil, evSs_cons, evS, evE, evL, evB, evAnd, evOr, evO, onOwn, guardO, setAll, thenS_nx, thenS_rt, thenS_ex, onV_ok, onV_ex, onB_ok, onB_ex, bindV_ok, bindV_ex, boolV_ok, bindA_ok, consA_ok, optI_none, optI_some, outcome_nx, outcome_shr, outcome_frs, outcome_ex, setV_shr, setV_frs, binD_add, binD_addT, binD_addL, binD_sub, binD_mulr, binD_mull, binD_fdiv', binD_mod', cmpD_lt, cmpD_le, cmpD_gt, cmpD_ge, cmpD_eqi, cmpD_nei, cmpD_is, cmpD_isn, cmpD_memL, cmpD_nmemL, cmpD_memT, cmpD_nmemT, isN_none, isN_int, isN_tup, isN_lst, isN_bool, isN_str, flat_int, flat_str, flat_none, flat_bool, fnD_lenL, fnD_lenT, fnD_lenS, fnD_intB, fnD_str, fnD_tupL, fnD_tupT, fnD_lstL, fnD_lstT, fnD_all, idxD_L, idxD_T, idxD_S, slcD_L, slcD_T, itemsD_L, itemsD_T, asD_shr, asD_frs, asB_ok, okCall_t, noBrw_nil, noBrw_shr, noBrw_frs, tests_nil, tests_one, at0, at1, at2, lim_eq, List.set_cons_zero, List.set_cons_succ, List.getElem?_cons_zero, List.getElem?_cons_succ, List.length_cons, List.length_nil, List.map_cons, List.map_nil, Option.map_some, Option.map_none, if_true, if_false, ite_true, ite_false, reduceIte, reduceCtorEq, decide_true, decide_false, Nat.reduceAdd, Nat.reduceSub, Nat.reduceEqDiff, Int.reduceNeg, Int.reduceLT, Int.reduceLE, Bool.not_true, Bool.not_false, Nat.reduceLeDiff, and_self, true_and, and_true])).trans ?_
  exact (seq_rt (by simp only [runD, Dv.start, evSs_nil, evSs_cons, evS, evE, evL, evB, evAnd, evOr, evO, onOwn, guardO, setAll, thenS_nx, thenS_rt, thenS_ex, onV_ok, onV_ex, onB_ok, onB_ex, bindV_ok, bindV_ex, boolV_ok, bindA_ok, consA_ok, optI_none, optI_some, outcome_nx, outcome_shr, outcome_frs, outcome_ex, setV_shr, setV_frs, binD_add, binD_addT, binD_addL, binD_sub, binD_mulr, binD_mull, binD_fdiv', binD_mod', cmpD_lt, cmpD_le, cmpD_gt, cmpD_ge, cmpD_eqi, cmpD_nei, cmpD_is, cmpD_isn, cmpD_memL, cmpD_nmemL, cmpD_memT, cmpD_nmemT, isN_none, isN_int, isN_tup, isN_lst, isN_bool, isN_str, flat_int, flat_str, flat_none, flat_bool, fnD_lenL, fnD_lenT, fnD_lenS, fnD_intB, fnD_str, fnD_tupL, fnD_tupT, fnD_lstL, fnD_lstT, fnD_all, idxD_L, idxD_T, idxD_S, slcD_L, slcD_T, itemsD_L, itemsD_T, asD_shr, asD_frs, asB_ok, okCall_t, noBrw_nil, noBrw_shr, noBrw_frs, tests_nil, tests_one, at0, at1, at2, lim_eq, List.set_cons_zero, List.set_cons_succ, List.getElem?_cons_zero, List.getElem?_cons_succ, List.length_cons, List.length_nil, List.map_cons, List.map_nil, Option.map_some, Option.map_none, if_true, if_false, ite_true, ite_false, reduceIte, reduceCtorEq, decide_true, decide_false, Nat.reduceAdd, Nat.reduceSub, Nat.reduceEqDiff, Int.reduceNeg, Int.reduceLT, Int.reduceLE, Bool.not_true, Bool.not_false, Nat.reduceLeDiff, and_self, true_and, and_true, ranD, Nat.reduceLeDiff]; try rfl)).trans rfl
end Law
namespace Law
open PySem Dv
/-! ### what is told is what is due -/
theorem words_fine (l : List Nat) : fine 1 (.list (wordsD l)) := fine_lst fun d hd => by
  obtain ⟨x, _, rfl⟩ := List.mem_map.mp hd
  exact fine_int _ _
theorem ranD_fine (r : List Nat × Option Stt') : fine 3 (ranD r) := fine_tup fun d hd => by
  simp only [List.mem_cons, List.not_mem_nil, or_false] at hd
  rcases hd with rfl | rfl
  · exact fine_lst fun d hd => by
      obtain ⟨x, _, rfl⟩ := List.mem_map.mp hd
      exact fine_int _ _
  · exact optS_fine _
theorem ranD_ne (r : List Nat × Option Stt') : cmpD .ne (ranD r) (ranD r) = some false := by rw [cmpD_nef (ranD_fine r) (ranD_fine r) (by decide) (by decide), (ranD_fine r).refl]; rfl
section
variable {fu n : Nat} {p : Prog}
theorem law_is_ok (r : List Nat × Option Stt') (hl : r.1.length ≤ 1000) : run tab fu (n + 2) "_law_is" [ranD r, ranD r] = some (.ok .shr (.bool true)) := by
  have w := fun i => whole_ok (fu := fu) (n := n) i
  have hc := ranD_ne r
  have ok : okTy (ranD r) = true := rfl
  have is : isInst (ranD r) .tuple = true := rfl
  have i0 : idxD (ranD r) (.int 0) = some (.list (wordsD r.1)) := at0
  have ok0 : okTy (PyData.list (wordsD r.1)) = true := rfl
  have is0 : isInst (PyData.list (wordsD r.1)) .list = true := rfl
  have hn : fnD .len (ranD r) = some (.ok .shr (.int 2)) := rfl
  rw [run_law_is]
  refine runD_rt rfl ?_
  unfold d_law_is
  rw [show Dv.start _ _ = [some (false, ranD r), some (false, ranD r), none] from rfl]
  refine (seq (st' := [some (false, ranD r), some (false, ranD r), none]) (by simp only [runD, Dv.start, evSs_nil, evSs_cons, evS, evE, evL, evB, evAnd, evOr, evO, onOwn, guardO, setAll, thenS_nx, thenS_rt, thenS_ex, onV_ok, onV_ex, onB_ok, onB_ex, bindV_ok, bindV_ex, boolV_ok, bindA_ok, consA_ok, optI_none, optI_some, outcome_nx, outcome_shr, outcome_frs, outcome_ex, setV_shr, setV_frs, binD_add, binD_addT, binD_addL, binD_sub, binD_mulr, binD_mull, binD_fdiv', binD_mod', cmpD_lt, cmpD_le, cmpD_gt, cmpD_ge, cmpD_eqi, cmpD_nei, cmpD_is, cmpD_isn, cmpD_memL, cmpD_nmemL, cmpD_memT, cmpD_nmemT, isN_none, isN_int, isN_tup, isN_lst, isN_bool, isN_str, flat_int, flat_str, flat_none, flat_bool, fnD_lenL, fnD_lenT, fnD_lenS, fnD_intB, fnD_str, fnD_tupL, fnD_tupT, fnD_lstL, fnD_lstT, fnD_all, idxD_L, idxD_T, idxD_S, slcD_L, slcD_T, itemsD_L, itemsD_T, asD_shr, asD_frs, asB_ok, okCall_t, noBrw_nil, noBrw_shr, noBrw_frs, tests_nil, tests_one, at0, at1, at2, lim_eq, List.set_cons_zero, List.set_cons_succ, List.getElem?_cons_zero, List.getElem?_cons_succ, List.length_cons, List.length_nil, List.map_cons, List.map_nil, Option.map_some, Option.map_none, if_true, if_false, ite_true, ite_false, reduceIte, reduceCtorEq, decide_true, decide_false, Nat.reduceAdd, Nat.reduceSub, Nat.reduceEqDiff, Int.reduceNeg, Int.reduceLT, Int.reduceLE, Bool.not_true, Bool.not_false, Nat.reduceLeDiff, and_self, true_and, and_true, ok, is, hn, i0, ok0, is0, hc, beq_self_eq_true, Bool.false_eq_true])).trans ?_
  have hcg : compGo (fun d => tests (evB (run tab fu (n + 1)) i_law_is_0 [some (false, ranD r), some (false, ranD r), some (false, d)])) (fun d => asD (evE (run tab fu (n + 1)) e_law_is_1 [some (false, ranD r), some (false, ranD r), some (false, d)])) (wordsD r.1) = some ((wordsD r.1).map fun _ => .bool true) := by
    refine compGo_all _ fun d hd => ?_
    obtain ⟨m, _, rfl⟩ := List.mem_map.mp hd
    refine ⟨rfl, ?_⟩
    unfold e_law_is_1
    simp only [runD, Dv.start, evSs_nil, evSs_cons, evS, evE, evL, evB, evAnd, evOr, evO, onOwn, guardO, setAll, thenS_nx, thenS_rt, thenS_ex, onV_ok, onV_ex, onB_ok, onB_ex, bindV_ok, bindV_ex, boolV_ok, bindA_ok, consA_ok, optI_none, optI_some, outcome_nx, outcome_shr, outcome_frs, outcome_ex, setV_shr, setV_frs, binD_add, binD_addT, binD_addL, binD_sub, binD_mulr, binD_mull, binD_fdiv', binD_mod', cmpD_lt, cmpD_le, cmpD_gt, cmpD_ge, cmpD_eqi, cmpD_nei, cmpD_is, cmpD_isn, cmpD_memL, cmpD_nmemL, cmpD_memT, cmpD_nmemT, isN_none, isN_int, isN_tup, isN_lst, isN_bool, isN_str, flat_int, flat_str, flat_none, flat_bool, fnD_lenL, fnD_lenT, fnD_lenS, fnD_intB, fnD_str, fnD_tupL, fnD_tupT, fnD_lstL, fnD_lstT, fnD_all, idxD_L, idxD_T, idxD_S, slcD_L, slcD_T, itemsD_L, itemsD_T, asD_shr, asD_frs, asB_ok, okCall_t, noBrw_nil, noBrw_shr, noBrw_frs, tests_nil, tests_one, at0, at1, at2, lim_eq, List.set_cons_zero, List.set_cons_succ, List.getElem?_cons_zero, List.getElem?_cons_succ, List.length_cons, List.length_nil, List.map_cons, List.map_nil, Option.map_some, Option.map_none, if_true, if_false, ite_true, ite_false, reduceIte, reduceCtorEq, decide_true, decide_false, Nat.reduceAdd, Nat.reduceSub, Nat.reduceEqDiff, Int.reduceNeg, Int.reduceLT, Int.reduceLE, Bool.not_true, Bool.not_false, Nat.reduceLeDiff, and_self, true_and, and_true, w]
  have hb := bools_rep (wordsD r.1)
  have ha : ((wordsD r.1).map fun _ => true).all id = true := by simp
  have hl2 : r.1.length ≤ 100000 := by omega
  have hwl : (wordsD r.1).length = r.1.length := by unfold wordsD; rw [List.length_map]
  refine (seq_rt (d := .bool true) ?_).trans rfl
  simp only [runD, Dv.start, evSs_nil, evSs_cons, evS, evE, evL, evB, evAnd, evOr, evO, onOwn, guardO, setAll, thenS_nx, thenS_rt, thenS_ex, onV_ok, onV_ex, onB_ok, onB_ex, bindV_ok, bindV_ex, boolV_ok, bindA_ok, consA_ok, optI_none, optI_some, outcome_nx, outcome_shr, outcome_frs, outcome_ex, setV_shr, setV_frs, binD_add, binD_addT, binD_addL, binD_sub, binD_mulr, binD_mull, binD_fdiv', binD_mod', cmpD_lt, cmpD_le, cmpD_gt, cmpD_ge, cmpD_eqi, cmpD_nei, cmpD_is, cmpD_isn, cmpD_memL, cmpD_nmemL, cmpD_memT, cmpD_nmemT, isN_none, isN_int, isN_tup, isN_lst, isN_bool, isN_str, flat_int, flat_str, flat_none, flat_bool, fnD_lenL, fnD_lenT, fnD_lenS, fnD_intB, fnD_str, fnD_tupL, fnD_tupT, fnD_lstL, fnD_lstT, fnD_all, idxD_L, idxD_T, idxD_S, slcD_L, slcD_T, itemsD_L, itemsD_T, asD_shr, asD_frs, asB_ok, okCall_t, noBrw_nil, noBrw_shr, noBrw_frs, tests_nil, tests_one, at0, at1, at2, lim_eq, List.set_cons_zero, List.set_cons_succ, List.getElem?_cons_zero, List.getElem?_cons_succ, List.length_cons, List.length_nil, List.map_cons, List.map_nil, Option.map_some, Option.map_none, if_true, if_false, ite_true, ite_false, reduceIte, reduceCtorEq, decide_true, decide_false, Nat.reduceAdd, Nat.reduceSub, Nat.reduceEqDiff, Int.reduceNeg, Int.reduceLT, Int.reduceLE, Bool.not_true, Bool.not_false, Nat.reduceLeDiff, and_self, true_and, and_true, i0, hcg, sized, List.length_map, hwl, hl2, hb, ha]
theorem due_ok (hp : p.Ok) {s : Stt'} (hs : StateOk p s) (m : Nat) (hm : m ≤ 1000) : run tab fu (n + 3) "_law_due" [p.d, stD s, .int (m : Int)] = some (.ok .shr (ranD (ranV p m (some s)))) := by
  rw [run_law_due]
  refine runD_rt rfl ?_
  unfold d_law_due
  rw [show Dv.start _ _ = [some (false, p.d), some (false, stD s), some (false, .int (m : Int)), none, none, none] from rfl]
  refine (seq (st' := [some (false, p.d), some (false, optS (some s)), some (false, .int (m : Int)), some (true, .list (wordsD [])), none, none]) (by simp only [runD, Dv.start, evSs_nil, evSs_cons, evS, evE, evL, evB, evAnd, evOr, evO, onOwn, guardO, setAll, thenS_nx, thenS_rt, thenS_ex, onV_ok, onV_ex, onB_ok, onB_ex, bindV_ok, bindV_ex, boolV_ok, bindA_ok, consA_ok, optI_none, optI_some, outcome_nx, outcome_shr, outcome_frs, outcome_ex, setV_shr, setV_frs, binD_add, binD_addT, binD_addL, binD_sub, binD_mulr, binD_mull, binD_fdiv', binD_mod', cmpD_lt, cmpD_le, cmpD_gt, cmpD_ge, cmpD_eqi, cmpD_nei, cmpD_is, cmpD_isn, cmpD_memL, cmpD_nmemL, cmpD_memT, cmpD_nmemT, isN_none, isN_int, isN_tup, isN_lst, isN_bool, isN_str, flat_int, flat_str, flat_none, flat_bool, fnD_lenL, fnD_lenT, fnD_lenS, fnD_intB, fnD_str, fnD_tupL, fnD_tupT, fnD_lstL, fnD_lstT, fnD_all, idxD_L, idxD_T, idxD_S, slcD_L, slcD_T, itemsD_L, itemsD_T, asD_shr, asD_frs, asB_ok, okCall_t, noBrw_nil, noBrw_shr, noBrw_frs, tests_nil, tests_one, at0, at1, at2, lim_eq, List.set_cons_zero, List.set_cons_succ, List.getElem?_cons_zero, List.getElem?_cons_succ, List.length_cons, List.length_nil, List.map_cons, List.map_nil, Option.map_some, Option.map_none, if_true, if_false, ite_true, ite_false, reduceIte, reduceCtorEq, decide_true, decide_false, Nat.reduceAdd, Nat.reduceSub, Nat.reduceEqDiff, Int.reduceNeg, Int.reduceLT, Int.reduceLE, Bool.not_true, Bool.not_false, Nat.reduceLeDiff, and_self, true_and, and_true, Nat.zero_le]; rfl)).trans ?_
  obtain ⟨st', el, k4, k5, est⟩ := forGo_rng (f := fun d st => evSs (run tab fu (n + 2)) fu b_law_due_0 (List.set st 4 (some (false, d))))
    (fun j st => ∃ (k4 k5 : Option (Bool × D)), st = [some (false, p.d), some (false, optS (ranV p j (some s)).2), some (false, .int (m : Int)), some (true, .list (wordsD (ranV p j (some s)).1)), k4, k5]) m
    [some (false, p.d), some (false, optS (some s)), some (false, .int (m : Int)), some (true, .list (wordsD [])), none, none] (by
      rintro j st hj ⟨k4, k5, rfl⟩
      have ra := ranV_add p j 1 (some s)
      have rl := ranV_len p j (some s)
      show ∃ st', evSs _ _ _ [some (false, p.d), some (false, optS (ranV p j (some s)).2), some (false, .int (m : Int)), some (true, .list (wordsD (ranV p j (some s)).1)), some (false, .int (j : Int)), k5] = some (.nx st') ∧ _
      unfold b_law_due_0
      cases e : (ranV p j (some s)).2 with
      | none =>
        rw [e, ranV_none, List.append_nil] at ra
        refine ⟨[some (false, p.d), some (false, optS none), some (false, .int (m : Int)), some (true, .list (wordsD (ranV p j (some s)).1)), some (false, .int (j : Int)), k5], ?_, some (false, .int (j : Int)), k5, by rw [ra]⟩
        refine (seq ?_).trans evSs_nil
        simp only [runD, Dv.start, evSs_nil, evSs_cons, evS, evE, evL, evB, evAnd, evOr, evO, onOwn, guardO, setAll, thenS_nx, thenS_rt, thenS_ex, onV_ok, onV_ex, onB_ok, onB_ex, bindV_ok, bindV_ex, boolV_ok, bindA_ok, consA_ok, optI_none, optI_some, outcome_nx, outcome_shr, outcome_frs, outcome_ex, setV_shr, setV_frs, binD_add, binD_addT, binD_addL, binD_sub, binD_mulr, binD_mull, binD_fdiv', binD_mod', cmpD_lt, cmpD_le, cmpD_gt, cmpD_ge, cmpD_eqi, cmpD_nei, cmpD_is, cmpD_isn, cmpD_memL, cmpD_nmemL, cmpD_memT, cmpD_nmemT, isN_none, isN_int, isN_tup, isN_lst, isN_bool, isN_str, flat_int, flat_str, flat_none, flat_bool, fnD_lenL, fnD_lenT, fnD_lenS, fnD_intB, fnD_str, fnD_tupL, fnD_tupT, fnD_lstL, fnD_lstT, fnD_all, idxD_L, idxD_T, idxD_S, slcD_L, slcD_T, itemsD_L, itemsD_T, asD_shr, asD_frs, asB_ok, okCall_t, noBrw_nil, noBrw_shr, noBrw_frs, tests_nil, tests_one, at0, at1, at2, lim_eq, List.set_cons_zero, List.set_cons_succ, List.getElem?_cons_zero, List.getElem?_cons_succ, List.length_cons, List.length_nil, List.map_cons, List.map_nil, Option.map_some, Option.map_none, if_true, if_false, ite_true, ite_false, reduceIte, reduceCtorEq, decide_true, decide_false, Nat.reduceAdd, Nat.reduceSub, Nat.reduceEqDiff, Int.reduceNeg, Int.reduceLT, Int.reduceLE, Bool.not_true, Bool.not_false, Nat.reduceLeDiff, and_self, true_and, and_true, optS, Bool.false_eq_true]
      | some t =>
        rw [e, show ranV p 1 (some t) = (toldL (stepV p t).2 ++ [], (stepV p t).1) from rfl, List.append_nil] at ra
        have ht := ranV_ok hp j (some s) (fun u q => by cases q; exact hs) t e
        have s2 := law_step_is (fu := fu) (n := n) hp ht
        have hc : evE (run tab fu (n + 2)) (.cmp .isn (.var 1) .non) [some (false, p.d), some (false, optS (some t)), some (false, .int (m : Int)), some (true, .list (wordsD (ranV p j (some s)).1)), some (false, .int (j : Int)), k5] = some (.ok .shr (.bool true)) := rfl
        refine ⟨[some (false, p.d), some (false, optS (stepV p t).1), some (false, .int (m : Int)), some (true, .list (wordsD ((ranV p j (some s)).1 ++ toldL (stepV p t).2))), some (false, .int (j : Int)), some (false, cellD (stepV p t).2)], ?_, some (false, .int (j : Int)), some (false, cellD (stepV p t).2), by rw [ra]⟩
        refine (seq ?_).trans evSs_nil
        rw [evS, hc, onB_ok, if_pos rfl]
        refine (seq (st' := [some (false, p.d), some (false, optS (stepV p t).1), some (false, .int (m : Int)), some (true, .list (wordsD (ranV p j (some s)).1)), some (false, .int (j : Int)), some (false, cellD (stepV p t).2)]) ?_).trans ?_
        · have e1 : evE (run tab fu (n + 2)) (.call "_law_step" [.var 0, .var 1]) [some (false, p.d), some (false, optS (some t)), some (false, .int (m : Int)), some (true, .list (wordsD (ranV p j (some s)).1)), some (false, .int (j : Int)), k5] = some (.ok .shr (pairD (stepV p t))) := by
            rw [evE, evL, evL, evL]
            exact s2
          rw [evS, e1]; rfl
        · refine (seq ?_).trans evSs_nil
          cases et : (stepV p t).2 with
          | none =>
            rw [show toldL none = [] from rfl, List.append_nil]
            simp only [runD, Dv.start, evSs_nil, evSs_cons, evS, evE, evL, evB, evAnd, evOr, evO, onOwn, guardO, setAll, thenS_nx, thenS_rt, thenS_ex, onV_ok, onV_ex, onB_ok, onB_ex, bindV_ok, bindV_ex, boolV_ok, bindA_ok, consA_ok, optI_none, optI_some, outcome_nx, outcome_shr, outcome_frs, outcome_ex, setV_shr, setV_frs, binD_add, binD_addT, binD_addL, binD_sub, binD_mulr, binD_mull, binD_fdiv', binD_mod', cmpD_lt, cmpD_le, cmpD_gt, cmpD_ge, cmpD_eqi, cmpD_nei, cmpD_is, cmpD_isn, cmpD_memL, cmpD_nmemL, cmpD_memT, cmpD_nmemT, isN_none, isN_int, isN_tup, isN_lst, isN_bool, isN_str, flat_int, flat_str, flat_none, flat_bool, fnD_lenL, fnD_lenT, fnD_lenS, fnD_intB, fnD_str, fnD_tupL, fnD_tupT, fnD_lstL, fnD_lstT, fnD_all, idxD_L, idxD_T, idxD_S, slcD_L, slcD_T, itemsD_L, itemsD_T, asD_shr, asD_frs, asB_ok, okCall_t, noBrw_nil, noBrw_shr, noBrw_frs, tests_nil, tests_one, at0, at1, at2, lim_eq, List.set_cons_zero, List.set_cons_succ, List.getElem?_cons_zero, List.getElem?_cons_succ, List.length_cons, List.length_nil, List.map_cons, List.map_nil, Option.map_some, Option.map_none, if_true, if_false, ite_true, ite_false, reduceIte, reduceCtorEq, decide_true, decide_false, Nat.reduceAdd, Nat.reduceSub, Nat.reduceEqDiff, Int.reduceNeg, Int.reduceLT, Int.reduceLE, Bool.not_true, Bool.not_false, Nat.reduceLeDiff, and_self, true_and, and_true, cellD, Bool.false_eq_true]
          | some x =>
            have hw : (wordsD (ranV p j (some s)).1).length < 100000 := by unfold wordsD; rw [List.length_map]; omega
            have ew : wordsD (ranV p j (some s)).1 ++ [PyData.int (x : Int)] = wordsD ((ranV p j (some s)).1 ++ toldL (some x)) := by unfold wordsD; rw [List.map_append]; rfl
            simp only [runD, Dv.start, evSs_nil, evSs_cons, evS, evE, evL, evB, evAnd, evOr, evO, onOwn, guardO, setAll, thenS_nx, thenS_rt, thenS_ex, onV_ok, onV_ex, onB_ok, onB_ex, bindV_ok, bindV_ex, boolV_ok, bindA_ok, consA_ok, optI_none, optI_some, outcome_nx, outcome_shr, outcome_frs, outcome_ex, setV_shr, setV_frs, binD_add, binD_addT, binD_addL, binD_sub, binD_mulr, binD_mull, binD_fdiv', binD_mod', cmpD_lt, cmpD_le, cmpD_gt, cmpD_ge, cmpD_eqi, cmpD_nei, cmpD_is, cmpD_isn, cmpD_memL, cmpD_nmemL, cmpD_memT, cmpD_nmemT, isN_none, isN_int, isN_tup, isN_lst, isN_bool, isN_str, flat_int, flat_str, flat_none, flat_bool, fnD_lenL, fnD_lenT, fnD_lenS, fnD_intB, fnD_str, fnD_tupL, fnD_tupT, fnD_lstL, fnD_lstT, fnD_all, idxD_L, idxD_T, idxD_S, slcD_L, slcD_T, itemsD_L, itemsD_T, asD_shr, asD_frs, asB_ok, okCall_t, noBrw_nil, noBrw_shr, noBrw_frs, tests_nil, tests_one, at0, at1, at2, lim_eq, List.set_cons_zero, List.set_cons_succ, List.getElem?_cons_zero, List.getElem?_cons_succ, List.length_cons, List.length_nil, List.map_cons, List.map_nil, Option.map_some, Option.map_none, if_true, if_false, ite_true, ite_false, reduceIte, reduceCtorEq, decide_true, decide_false, Nat.reduceAdd, Nat.reduceSub, Nat.reduceEqDiff, Int.reduceNeg, Int.reduceLT, Int.reduceLE, Bool.not_true, Bool.not_false, Nat.reduceLeDiff, and_self, true_and, and_true, cellD, hw, ew]) ⟨none, none, rfl⟩
  subst est
  refine (seq ((forR_of (m := m) ?_ (by omega)).trans el)).trans ?_
  · simp only [runD, Dv.start, evSs_nil, evSs_cons, evS, evE, evL, evB, evAnd, evOr, evO, onOwn, guardO, setAll, thenS_nx, thenS_rt, thenS_ex, onV_ok, onV_ex, onB_ok, onB_ex, bindV_ok, bindV_ex, boolV_ok, bindA_ok, consA_ok, optI_none, optI_some, outcome_nx, outcome_shr, outcome_frs, outcome_ex, setV_shr, setV_frs, binD_add, binD_addT, binD_addL, binD_sub, binD_mulr, binD_mull, binD_fdiv', binD_mod', cmpD_lt, cmpD_le, cmpD_gt, cmpD_ge, cmpD_eqi, cmpD_nei, cmpD_is, cmpD_isn, cmpD_memL, cmpD_nmemL, cmpD_memT, cmpD_nmemT, isN_none, isN_int, isN_tup, isN_lst, isN_bool, isN_str, flat_int, flat_str, flat_none, flat_bool, fnD_lenL, fnD_lenT, fnD_lenS, fnD_intB, fnD_str, fnD_tupL, fnD_tupT, fnD_lstL, fnD_lstT, fnD_all, idxD_L, idxD_T, idxD_S, slcD_L, slcD_T, itemsD_L, itemsD_T, asD_shr, asD_frs, asB_ok, okCall_t, noBrw_nil, noBrw_shr, noBrw_frs, tests_nil, tests_one, at0, at1, at2, lim_eq, List.set_cons_zero, List.set_cons_succ, List.getElem?_cons_zero, List.getElem?_cons_succ, List.length_cons, List.length_nil, List.map_cons, List.map_nil, Option.map_some, Option.map_none, if_true, if_false, ite_true, ite_false, reduceIte, reduceCtorEq, decide_true, decide_false, Nat.reduceAdd, Nat.reduceSub, Nat.reduceEqDiff, Int.reduceNeg, Int.reduceLT, Int.reduceLE, Bool.not_true, Bool.not_false, Nat.reduceLeDiff, and_self, true_and, and_true]
  refine (seq (st' := [some (false, p.d), some (false, optS (ranV p m (some s)).2), some (false, .int (m : Int)), some (false, .list (wordsD (ranV p m (some s)).1)), k4, k5]) (by simp only [runD, Dv.start, evSs_nil, evSs_cons, evS, evE, evL, evB, evAnd, evOr, evO, onOwn, guardO, setAll, thenS_nx, thenS_rt, thenS_ex, onV_ok, onV_ex, onB_ok, onB_ex, bindV_ok, bindV_ex, boolV_ok, bindA_ok, consA_ok, optI_none, optI_some, outcome_nx, outcome_shr, outcome_frs, outcome_ex, setV_shr, setV_frs, binD_add, binD_addT, binD_addL, binD_sub, binD_mulr, binD_mull, binD_fdiv', binD_mod', cmpD_lt, cmpD_le, cmpD_gt, cmpD_ge, cmpD_eqi, cmpD_nei, cmpD_is, cmpD_isn, cmpD_memL, cmpD_nmemL, cmpD_memT, cmpD_nmemT, isN_none, isN_int, isN_tup, isN_lst, isN_bool, isN_str, flat_int, flat_str, flat_none, flat_bool, fnD_lenL, fnD_lenT, fnD_lenS, fnD_intB, fnD_str, fnD_tupL, fnD_tupT, fnD_lstL, fnD_lstT, fnD_all, idxD_L, idxD_T, idxD_S, slcD_L, slcD_T, itemsD_L, itemsD_T, asD_shr, asD_frs, asB_ok, okCall_t, noBrw_nil, noBrw_shr, noBrw_frs, tests_nil, tests_one, at0, at1, at2, lim_eq, List.set_cons_zero, List.set_cons_succ, List.getElem?_cons_zero, List.getElem?_cons_succ, List.length_cons, List.length_nil, List.map_cons, List.map_nil, Option.map_some, Option.map_none, if_true, if_false, ite_true, ite_false, reduceIte, reduceCtorEq, decide_true, decide_false, Nat.reduceAdd, Nat.reduceSub, Nat.reduceEqDiff, Int.reduceNeg, Int.reduceLT, Int.reduceLE, Bool.not_true, Bool.not_false, Nat.reduceLeDiff, and_self, true_and, and_true])).trans ?_
  exact (seq_rt (by simp only [runD, Dv.start, evSs_nil, evSs_cons, evS, evE, evL, evB, evAnd, evOr, evO, onOwn, guardO, setAll, thenS_nx, thenS_rt, thenS_ex, onV_ok, onV_ex, onB_ok, onB_ex, bindV_ok, bindV_ex, boolV_ok, bindA_ok, consA_ok, optI_none, optI_some, outcome_nx, outcome_shr, outcome_frs, outcome_ex, setV_shr, setV_frs, binD_add, binD_addT, binD_addL, binD_sub, binD_mulr, binD_mull, binD_fdiv', binD_mod', cmpD_lt, cmpD_le, cmpD_gt, cmpD_ge, cmpD_eqi, cmpD_nei, cmpD_is, cmpD_isn, cmpD_memL, cmpD_nmemL, cmpD_memT, cmpD_nmemT, isN_none, isN_int, isN_tup, isN_lst, isN_bool, isN_str, flat_int, flat_str, flat_none, flat_bool, fnD_lenL, fnD_lenT, fnD_lenS, fnD_intB, fnD_str, fnD_tupL, fnD_tupT, fnD_lstL, fnD_lstT, fnD_all, idxD_L, idxD_T, idxD_S, slcD_L, slcD_T, itemsD_L, itemsD_T, asD_shr, asD_frs, asB_ok, okCall_t, noBrw_nil, noBrw_shr, noBrw_frs, tests_nil, tests_one, at0, at1, at2, lim_eq, List.set_cons_zero, List.set_cons_succ, List.getElem?_cons_zero, List.getElem?_cons_succ, List.length_cons, List.length_nil, List.map_cons, List.map_nil, Option.map_some, Option.map_none, if_true, if_false, ite_true, ite_false, reduceIte, reduceCtorEq, decide_true, decide_false, Nat.reduceAdd, Nat.reduceSub, Nat.reduceEqDiff, Int.reduceNeg, Int.reduceLT, Int.reduceLE, Bool.not_true, Bool.not_false, Nat.reduceLeDiff, and_self, true_and, and_true, ranD, Nat.reduceLeDiff]; try rfl)).trans rfl
/-! ### what is refused -/
theorem suite_state : evHs "BadState" [] [(4, .add (.rep "state" (.isE "BadState")) (.rep "count" (.isE "BadCount"))), (5, .isEs ["BadPlaces", "BadProgram", "Busy", "Over", "Unsafe"])] (.add (.add (.var 4) (.rep "others" (.var 5))) (.rep "value" (.isV))) = some (.l ["state", "value"]) := by
  have e1 : (["BadPlaces", "BadProgram", "Busy", "Over", "Unsafe"] : List Str).any (isSub "BadState") = false := by decide +kernel
  have e2 : isSub "BadState" "BadState" = true := by decide +kernel
  have e3 : isSub "BadState" "BadCount" = false := by decide +kernel
  simp [evHs, evH, e1, e2, e3, List.lookup]
theorem suite_count : evHs "BadCount" [] [(4, .add (.rep "state" (.isE "BadState")) (.rep "count" (.isE "BadCount"))), (5, .isEs ["BadPlaces", "BadProgram", "Busy", "Over", "Unsafe"])] (.add (.add (.var 4) (.rep "others" (.var 5))) (.rep "value" (.isV))) = some (.l ["count", "value"]) := by
  have e1 : (["BadPlaces", "BadProgram", "Busy", "Over", "Unsafe"] : List Str).any (isSub "BadCount") = false := by decide +kernel
  have e2 : isSub "BadCount" "BadState" = false := by decide +kernel
  have e3 : isSub "BadCount" "BadCount" = true := by decide +kernel
  simp [evHs, evH, e1, e2, e3, List.lookup]
theorem ran_no_state {d x : D} (h : BadSt p d) : run tab fu (n + 4) "ran" [p.d, d, x] = some (.ex "BadState") := by
  have e := need_state_no (fu := fu) (n := n) p h.1 h.2
  rw [run_ran]
  refine runD_ex rfl ?_
  unfold d_ran
  rw [show Dv.start _ _ = [some (false, p.d), some (false, d), some (false, x), none, none, none] from rfl]
  refine seq_ex ?_
  simp only [runD, Dv.start, evSs_nil, evSs_cons, evS, evE, evL, evB, evAnd, evOr, evO, onOwn, guardO, setAll, thenS_nx, thenS_rt, thenS_ex, onV_ok, onV_ex, onB_ok, onB_ex, bindV_ok, bindV_ex, boolV_ok, bindA_ok, consA_ok, optI_none, optI_some, outcome_nx, outcome_shr, outcome_frs, outcome_ex, setV_shr, setV_frs, binD_add, binD_addT, binD_addL, binD_sub, binD_mulr, binD_mull, binD_fdiv', binD_mod', cmpD_lt, cmpD_le, cmpD_gt, cmpD_ge, cmpD_eqi, cmpD_nei, cmpD_is, cmpD_isn, cmpD_memL, cmpD_nmemL, cmpD_memT, cmpD_nmemT, isN_none, isN_int, isN_tup, isN_lst, isN_bool, isN_str, flat_int, flat_str, flat_none, flat_bool, fnD_lenL, fnD_lenT, fnD_lenS, fnD_intB, fnD_str, fnD_tupL, fnD_tupT, fnD_lstL, fnD_lstT, fnD_all, idxD_L, idxD_T, idxD_S, slcD_L, slcD_T, itemsD_L, itemsD_T, asD_shr, asD_frs, asB_ok, okCall_t, noBrw_nil, noBrw_shr, noBrw_frs, tests_nil, tests_one, at0, at1, at2, lim_eq, List.set_cons_zero, List.set_cons_succ, List.getElem?_cons_zero, List.getElem?_cons_succ, List.length_cons, List.length_nil, List.map_cons, List.map_nil, Option.map_some, Option.map_none, if_true, if_false, ite_true, ite_false, reduceIte, reduceCtorEq, decide_true, decide_false, Nat.reduceAdd, Nat.reduceSub, Nat.reduceEqDiff, Int.reduceNeg, Int.reduceLT, Int.reduceLE, Bool.not_true, Bool.not_false, Nat.reduceLeDiff, and_self, true_and, and_true, e]
/-- no count of steps -/
def noCount (x : D) : Prop := okTy x = true ∧ (isInst x .int = false ∨ isInst x .bool = true ∨ ∃ i : Int, x = .int i ∧ i < 0)
theorem ran_no_count (hp : p.Ok) {s : Stt'} (hs : StateOk p s) {x : D} (h : noCount x) : run tab fu (n + 4) "ran" [p.d, stD s, x] = some (.ex "BadCount") := by
  have e := need_state_yes (fu := fu) (n := n) p (state_plain hp.boxes hs) (state_yes hs)
  obtain ⟨ho, hx⟩ := h
  rw [run_ran]
  refine runD_ex rfl ?_
  unfold d_ran
  rw [show Dv.start _ _ = [some (false, p.d), some (false, stD s), some (false, x), none, none, none] from rfl]
  refine (seq (st' := [some (false, p.d), some (false, stD s), some (false, x), none, none, none]) (by simp only [runD, Dv.start, evSs_nil, evSs_cons, evS, evE, evL, evB, evAnd, evOr, evO, onOwn, guardO, setAll, thenS_nx, thenS_rt, thenS_ex, onV_ok, onV_ex, onB_ok, onB_ex, bindV_ok, bindV_ex, boolV_ok, bindA_ok, consA_ok, optI_none, optI_some, outcome_nx, outcome_shr, outcome_frs, outcome_ex, setV_shr, setV_frs, binD_add, binD_addT, binD_addL, binD_sub, binD_mulr, binD_mull, binD_fdiv', binD_mod', cmpD_lt, cmpD_le, cmpD_gt, cmpD_ge, cmpD_eqi, cmpD_nei, cmpD_is, cmpD_isn, cmpD_memL, cmpD_nmemL, cmpD_memT, cmpD_nmemT, isN_none, isN_int, isN_tup, isN_lst, isN_bool, isN_str, flat_int, flat_str, flat_none, flat_bool, fnD_lenL, fnD_lenT, fnD_lenS, fnD_intB, fnD_str, fnD_tupL, fnD_tupT, fnD_lstL, fnD_lstT, fnD_all, idxD_L, idxD_T, idxD_S, slcD_L, slcD_T, itemsD_L, itemsD_T, asD_shr, asD_frs, asB_ok, okCall_t, noBrw_nil, noBrw_shr, noBrw_frs, tests_nil, tests_one, at0, at1, at2, lim_eq, List.set_cons_zero, List.set_cons_succ, List.getElem?_cons_zero, List.getElem?_cons_succ, List.length_cons, List.length_nil, List.map_cons, List.map_nil, Option.map_some, Option.map_none, if_true, if_false, ite_true, ite_false, reduceIte, reduceCtorEq, decide_true, decide_false, Nat.reduceAdd, Nat.reduceSub, Nat.reduceEqDiff, Int.reduceNeg, Int.reduceLT, Int.reduceLE, Bool.not_true, Bool.not_false, Nat.reduceLeDiff, and_self, true_and, and_true, e])).trans (seq_ex ?_)
  rcases hx with h | h | ⟨i, rfl, h⟩
  · simp only [runD, Dv.start, evSs_nil, evSs_cons, evS, evE, evL, evB, evAnd, evOr, evO, onOwn, guardO, setAll, thenS_nx, thenS_rt, thenS_ex, onV_ok, onV_ex, onB_ok, onB_ex, bindV_ok, bindV_ex, boolV_ok, bindA_ok, consA_ok, optI_none, optI_some, outcome_nx, outcome_shr, outcome_frs, outcome_ex, setV_shr, setV_frs, binD_add, binD_addT, binD_addL, binD_sub, binD_mulr, binD_mull, binD_fdiv', binD_mod', cmpD_lt, cmpD_le, cmpD_gt, cmpD_ge, cmpD_eqi, cmpD_nei, cmpD_is, cmpD_isn, cmpD_memL, cmpD_nmemL, cmpD_memT, cmpD_nmemT, isN_none, isN_int, isN_tup, isN_lst, isN_bool, isN_str, flat_int, flat_str, flat_none, flat_bool, fnD_lenL, fnD_lenT, fnD_lenS, fnD_intB, fnD_str, fnD_tupL, fnD_tupT, fnD_lstL, fnD_lstT, fnD_all, idxD_L, idxD_T, idxD_S, slcD_L, slcD_T, itemsD_L, itemsD_T, asD_shr, asD_frs, asB_ok, okCall_t, noBrw_nil, noBrw_shr, noBrw_frs, tests_nil, tests_one, at0, at1, at2, lim_eq, List.set_cons_zero, List.set_cons_succ, List.getElem?_cons_zero, List.getElem?_cons_succ, List.length_cons, List.length_nil, List.map_cons, List.map_nil, Option.map_some, Option.map_none, if_true, if_false, ite_true, ite_false, reduceIte, reduceCtorEq, decide_true, decide_false, Nat.reduceAdd, Nat.reduceSub, Nat.reduceEqDiff, Int.reduceNeg, Int.reduceLT, Int.reduceLE, Bool.not_true, Bool.not_false, Nat.reduceLeDiff, and_self, true_and, and_true, ho, h]
  · cases hi : isInst x .int with
    | false => simp only [runD, Dv.start, evSs_nil, evSs_cons, evS, evE, evL, evB, evAnd, evOr, evO, onOwn, guardO, setAll, thenS_nx, thenS_rt, thenS_ex, onV_ok, onV_ex, onB_ok, onB_ex, bindV_ok, bindV_ex, boolV_ok, bindA_ok, consA_ok, optI_none, optI_some, outcome_nx, outcome_shr, outcome_frs, outcome_ex, setV_shr, setV_frs, binD_add, binD_addT, binD_addL, binD_sub, binD_mulr, binD_mull, binD_fdiv', binD_mod', cmpD_lt, cmpD_le, cmpD_gt, cmpD_ge, cmpD_eqi, cmpD_nei, cmpD_is, cmpD_isn, cmpD_memL, cmpD_nmemL, cmpD_memT, cmpD_nmemT, isN_none, isN_int, isN_tup, isN_lst, isN_bool, isN_str, flat_int, flat_str, flat_none, flat_bool, fnD_lenL, fnD_lenT, fnD_lenS, fnD_intB, fnD_str, fnD_tupL, fnD_tupT, fnD_lstL, fnD_lstT, fnD_all, idxD_L, idxD_T, idxD_S, slcD_L, slcD_T, itemsD_L, itemsD_T, asD_shr, asD_frs, asB_ok, okCall_t, noBrw_nil, noBrw_shr, noBrw_frs, tests_nil, tests_one, at0, at1, at2, lim_eq, List.set_cons_zero, List.set_cons_succ, List.getElem?_cons_zero, List.getElem?_cons_succ, List.length_cons, List.length_nil, List.map_cons, List.map_nil, Option.map_some, Option.map_none, if_true, if_false, ite_true, ite_false, reduceIte, reduceCtorEq, decide_true, decide_false, Nat.reduceAdd, Nat.reduceSub, Nat.reduceEqDiff, Int.reduceNeg, Int.reduceLT, Int.reduceLE, Bool.not_true, Bool.not_false, Nat.reduceLeDiff, and_self, true_and, and_true, ho, hi]
    | true => simp only [runD, Dv.start, evSs_nil, evSs_cons, evS, evE, evL, evB, evAnd, evOr, evO, onOwn, guardO, setAll, thenS_nx, thenS_rt, thenS_ex, onV_ok, onV_ex, onB_ok, onB_ex, bindV_ok, bindV_ex, boolV_ok, bindA_ok, consA_ok, optI_none, optI_some, outcome_nx, outcome_shr, outcome_frs, outcome_ex, setV_shr, setV_frs, binD_add, binD_addT, binD_addL, binD_sub, binD_mulr, binD_mull, binD_fdiv', binD_mod', cmpD_lt, cmpD_le, cmpD_gt, cmpD_ge, cmpD_eqi, cmpD_nei, cmpD_is, cmpD_isn, cmpD_memL, cmpD_nmemL, cmpD_memT, cmpD_nmemT, isN_none, isN_int, isN_tup, isN_lst, isN_bool, isN_str, flat_int, flat_str, flat_none, flat_bool, fnD_lenL, fnD_lenT, fnD_lenS, fnD_intB, fnD_str, fnD_tupL, fnD_tupT, fnD_lstL, fnD_lstT, fnD_all, idxD_L, idxD_T, idxD_S, slcD_L, slcD_T, itemsD_L, itemsD_T, asD_shr, asD_frs, asB_ok, okCall_t, noBrw_nil, noBrw_shr, noBrw_frs, tests_nil, tests_one, at0, at1, at2, lim_eq, List.set_cons_zero, List.set_cons_succ, List.getElem?_cons_zero, List.getElem?_cons_succ, List.length_cons, List.length_nil, List.map_cons, List.map_nil, Option.map_some, Option.map_none, if_true, if_false, ite_true, ite_false, reduceIte, reduceCtorEq, decide_true, decide_false, Nat.reduceAdd, Nat.reduceSub, Nat.reduceEqDiff, Int.reduceNeg, Int.reduceLT, Int.reduceLE, Bool.not_true, Bool.not_false, Nat.reduceLeDiff, and_self, true_and, and_true, ho, hi, h, Bool.false_eq_true]
  · simp only [runD, Dv.start, evSs_nil, evSs_cons, evS, evE, evL, evB, evAnd, evOr, evO, onOwn, guardO, setAll, thenS_nx, thenS_rt, thenS_ex, onV_ok, onV_ex, onB_ok, onB_ex, bindV_ok, bindV_ex, boolV_ok, bindA_ok, consA_ok, optI_none, optI_some, outcome_nx, outcome_shr, outcome_frs, outcome_ex, setV_shr, setV_frs, binD_add, binD_addT, binD_addL, binD_sub, binD_mulr, binD_mull, binD_fdiv', binD_mod', cmpD_lt, cmpD_le, cmpD_gt, cmpD_ge, cmpD_eqi, cmpD_nei, cmpD_is, cmpD_isn, cmpD_memL, cmpD_nmemL, cmpD_memT, cmpD_nmemT, isN_none, isN_int, isN_tup, isN_lst, isN_bool, isN_str, flat_int, flat_str, flat_none, flat_bool, fnD_lenL, fnD_lenT, fnD_lenS, fnD_intB, fnD_str, fnD_tupL, fnD_tupT, fnD_lstL, fnD_lstT, fnD_all, idxD_L, idxD_T, idxD_S, slcD_L, slcD_T, itemsD_L, itemsD_T, asD_shr, asD_frs, asB_ok, okCall_t, noBrw_nil, noBrw_shr, noBrw_frs, tests_nil, tests_one, at0, at1, at2, lim_eq, List.set_cons_zero, List.set_cons_succ, List.getElem?_cons_zero, List.getElem?_cons_succ, List.length_cons, List.length_nil, List.map_cons, List.map_nil, Option.map_some, Option.map_none, if_true, if_false, ite_true, ite_false, reduceIte, reduceCtorEq, decide_true, decide_false, Nat.reduceAdd, Nat.reduceSub, Nat.reduceEqDiff, Int.reduceNeg, Int.reduceLT, Int.reduceLE, Bool.not_true, Bool.not_false, Nat.reduceLeDiff, and_self, true_and, and_true, okTy, isInst, h, Bool.false_eq_true]
theorem word_ok {c w : Str} {d x : D} (h : run tab fu n "ran" [p.d, d, x] = some (.ex c)) (hc : c ∈ hc) (hw : evHs c [] [(4, .add (.rep "state" (.isE "BadState")) (.rep "count" (.isE "BadCount"))), (5, .isEs ["BadPlaces", "BadProgram", "Busy", "Over", "Unsafe"])] (.add (.add (.var 4) (.rep "others" (.var 5))) (.rep "value" (.isV))) = some (.l [w, "value"])) :
    run tab fu (n + 1) "_law_word" [p.d, d, x] = some (.ok .frs (.list [.str w, .str "value"])) := by
  rw [run_law_word]
  refine runD_frs rfl ?_
  unfold d_law_word
  rw [show Dv.start _ _ = [some (false, p.d), some (false, d), some (false, x), none, none, none] from rfl]
  have e : evE (run tab fu n) (.call "ran" [.var 0, .var 1, .var 2]) [some (false, p.d), some (false, d), some (false, x), none, none, none] = some (.ex c) := by
    rw [evE, evL, evL, evL, evL]
    exact h
  refine (seq_rt (k := .frs) (d := .list [.str w, .str "value"]) ?_).trans rfl
  rw [evS, e]
  show (if c ∈ Law.hc then _ else none) = _
  rw [if_pos hc, hw]
  rfl
end
end Law
namespace Law
open PySem Dv
/-! ### told lists in cells; seen as lists -/
mutual
theorem drf_lay (μ : Mu) : ∀ d : D, d.canLay0 = true → drf μ d = some d
  | .none, _ => by rw [drf]
  | .bool _, _ => by rw [drf]
  | .int _, _ => by rw [drf]
  | .str _, _ => by rw [drf]
  | .list ds, h => by rw [drf, drfs_lay μ ds (by simpa [PyData.canLay0] using h)]; rfl
  | .tuple ds, h => by rw [drf, drfs_lay μ ds (by simpa [PyData.canLay0] using h)]; rfl
  | .dict _, h => by simp [PyData.canLay0] at h
theorem drfs_lay (μ : Mu) : ∀ ds : List D, PyData.canLayAll0 ds = true → drfs μ ds = some ds
  | [], _ => by rw [drfs]
  | d :: ds, h => by
    simp only [PyData.canLayAll0, Bool.and_eq_true] at h
    rw [drfs, drf_lay μ d h.1, drfs_lay μ ds h.2]
end
theorem view_none (μ : Mu) : viewO μ none = none := rfl
theorem view_fine {μ : Mu} {n : Nat} {d : D} (h : fine n d) : viewO μ (some (false, d)) = some (false, d) := by
  show (drf μ d).map _ = _
  rw [drf_lay μ d h.1]; rfl
theorem view_scr (μ : Mu) (ns : List Int) : viewO μ (some (false, scrD ns)) = none := by
  simp [viewO, drf, scrD]
theorem words_scalar (l : List Nat) : (wordsD l).all scalar = true := by
  unfold wordsD
  rw [List.all_map, List.all_eq_true]
  exact fun _ _ => rfl
theorem view_told {μ : Mu} {r : List Nat × Option Stt'} (h : μ[0]? = some (.lst (wordsD r.1))) : viewO μ (some (false, .tuple [refD 0, optS r.2])) = some (false, ranD r) := by
  have e0 : drf μ (refD 0) = some (.list (wordsD r.1)) := by
    simp only [drf, refD, Int.toNat_natCast, h]
    rw [if_pos ⟨Int.natCast_nonneg 0, words_scalar _⟩]
  show (drf μ (.tuple [refD 0, optS r.2])).map _ = _
  rw [drf, drfs, drfs, drfs, e0, drf_lay μ _ (optS_fine r.2).1]
  rfl
section
variable {fl : List (Str × Str)} {Φ : Mu → Str → List D → Option EO} {Ψ Ψi : Mu → Str → List D → Option RO} {fu : Nat} {st : Ev} {μ μ' : Mu} {a : List M} {c e : E} {k : Kd} {d : D} {ds : List D} {i : Nat}
theorem miteV_no (h : evE (Φ []) c (viewS μ st) = some (.ok .shr (.bool false))) : evM fl Φ Ψ Ψi fu (.iteV c a []) st μ = some (.nx st μ) := by
  rw [evM, h]
  show evMs fl Φ Ψ Ψi fu [] st μ = _
  exact evMs_nil
theorem mretC (h : st[i]? = some (some (true, .list ds))) (h2 : evE (Φ μ) e st = some (.ok k d)) (hk : k ≠ .brw) : evM fl Φ Ψ Ψi fu (.retC i e) st μ = some (.rt .shr (.tuple [refD μ.length, d]) (μ ++ [.lst ds])) := by
  rw [evM, h]
  simp only [h2, onVM, if_neg hk]
end
section
variable {fu n : Nat} {p : Prog} {μ : Mu}
theorem ranM_ok (hp : p.Ok) {s : Stt'} (hs : StateOk p s) (m : Nat) (hm : m ≤ 1000) (hfu : m < fu) : runM TB fu (n + 5) μ "ran" [p.d, stD s, .int (m : Int)] = some (.ok .shr (.tuple [refD μ.length, optS (ranV p m (some s)).2]) (μ ++ [.lst (wordsD (ranV p m (some s)).1)])) := by
  have ns := need_state_yes (fu := fu) (n := n + 1) p (state_plain hp.boxes hs) (state_yes hs)
  obtain ⟨j', told', lp⟩ := ran_loop (fu := fu) (n := n) hp m fu (some s) [] 0 none hfu (fun t e => by cases e; exact hs) (by simpa using hm)
  rw [Nat.zero_add, List.nil_append] at lp
  rw [runM_fn (d := d_ranM) (by decide +kernel) (by with_unfolding_all rfl)]
  refine runDM_rt rfl ?_
  unfold d_ranM
  rw [show startM _ _ = [some (false, p.d), some (false, stD s), some (false, .int (m : Int)), none, none, none] from rfl]
  refine (mseq (st' := [some (false, p.d), some (false, stD s), some (false, .int (m : Int)), none, none, none]) (mpL (by simp only [runD, Dv.start, evSs_nil, evSs_cons, evS, evE, evL, evB, evAnd, evOr, evO, onOwn, guardO, setAll, thenS_nx, thenS_rt, thenS_ex, onV_ok, onV_ex, onB_ok, onB_ex, bindV_ok, bindV_ex, boolV_ok, bindA_ok, consA_ok, optI_none, optI_some, outcome_nx, outcome_shr, outcome_frs, outcome_ex, setV_shr, setV_frs, binD_add, binD_addT, binD_addL, binD_sub, binD_mulr, binD_mull, binD_fdiv', binD_mod', cmpD_lt, cmpD_le, cmpD_gt, cmpD_ge, cmpD_eqi, cmpD_nei, cmpD_is, cmpD_isn, cmpD_memL, cmpD_nmemL, cmpD_memT, cmpD_nmemT, isN_none, isN_int, isN_tup, isN_lst, isN_bool, isN_str, flat_int, flat_str, flat_none, flat_bool, fnD_lenL, fnD_lenT, fnD_lenS, fnD_intB, fnD_str, fnD_tupL, fnD_tupT, fnD_lstL, fnD_lstT, fnD_all, idxD_L, idxD_T, idxD_S, slcD_L, slcD_T, itemsD_L, itemsD_T, asD_shr, asD_frs, asB_ok, okCall_t, noBrw_nil, noBrw_shr, noBrw_frs, tests_nil, tests_one, at0, at1, at2, lim_eq, List.set_cons_zero, List.set_cons_succ, List.getElem?_cons_zero, List.getElem?_cons_succ, List.length_cons, List.length_nil, List.map_cons, List.map_nil, Option.map_some, Option.map_none, if_true, if_false, ite_true, ite_false, reduceIte, reduceCtorEq, decide_true, decide_false, Nat.reduceAdd, Nat.reduceSub, Nat.reduceEqDiff, Int.reduceNeg, Int.reduceLT, Int.reduceLE, Bool.not_true, Bool.not_false, Nat.reduceLeDiff, and_self, true_and, and_true, ns]))).trans ?_
  have hneg : decide ((m : Int) < 0) = false := by simp
  refine (mseq (st' := [some (false, p.d), some (false, stD s), some (false, .int (m : Int)), none, none, none]) (mpL (by simp only [runD, Dv.start, evSs_nil, evSs_cons, evS, evE, evL, evB, evAnd, evOr, evO, onOwn, guardO, setAll, thenS_nx, thenS_rt, thenS_ex, onV_ok, onV_ex, onB_ok, onB_ex, bindV_ok, bindV_ex, boolV_ok, bindA_ok, consA_ok, optI_none, optI_some, outcome_nx, outcome_shr, outcome_frs, outcome_ex, setV_shr, setV_frs, binD_add, binD_addT, binD_addL, binD_sub, binD_mulr, binD_mull, binD_fdiv', binD_mod', cmpD_lt, cmpD_le, cmpD_gt, cmpD_ge, cmpD_eqi, cmpD_nei, cmpD_is, cmpD_isn, cmpD_memL, cmpD_nmemL, cmpD_memT, cmpD_nmemT, isN_none, isN_int, isN_tup, isN_lst, isN_bool, isN_str, flat_int, flat_str, flat_none, flat_bool, fnD_lenL, fnD_lenT, fnD_lenS, fnD_intB, fnD_str, fnD_tupL, fnD_tupT, fnD_lstL, fnD_lstT, fnD_all, idxD_L, idxD_T, idxD_S, slcD_L, slcD_T, itemsD_L, itemsD_T, asD_shr, asD_frs, asB_ok, okCall_t, noBrw_nil, noBrw_shr, noBrw_frs, tests_nil, tests_one, at0, at1, at2, lim_eq, List.set_cons_zero, List.set_cons_succ, List.getElem?_cons_zero, List.getElem?_cons_succ, List.length_cons, List.length_nil, List.map_cons, List.map_nil, Option.map_some, Option.map_none, if_true, if_false, ite_true, ite_false, reduceIte, reduceCtorEq, decide_true, decide_false, Nat.reduceAdd, Nat.reduceSub, Nat.reduceEqDiff, Int.reduceNeg, Int.reduceLT, Int.reduceLE, Bool.not_true, Bool.not_false, Nat.reduceLeDiff, and_self, true_and, and_true, okTy, isInst, hneg, Bool.false_eq_true]))).trans ?_
  refine (mseq (st' := [some (false, p.d), some (false, stD s), some (false, .int (m : Int)), some (true, .list (wordsD [])), none, none]) (mpL (by simp only [runD, Dv.start, evSs_nil, evSs_cons, evS, evE, evL, evB, evAnd, evOr, evO, onOwn, guardO, setAll, thenS_nx, thenS_rt, thenS_ex, onV_ok, onV_ex, onB_ok, onB_ex, bindV_ok, bindV_ex, boolV_ok, bindA_ok, consA_ok, optI_none, optI_some, outcome_nx, outcome_shr, outcome_frs, outcome_ex, setV_shr, setV_frs, binD_add, binD_addT, binD_addL, binD_sub, binD_mulr, binD_mull, binD_fdiv', binD_mod', cmpD_lt, cmpD_le, cmpD_gt, cmpD_ge, cmpD_eqi, cmpD_nei, cmpD_is, cmpD_isn, cmpD_memL, cmpD_nmemL, cmpD_memT, cmpD_nmemT, isN_none, isN_int, isN_tup, isN_lst, isN_bool, isN_str, flat_int, flat_str, flat_none, flat_bool, fnD_lenL, fnD_lenT, fnD_lenS, fnD_intB, fnD_str, fnD_tupL, fnD_tupT, fnD_lstL, fnD_lstT, fnD_all, idxD_L, idxD_T, idxD_S, slcD_L, slcD_T, itemsD_L, itemsD_T, asD_shr, asD_frs, asB_ok, okCall_t, noBrw_nil, noBrw_shr, noBrw_frs, tests_nil, tests_one, at0, at1, at2, lim_eq, List.set_cons_zero, List.set_cons_succ, List.getElem?_cons_zero, List.getElem?_cons_succ, List.length_cons, List.length_nil, List.map_cons, List.map_nil, Option.map_some, Option.map_none, if_true, if_false, ite_true, ite_false, reduceIte, reduceCtorEq, decide_true, decide_false, Nat.reduceAdd, Nat.reduceSub, Nat.reduceEqDiff, Int.reduceNeg, Int.reduceLT, Int.reduceLE, Bool.not_true, Bool.not_false, Nat.reduceLeDiff, and_self, true_and, and_true, wordsD]; try rfl))).trans ?_
  refine (mseq (st' := [some (false, p.d), some (false, optS (some s)), some (false, .int (m : Int)), some (true, .list (wordsD [])), some (false, .int ((0 : Nat) : Int)), none]) (mpL (by simp only [runD, Dv.start, evSs_nil, evSs_cons, evS, evE, evL, evB, evAnd, evOr, evO, onOwn, guardO, setAll, thenS_nx, thenS_rt, thenS_ex, onV_ok, onV_ex, onB_ok, onB_ex, bindV_ok, bindV_ex, boolV_ok, bindA_ok, consA_ok, optI_none, optI_some, outcome_nx, outcome_shr, outcome_frs, outcome_ex, setV_shr, setV_frs, binD_add, binD_addT, binD_addL, binD_sub, binD_mulr, binD_mull, binD_fdiv', binD_mod', cmpD_lt, cmpD_le, cmpD_gt, cmpD_ge, cmpD_eqi, cmpD_nei, cmpD_is, cmpD_isn, cmpD_memL, cmpD_nmemL, cmpD_memT, cmpD_nmemT, isN_none, isN_int, isN_tup, isN_lst, isN_bool, isN_str, flat_int, flat_str, flat_none, flat_bool, fnD_lenL, fnD_lenT, fnD_lenS, fnD_intB, fnD_str, fnD_tupL, fnD_tupT, fnD_lstL, fnD_lstT, fnD_all, idxD_L, idxD_T, idxD_S, slcD_L, slcD_T, itemsD_L, itemsD_T, asD_shr, asD_frs, asB_ok, okCall_t, noBrw_nil, noBrw_shr, noBrw_frs, tests_nil, tests_one, at0, at1, at2, lim_eq, List.set_cons_zero, List.set_cons_succ, List.getElem?_cons_zero, List.getElem?_cons_succ, List.length_cons, List.length_nil, List.map_cons, List.map_nil, Option.map_some, Option.map_none, if_true, if_false, ite_true, ite_false, reduceIte, reduceCtorEq, decide_true, decide_false, Nat.reduceAdd, Nat.reduceSub, Nat.reduceEqDiff, Int.reduceNeg, Int.reduceLT, Int.reduceLE, Bool.not_true, Bool.not_false, Nat.reduceLeDiff, and_self, true_and, and_true, optS_some]; try rfl))).trans ?_
  refine (mseq (mpL (by show evS _ _ (.whl e_ran_0 b_ran_1) _ = _; rw [evS]; exact lp))).trans ?_
  exact mseq_rt (mretC (k := .shr) rfl rfl (by decide))
theorem odd_no {q : Int} (hq : 0 ≤ q) : ∀ x ∈ [PyData.int (-1 - q), .bool true, .none, .str "3", .bool false, .list [.int 3]], noCount x := by
  intro x hx
  simp only [List.mem_cons, List.not_mem_nil, or_false] at hx
  rcases hx with rfl | rfl | rfl | rfl | rfl | rfl
  · exact ⟨rfl, .inr (.inr ⟨_, rfl, by omega⟩)⟩
  · exact ⟨rfl, .inr (.inl rfl)⟩
  · exact ⟨rfl, .inl rfl⟩
  · exact ⟨rfl, .inl rfl⟩
  · exact ⟨rfl, .inr (.inl rfl)⟩
  · exact ⟨rfl, .inl rfl⟩
end
theorem call_of {Φ : Str → List D → Option EO} {st : Ev} {f : Str} {es : List E} {as : List (Kd × D)} {ds : List D} {r : EO} (h1 : evL Φ es st = some (.ok as)) (hb : noBrw as = true) (hd : as.map (·.2) = ds) (h2 : Φ f ds = some r) : evE Φ (.call f es) st = some r := by
  subst hd
  rw [evE, h1]
  simp only [okCall, hb, if_true]
  exact h2
theorem site_no {Φ : Str → List D → Option EO} {fu : Nat} {c : E} {a : List S} {st : Ev} (h : evE Φ c st = some (.ok .shr (.bool false))) : evS Φ fu (.ite c a []) st = some (.nx st) := by
  rw [evS, h, onB_ok, if_neg (by decide), evSs_nil]
theorem ne_of {Φ : Str → List D → Option EO} {st : Ev} {x y : E} {k j : Kd} {d e : D} {b : Bool} (h1 : evE Φ x st = some (.ok k d)) (h2 : evE Φ y st = some (.ok j e)) (h : cmpD .ne d e = some b) : evE Φ (.cmp .ne x y) st = some (.ok .shr (.bool b)) := by
  rw [evE, h1, bindV_ok, h2, bindV_ok, h]; rfl
theorem two_eq (x : Str) (h : PyData.strOk x = true) : cmpD .eq (.list [.str x, .str "value"]) (.list [.str x, .str "value"]) = some true := by
  have f : fine 1 (.list [.str x, .str "value"]) := fine_lst fun d hd => by
    simp only [List.mem_cons, List.not_mem_nil, or_false] at hd
    rcases hd with rfl | rfl
    · exact fine_str _ _ h
    · exact fine_str _ _ (by decide +kernel)
  rw [cmpD_eqf f f (by decide) (by decide), f.refl]
theorem two_ne (x : Str) (h : PyData.strOk x = true) : cmpD .ne (.list [.str x, .str "value"]) (.list [.str x, .str "value"]) = some false := by
  have f : fine 1 (.list [.str x, .str "value"]) := fine_lst fun d hd => by
    simp only [List.mem_cons, List.not_mem_nil, or_false] at hd
    rcases hd with rfl | rfl
    · exact fine_str _ _ h
    · exact fine_str _ _ (by decide +kernel)
  rw [cmpD_nef f f (by decide) (by decide), f.refl]; rfl
end Law
namespace Law
open PySem Dv
theorem main_fu (fu : Nat) (hf : 50 ≤ fu) (ns : List Int) : ∃ k μ, runM TB fu (8 + 1) [] "law" [scrD ns] = some (.ok k (.bool true) μ) := by
  obtain ⟨p, hp, ep⟩ := program_ok (fu := fu) (n := 6) (ns.getD 0 0)
  obtain ⟨xs, hx, ex⟩ := numbers_ok (fu := fu) (n := 6) (ns.getD 2 0) hp
  have c0 := cell_ok (fu := fu) (n := 7) ns 0
  have c1 := cell_ok (fu := fu) (n := 7) ns 1
  have c2 := cell_ok (fu := fu) (n := 7) ns 2
  have c3 := cell_ok (fu := fu) (n := 7) ns 3
  have c4 := cell_ok (fu := fu) (n := 7) ns 4
  simp only [Int.cast_ofNat_Int] at c0 c1 c2 c3 c4
  obtain ⟨i, ei, hi⟩ := mod_nat (ns.getD 1 0) (m := p.rows.length) hp.rows0
  obtain ⟨m, em, hm⟩ := mod_nat (ns.getD 3 0 / 4) (m := 41) (by decide)
  simp only [Int.cast_ofNat_Int] at em
  have hs : StateOk p (i, xs) := ⟨hi, hx⟩
  have hz : (0 : Int) < p.rows.length := by have := hp.rows0; omega
  have hr16 := hp.rows
  have hxl : xs.length ≤ 100000 := by have := hx.1; have := hp.boxes; omega
  rw [runM_fn (d := d_lawM) (by decide +kernel) (by with_unfolding_all rfl)]
  suffices hh : ∃ μ, evMs TB.r.fl (fun μ => runR TB.r μ fu 8) (runM2 TB fu 8).1 (runM2 TB fu 8).2 fu d_lawM.body (startM d_lawM [scrD ns]) [] = some (.rt .shr (.bool true) μ) by
    obtain ⟨μ, h⟩ := hh
    exact ⟨.shr, μ, runDM_rt rfl h⟩
  unfold d_lawM
  rw [show startM _ _ = [some (false, scrD ns), none, none, none, none, none, none, none, none, none] from rfl]
  rw [mseq (st' := [some (false, scrD ns), some (false, p.d), none, none, none, none, none, none, none, none]) (mpL (by simp only [runD, Dv.start, evSs_nil, evSs_cons, evS, evE, evL, evB, evAnd, evOr, evO, onOwn, guardO, setAll, thenS_nx, thenS_rt, thenS_ex, onV_ok, onV_ex, onB_ok, onB_ex, bindV_ok, bindV_ex, boolV_ok, bindA_ok, consA_ok, optI_none, optI_some, outcome_nx, outcome_shr, outcome_frs, outcome_ex, setV_shr, setV_frs, binD_add, binD_addT, binD_addL, binD_sub, binD_mulr, binD_mull, binD_fdiv', binD_mod', cmpD_lt, cmpD_le, cmpD_gt, cmpD_ge, cmpD_eqi, cmpD_nei, cmpD_is, cmpD_isn, cmpD_memL, cmpD_nmemL, cmpD_memT, cmpD_nmemT, isN_none, isN_int, isN_tup, isN_lst, isN_bool, isN_str, flat_int, flat_str, flat_none, flat_bool, fnD_lenL, fnD_lenT, fnD_lenS, fnD_intB, fnD_str, fnD_tupL, fnD_tupT, fnD_lstL, fnD_lstT, fnD_all, idxD_L, idxD_T, idxD_S, slcD_L, slcD_T, itemsD_L, itemsD_T, asD_shr, asD_frs, asB_ok, okCall_t, noBrw_nil, noBrw_shr, noBrw_frs, tests_nil, tests_one, at0, at1, at2, lim_eq, List.set_cons_zero, List.set_cons_succ, List.getElem?_cons_zero, List.getElem?_cons_succ, List.length_cons, List.length_nil, List.map_cons, List.map_nil, Option.map_some, Option.map_none, if_true, if_false, ite_true, ite_false, reduceIte, reduceCtorEq, decide_true, decide_false, Nat.reduceAdd, Nat.reduceSub, Nat.reduceEqDiff, Int.reduceNeg, Int.reduceLT, Int.reduceLE, Bool.not_true, Bool.not_false, Nat.reduceLeDiff, and_self, true_and, and_true, c0, ep]))]
  rw [mseq (st' := [some (false, scrD ns), some (false, p.d), some (false, p.d), none, none, none, none, none, none, none]) (mpL (by simp only [runD, Dv.start, evSs_nil, evSs_cons, evS, evE, evL, evB, evAnd, evOr, evO, onOwn, guardO, setAll, thenS_nx, thenS_rt, thenS_ex, onV_ok, onV_ex, onB_ok, onB_ex, bindV_ok, bindV_ex, boolV_ok, bindA_ok, consA_ok, optI_none, optI_some, outcome_nx, outcome_shr, outcome_frs, outcome_ex, setV_shr, setV_frs, binD_add, binD_addT, binD_addL, binD_sub, binD_mulr, binD_mull, binD_fdiv', binD_mod', cmpD_lt, cmpD_le, cmpD_gt, cmpD_ge, cmpD_eqi, cmpD_nei, cmpD_is, cmpD_isn, cmpD_memL, cmpD_nmemL, cmpD_memT, cmpD_nmemT, isN_none, isN_int, isN_tup, isN_lst, isN_bool, isN_str, flat_int, flat_str, flat_none, flat_bool, fnD_lenL, fnD_lenT, fnD_lenS, fnD_intB, fnD_str, fnD_tupL, fnD_tupT, fnD_lstL, fnD_lstT, fnD_all, idxD_L, idxD_T, idxD_S, slcD_L, slcD_T, itemsD_L, itemsD_T, asD_shr, asD_frs, asB_ok, okCall_t, noBrw_nil, noBrw_shr, noBrw_frs, tests_nil, tests_one, at0, at1, at2, lim_eq, List.set_cons_zero, List.set_cons_succ, List.getElem?_cons_zero, List.getElem?_cons_succ, List.length_cons, List.length_nil, List.map_cons, List.map_nil, Option.map_some, Option.map_none, if_true, if_false, ite_true, ite_false, reduceIte, reduceCtorEq, decide_true, decide_false, Nat.reduceAdd, Nat.reduceSub, Nat.reduceEqDiff, Int.reduceNeg, Int.reduceLT, Int.reduceLE, Bool.not_true, Bool.not_false, Nat.reduceLeDiff, and_self, true_and, and_true, Prog.d, Nat.reduceLeDiff]))]
  have e3 : evE (run tab fu 8) (.tup [.bin .mod (.call "_law_cell_at" [.var 0, .int 1]) (.fn .len (.idx (.var 1) (.int 2))), .call "_law_numbers" [.call "_law_cell_at" [.var 0, .int 2], .var 1]]) [some (false, scrD ns), some (false, p.d), some (false, p.d), none, none, none, none, none, none, none] = some (.ok .shr (stD (i, xs))) := by
    have el : evE (run tab fu 8) (.fn .len (.idx (.var 1) (.int 2))) [some (false, scrD ns), some (false, p.d), some (false, p.d), none, none, none, none, none, none, none] = some (.ok .shr (.int p.rows.length)) := by
      simp only [runD, Dv.start, evSs_nil, evSs_cons, evS, evE, evL, evB, evAnd, evOr, evO, onOwn, guardO, setAll, thenS_nx, thenS_rt, thenS_ex, onV_ok, onV_ex, onB_ok, onB_ex, bindV_ok, bindV_ex, boolV_ok, bindA_ok, consA_ok, optI_none, optI_some, outcome_nx, outcome_shr, outcome_frs, outcome_ex, setV_shr, setV_frs, binD_add, binD_addT, binD_addL, binD_sub, binD_mulr, binD_mull, binD_fdiv', binD_mod', cmpD_lt, cmpD_le, cmpD_gt, cmpD_ge, cmpD_eqi, cmpD_nei, cmpD_is, cmpD_isn, cmpD_memL, cmpD_nmemL, cmpD_memT, cmpD_nmemT, isN_none, isN_int, isN_tup, isN_lst, isN_bool, isN_str, flat_int, flat_str, flat_none, flat_bool, fnD_lenL, fnD_lenT, fnD_lenS, fnD_intB, fnD_str, fnD_tupL, fnD_tupT, fnD_lstL, fnD_lstT, fnD_all, idxD_L, idxD_T, idxD_S, slcD_L, slcD_T, itemsD_L, itemsD_T, asD_shr, asD_frs, asB_ok, okCall_t, noBrw_nil, noBrw_shr, noBrw_frs, tests_nil, tests_one, at0, at1, at2, lim_eq, List.set_cons_zero, List.set_cons_succ, List.getElem?_cons_zero, List.getElem?_cons_succ, List.length_cons, List.length_nil, List.map_cons, List.map_nil, Option.map_some, Option.map_none, if_true, if_false, ite_true, ite_false, reduceIte, reduceCtorEq, decide_true, decide_false, Nat.reduceAdd, Nat.reduceSub, Nat.reduceEqDiff, Int.reduceNeg, Int.reduceLT, Int.reduceLE, Bool.not_true, Bool.not_false, Nat.reduceLeDiff, and_self, true_and, and_true, Prog.d, List.length_map]
    rw [evE, evL, evL, evL, evE, el]
    simp only [runD, Dv.start, evSs_nil, evSs_cons, evS, evE, evL, evB, evAnd, evOr, evO, onOwn, guardO, setAll, thenS_nx, thenS_rt, thenS_ex, onV_ok, onV_ex, onB_ok, onB_ex, bindV_ok, bindV_ex, boolV_ok, bindA_ok, consA_ok, optI_none, optI_some, outcome_nx, outcome_shr, outcome_frs, outcome_ex, setV_shr, setV_frs, binD_add, binD_addT, binD_addL, binD_sub, binD_mulr, binD_mull, binD_fdiv', binD_mod', cmpD_lt, cmpD_le, cmpD_gt, cmpD_ge, cmpD_eqi, cmpD_nei, cmpD_is, cmpD_isn, cmpD_memL, cmpD_nmemL, cmpD_memT, cmpD_nmemT, isN_none, isN_int, isN_tup, isN_lst, isN_bool, isN_str, flat_int, flat_str, flat_none, flat_bool, fnD_lenL, fnD_lenT, fnD_lenS, fnD_intB, fnD_str, fnD_tupL, fnD_tupT, fnD_lstL, fnD_lstT, fnD_all, idxD_L, idxD_T, idxD_S, slcD_L, slcD_T, itemsD_L, itemsD_T, asD_shr, asD_frs, asB_ok, okCall_t, noBrw_nil, noBrw_shr, noBrw_frs, tests_nil, tests_one, at0, at1, at2, lim_eq, List.set_cons_zero, List.set_cons_succ, List.getElem?_cons_zero, List.getElem?_cons_succ, List.length_cons, List.length_nil, List.map_cons, List.map_nil, Option.map_some, Option.map_none, if_true, if_false, ite_true, ite_false, reduceIte, reduceCtorEq, decide_true, decide_false, Nat.reduceAdd, Nat.reduceSub, Nat.reduceEqDiff, Int.reduceNeg, Int.reduceLT, Int.reduceLE, Bool.not_true, Bool.not_false, Nat.reduceLeDiff, and_self, true_and, and_true, c1, c2, ex, hz, ei, Nat.reduceLeDiff]
    rfl
  rw [mseq (st' := [some (false, scrD ns), some (false, p.d), some (false, p.d), some (false, stD (i, xs)), none, none, none, none, none, none]) (mpL (by rw [evS, e3]; rfl))]
  rw [mseq (st' := [some (false, scrD ns), some (false, p.d), some (false, p.d), some (false, stD (i, xs)), some (false, .int (m : Int)), none, none, none, none, none]) (mpL (by simp only [runD, Dv.start, evSs_nil, evSs_cons, evS, evE, evL, evB, evAnd, evOr, evO, onOwn, guardO, setAll, thenS_nx, thenS_rt, thenS_ex, onV_ok, onV_ex, onB_ok, onB_ex, bindV_ok, bindV_ex, boolV_ok, bindA_ok, consA_ok, optI_none, optI_some, outcome_nx, outcome_shr, outcome_frs, outcome_ex, setV_shr, setV_frs, binD_add, binD_addT, binD_addL, binD_sub, binD_mulr, binD_mull, binD_fdiv', binD_mod', cmpD_lt, cmpD_le, cmpD_gt, cmpD_ge, cmpD_eqi, cmpD_nei, cmpD_is, cmpD_isn, cmpD_memL, cmpD_nmemL, cmpD_memT, cmpD_nmemT, isN_none, isN_int, isN_tup, isN_lst, isN_bool, isN_str, flat_int, flat_str, flat_none, flat_bool, fnD_lenL, fnD_lenT, fnD_lenS, fnD_intB, fnD_str, fnD_tupL, fnD_tupT, fnD_lstL, fnD_lstT, fnD_all, idxD_L, idxD_T, idxD_S, slcD_L, slcD_T, itemsD_L, itemsD_T, asD_shr, asD_frs, asB_ok, okCall_t, noBrw_nil, noBrw_shr, noBrw_frs, tests_nil, tests_one, at0, at1, at2, lim_eq, List.set_cons_zero, List.set_cons_succ, List.getElem?_cons_zero, List.getElem?_cons_succ, List.length_cons, List.length_nil, List.map_cons, List.map_nil, Option.map_some, Option.map_none, if_true, if_false, ite_true, ite_false, reduceIte, reduceCtorEq, decide_true, decide_false, Nat.reduceAdd, Nat.reduceSub, Nat.reduceEqDiff, Int.reduceNeg, Int.reduceLT, Int.reduceLE, Bool.not_true, Bool.not_false, Nat.reduceLeDiff, and_self, true_and, and_true, c3, em]))]
  have ec : evE (run tab fu 8) (.cmp .eq (.bin .mod (.call "_law_cell_at" [.var 0, .int 3]) (.int 4)) (.int 1)) [some (false, scrD ns), some (false, p.d), some (false, p.d), some (false, stD (i, xs)), some (false, .int (m : Int)), none, none, none, none, none] = some (.ok .shr (.bool (ns.getD 3 0 % 4 == 1))) := by simp only [runD, Dv.start, evSs_nil, evSs_cons, evS, evE, evL, evB, evAnd, evOr, evO, onOwn, guardO, setAll, thenS_nx, thenS_rt, thenS_ex, onV_ok, onV_ex, onB_ok, onB_ex, bindV_ok, bindV_ex, boolV_ok, bindA_ok, consA_ok, optI_none, optI_some, outcome_nx, outcome_shr, outcome_frs, outcome_ex, setV_shr, setV_frs, binD_add, binD_addT, binD_addL, binD_sub, binD_mulr, binD_mull, binD_fdiv', binD_mod', cmpD_lt, cmpD_le, cmpD_gt, cmpD_ge, cmpD_eqi, cmpD_nei, cmpD_is, cmpD_isn, cmpD_memL, cmpD_nmemL, cmpD_memT, cmpD_nmemT, isN_none, isN_int, isN_tup, isN_lst, isN_bool, isN_str, flat_int, flat_str, flat_none, flat_bool, fnD_lenL, fnD_lenT, fnD_lenS, fnD_intB, fnD_str, fnD_tupL, fnD_tupT, fnD_lstL, fnD_lstT, fnD_all, idxD_L, idxD_T, idxD_S, slcD_L, slcD_T, itemsD_L, itemsD_T, asD_shr, asD_frs, asB_ok, okCall_t, noBrw_nil, noBrw_shr, noBrw_frs, tests_nil, tests_one, at0, at1, at2, lim_eq, List.set_cons_zero, List.set_cons_succ, List.getElem?_cons_zero, List.getElem?_cons_succ, List.length_cons, List.length_nil, List.map_cons, List.map_nil, Option.map_some, Option.map_none, if_true, if_false, ite_true, ite_false, reduceIte, reduceCtorEq, decide_true, decide_false, Nat.reduceAdd, Nat.reduceSub, Nat.reduceEqDiff, Int.reduceNeg, Int.reduceLT, Int.reduceLE, Bool.not_true, Bool.not_false, Nat.reduceLeDiff, and_self, true_and, and_true, c3]
  cases h3 : (ns.getD 3 0 % 4 == 1) with
  | true =>
    rw [h3] at ec
    have hq : 0 ≤ ns.getD 4 0 % 1000000000000 := Int.emod_nonneg _ (by decide)
    obtain ⟨y, hy, ey⟩ := at_mod (ys := [PyData.int (-1 - ns.getD 4 0 % 1000000000000), .bool true, .none, .str "3", .bool false, .list [.int 3]]) (ns.getD 3 0 / 4) (m := 6) rfl (by decide)
    have hn := odd_no hq y hy
    have hbs : BadSt p (.tuple [.int p.rows.length, numsD xs]) := bad_at rfl hxl (by
      show (decide ((0 : Int) ≤ (p.rows.length : Int)) && decide ((p.rows.length : Int) ≤ (p.rows.length : Int) - 1)) = false
      rw [decide_eq_false (by omega : ¬ ((p.rows.length : Int) ≤ (p.rows.length : Int) - 1)), Bool.and_false])
    have w1 := word_ok (x := y) (ran_no_state (fu := fu) (n := 3) (x := y) hbs) (by decide +kernel) suite_state
    have w2 := word_ok (x := .int (m : Int)) (ran_no_state (fu := fu) (n := 3) (x := .int (m : Int)) hbs) (by decide +kernel) suite_state
    have w3 := word_ok (ran_no_count (fu := fu) (n := 3) hp hs hn) (by decide +kernel) suite_count
    refine ⟨[], mseq_rt (mpL_rt ?_)⟩
    rw [evS, ec, onB_ok, if_pos rfl]
    have e5 : evE (run tab fu 8) (.idx (.lst [.bin .sub (.neg (.int 1)) (.bin .mod (.call "_law_cell_at" [.var 0, .int 4]) (.bin .pow (.int 10) (.int 12))), .bl true, .non, .str "3", .bl false, .lst [.int 3]]) (.bin .mod (.bin .fdiv (.call "_law_cell_at" [.var 0, .int 3]) (.int 4)) (.int 6))) [some (false, scrD ns), some (false, p.d), some (false, p.d), some (false, stD (i, xs)), some (false, .int (m : Int)), none, none, none, none, none] = some (.ok .shr y) := by
      have p12 : (0 : Int) < 1000000000000 := by decide
      simp only [runD, Dv.start, evSs_nil, evSs_cons, evS, evE, evL, evB, evAnd, evOr, evO, onOwn, guardO, setAll, thenS_nx, thenS_rt, thenS_ex, onV_ok, onV_ex, onB_ok, onB_ex, bindV_ok, bindV_ex, boolV_ok, bindA_ok, consA_ok, optI_none, optI_some, outcome_nx, outcome_shr, outcome_frs, outcome_ex, setV_shr, setV_frs, binD_add, binD_addT, binD_addL, binD_sub, binD_mulr, binD_mull, binD_fdiv', binD_mod', cmpD_lt, cmpD_le, cmpD_gt, cmpD_ge, cmpD_eqi, cmpD_nei, cmpD_is, cmpD_isn, cmpD_memL, cmpD_nmemL, cmpD_memT, cmpD_nmemT, isN_none, isN_int, isN_tup, isN_lst, isN_bool, isN_str, flat_int, flat_str, flat_none, flat_bool, fnD_lenL, fnD_lenT, fnD_lenS, fnD_intB, fnD_str, fnD_tupL, fnD_tupT, fnD_lstL, fnD_lstT, fnD_all, idxD_L, idxD_T, idxD_S, slcD_L, slcD_T, itemsD_L, itemsD_T, asD_shr, asD_frs, asB_ok, okCall_t, noBrw_nil, noBrw_shr, noBrw_frs, tests_nil, tests_one, at0, at1, at2, lim_eq, List.set_cons_zero, List.set_cons_succ, List.getElem?_cons_zero, List.getElem?_cons_succ, List.length_cons, List.length_nil, List.map_cons, List.map_nil, Option.map_some, Option.map_none, if_true, if_false, ite_true, ite_false, reduceIte, reduceCtorEq, decide_true, decide_false, Nat.reduceAdd, Nat.reduceSub, Nat.reduceEqDiff, Int.reduceNeg, Int.reduceLT, Int.reduceLE, Bool.not_true, Bool.not_false, Nat.reduceLeDiff, and_self, true_and, and_true, c3, c4, pow12, p12, ey, Nat.reduceLeDiff, Int.reduceNeg]
    refine (seq (st' := [some (false, scrD ns), some (false, p.d), some (false, p.d), some (false, stD (i, xs)), some (false, .int (m : Int)), some (false, y), none, none, none, none]) (by rw [evS, e5]; rfl)).trans ?_
    refine (seq (st' := [some (false, scrD ns), some (false, p.d), some (false, p.d), some (false, stD (i, xs)), some (false, .int (m : Int)), some (false, y), some (false, .tuple [.int p.rows.length, numsD xs]), none, none, none]) (by simp only [runD, Dv.start, evSs_nil, evSs_cons, evS, evE, evL, evB, evAnd, evOr, evO, onOwn, guardO, setAll, thenS_nx, thenS_rt, thenS_ex, onV_ok, onV_ex, onB_ok, onB_ex, bindV_ok, bindV_ex, boolV_ok, bindA_ok, consA_ok, optI_none, optI_some, outcome_nx, outcome_shr, outcome_frs, outcome_ex, setV_shr, setV_frs, binD_add, binD_addT, binD_addL, binD_sub, binD_mulr, binD_mull, binD_fdiv', binD_mod', cmpD_lt, cmpD_le, cmpD_gt, cmpD_ge, cmpD_eqi, cmpD_nei, cmpD_is, cmpD_isn, cmpD_memL, cmpD_nmemL, cmpD_memT, cmpD_nmemT, isN_none, isN_int, isN_tup, isN_lst, isN_bool, isN_str, flat_int, flat_str, flat_none, flat_bool, fnD_lenL, fnD_lenT, fnD_lenS, fnD_intB, fnD_str, fnD_tupL, fnD_tupT, fnD_lstL, fnD_lstT, fnD_all, idxD_L, idxD_T, idxD_S, slcD_L, slcD_T, itemsD_L, itemsD_T, asD_shr, asD_frs, asB_ok, okCall_t, noBrw_nil, noBrw_shr, noBrw_frs, tests_nil, tests_one, at0, at1, at2, lim_eq, List.set_cons_zero, List.set_cons_succ, List.getElem?_cons_zero, List.getElem?_cons_succ, List.length_cons, List.length_nil, List.map_cons, List.map_nil, Option.map_some, Option.map_none, if_true, if_false, ite_true, ite_false, reduceIte, reduceCtorEq, decide_true, decide_false, Nat.reduceAdd, Nat.reduceSub, Nat.reduceEqDiff, Int.reduceNeg, Int.reduceLT, Int.reduceLE, Bool.not_true, Bool.not_false, Nat.reduceLeDiff, and_self, true_and, and_true, Prog.d, stD, List.length_map, Nat.reduceLeDiff])).trans ?_
    have t1 : evE (run tab fu 8) (.call "_law_word" [.var 1, .var 6, .var 5]) [some (false, scrD ns), some (false, p.d), some (false, p.d), some (false, stD (i, xs)), some (false, .int (m : Int)), some (false, y), some (false, .tuple [.int p.rows.length, numsD xs]), none, none, none] = some (.ok .frs (.list [.str "state", .str "value"])) := by
      rw [evE, evL, evL, evL, evL]
      exact w1
    have t2 : evE (run tab fu 8) (.call "_law_word" [.var 1, .var 6, .var 4]) [some (false, scrD ns), some (false, p.d), some (false, p.d), some (false, stD (i, xs)), some (false, .int (m : Int)), some (false, y), some (false, .tuple [.int p.rows.length, numsD xs]), none, none, none] = some (.ok .frs (.list [.str "state", .str "value"])) := by
      rw [evE, evL, evL, evL, evL]
      exact w2
    have t3 : evE (run tab fu 8) (.call "_law_word" [.var 1, .var 3, .var 5]) [some (false, scrD ns), some (false, p.d), some (false, p.d), some (false, stD (i, xs)), some (false, .int (m : Int)), some (false, y), some (false, .tuple [.int p.rows.length, numsD xs]), none, none, none] = some (.ok .frs (.list [.str "count", .str "value"])) := by
      rw [evE, evL, evL, evL, evL]
      exact w3
    have n1 : cmpD .ne (.list [.str "state", .str "value"]) (.list [.str "state", .str "value"]) = some false := two_ne _ (by decide +kernel)
    have n2 : cmpD .eq (.list [.str "count", .str "value"]) (.list [.str "count", .str "value"]) = some true := two_eq _ (by decide +kernel)
    have z1 : evE (run tab fu 8) (.lst [.str "state", .str "value"]) [some (false, scrD ns), some (false, p.d), some (false, p.d), some (false, stD (i, xs)), some (false, .int (m : Int)), some (false, y), some (false, .tuple [.int p.rows.length, numsD xs]), none, none, none] = some (.ok .frs (.list [.str "state", .str "value"])) := rfl
    have z2 : evE (run tab fu 8) (.lst [.str "count", .str "value"]) [some (false, scrD ns), some (false, p.d), some (false, p.d), some (false, stD (i, xs)), some (false, .int (m : Int)), some (false, y), some (false, .tuple [.int p.rows.length, numsD xs]), none, none, none] = some (.ok .frs (.list [.str "count", .str "value"])) := rfl
    refine (seq (st' := [some (false, scrD ns), some (false, p.d), some (false, p.d), some (false, stD (i, xs)), some (false, .int (m : Int)), some (false, y), some (false, .tuple [.int p.rows.length, numsD xs]), none, none, none]) (site_no (ne_of t1 z1 n1))).trans ?_
    refine (seq (st' := [some (false, scrD ns), some (false, p.d), some (false, p.d), some (false, stD (i, xs)), some (false, .int (m : Int)), some (false, y), some (false, .tuple [.int p.rows.length, numsD xs]), none, none, none]) (site_no (ne_of t2 z1 n1))).trans ?_
    refine seq_rt ?_
    rw [evS, evE, t3, bindV_ok, z2, bindV_ok, n2]
    rfl
  | false =>
    rw [h3] at ec
    refine Exists.imp (fun μ h => (mseq (st' := [some (false, scrD ns), some (false, p.d), some (false, p.d), some (false, stD (i, xs)), some (false, .int (m : Int)), none, none, none, none, none]) (mpL (site_no ec))).trans h) ?_
    have du := due_ok (fu := fu) (n := 5) hp hs m (by omega)
    have du1 := due_ok (fu := fu) (n := 5) hp hs (m + 1) (by omega)
    have em1 : ((m + 1 : Nat) : Int) = (m : Int) + 1 := by omega
    rw [em1] at du1
    have rp := ran_ok (fu := fu) (n := 3) hp hs m (by omega) (by omega)
    have rp1 := ran_ok (fu := fu) (n := 3) hp hs (m + 1) (by omega) (by omega)
    rw [em1] at rp1
    have rm := ranM_ok (fu := fu) (n := 3) (μ := []) hp hs m (by omega) (by omega)
    have l1 := ranV_len p m (some (i, xs))
    have l2 := ranV_len p (m + 1) (some (i, xs))
    have li := law_is_ok (fu := fu) (n := 6) (ranV p m (some (i, xs))) (by omega)
    have li1 := law_is_ok (fu := fu) (n := 6) (ranV p (m + 1) (some (i, xs))) (by omega)
    generalize hr : ranV p m (some (i, xs)) = r at *
    generalize hr1 : ranV p (m + 1) (some (i, xs)) = r1 at *
    have e7 : evE (run tab fu 8) (.call "_law_due" [.var 1, .var 3, .var 4]) [some (false, scrD ns), some (false, p.d), some (false, p.d), some (false, stD (i, xs)), some (false, .int (m : Int)), none, none, none, none, none] = some (.ok .shr (ranD r)) := by
      rw [evE, evL, evL, evL, evL]
      exact du
    refine Exists.imp (fun μ h => (mseq (st' := [some (false, scrD ns), some (false, p.d), some (false, p.d), some (false, stD (i, xs)), some (false, .int (m : Int)), none, none, some (false, ranD r), none, none]) (mpL (by rw [evS, e7]; rfl))).trans h) ?_
    have e8 : evEM (fun μ => runR TB.r μ fu 8) (runM2 TB fu 8).1 (runM2 TB fu 8).2 (.call (.fn "ran") [.var 1, .var 3, .var 4]) [some (false, scrD ns), some (false, p.d), some (false, p.d), some (false, stD (i, xs)), some (false, .int (m : Int)), none, none, some (false, ranD r), none, none] [] = some (.ok .shr (.tuple [refD 0, optS r.2]) [.lst (wordsD r.1)]) := by
      rw [evEM, evC, evL, evL, evL, evL]
      exact rm
    refine Exists.imp (fun μ h => (mseq (st' := [some (false, scrD ns), some (false, p.d), some (false, p.d), some (false, stD (i, xs)), some (false, .int (m : Int)), none, none, some (false, ranD r), some (false, .tuple [refD 0, optS r.2]), none]) (meffS e8)).trans h) ?_
    have stf : fine 2 (stD (i, xs)) := stD_fine _
    have v8 : viewS [.lst (wordsD r.1)] [some (false, scrD ns), some (false, p.d), some (false, p.d), some (false, stD (i, xs)), some (false, .int (m : Int)), none, none, some (false, ranD r), some (false, .tuple [refD 0, optS r.2]), none] = [none, some (false, p.d), some (false, p.d), some (false, stD (i, xs)), some (false, .int (m : Int)), none, none, some (false, ranD r), some (false, ranD r), none] := by
      simp only [viewS, List.map_cons, List.map_nil, view_scr, view_fine (prog_fine p), view_fine stf, view_fine (fine_int 0 (m : Int)), view_fine (ranD_fine r), view_told (μ := [.lst (wordsD r.1)]) (r := r) rfl, view_none]
    have i8 : evE (run tab fu 8) (.or [.not (.call "_law_is" [.var 8, .var 7]), .cmp .ne (.var 1) (.var 2)]) [none, some (false, p.d), some (false, p.d), some (false, stD (i, xs)), some (false, .int (m : Int)), none, none, some (false, ranD r), some (false, ranD r), none] = some (.ok .shr (.bool false)) := by
      simp only [runD, Dv.start, evSs_nil, evSs_cons, evS, evE, evL, evB, evAnd, evOr, evO, onOwn, guardO, setAll, thenS_nx, thenS_rt, thenS_ex, onV_ok, onV_ex, onB_ok, onB_ex, bindV_ok, bindV_ex, boolV_ok, bindA_ok, consA_ok, optI_none, optI_some, outcome_nx, outcome_shr, outcome_frs, outcome_ex, setV_shr, setV_frs, binD_add, binD_addT, binD_addL, binD_sub, binD_mulr, binD_mull, binD_fdiv', binD_mod', cmpD_lt, cmpD_le, cmpD_gt, cmpD_ge, cmpD_eqi, cmpD_nei, cmpD_is, cmpD_isn, cmpD_memL, cmpD_nmemL, cmpD_memT, cmpD_nmemT, isN_none, isN_int, isN_tup, isN_lst, isN_bool, isN_str, flat_int, flat_str, flat_none, flat_bool, fnD_lenL, fnD_lenT, fnD_lenS, fnD_intB, fnD_str, fnD_tupL, fnD_tupT, fnD_lstL, fnD_lstT, fnD_all, idxD_L, idxD_T, idxD_S, slcD_L, slcD_T, itemsD_L, itemsD_T, asD_shr, asD_frs, asB_ok, okCall_t, noBrw_nil, noBrw_shr, noBrw_frs, tests_nil, tests_one, at0, at1, at2, lim_eq, List.set_cons_zero, List.set_cons_succ, List.getElem?_cons_zero, List.getElem?_cons_succ, List.length_cons, List.length_nil, List.map_cons, List.map_nil, Option.map_some, Option.map_none, if_true, if_false, ite_true, ite_false, reduceIte, reduceCtorEq, decide_true, decide_false, Nat.reduceAdd, Nat.reduceSub, Nat.reduceEqDiff, Int.reduceNeg, Int.reduceLT, Int.reduceLE, Bool.not_true, Bool.not_false, Nat.reduceLeDiff, and_self, true_and, and_true, li, prog_ne, Bool.false_eq_true]
    refine Exists.imp (fun μ h => (mseq (miteV_no (by rw [v8]; exact eL i8))).trans h) ?_
    have e9 : evE (run tab fu 8) (.call "ran" [.var 1, .var 3, .bin .add (.var 4) (.int 1)]) [some (false, scrD ns), some (false, p.d), some (false, p.d), some (false, stD (i, xs)), some (false, .int (m : Int)), none, none, some (false, ranD r), some (false, .tuple [refD 0, optS r.2]), none] = some (.ok .shr (ranD r1)) := by
      rw [evE, evL, evL, evL, evL]
      exact rp1
    refine Exists.imp (fun μ h => (mseq (st' := [some (false, scrD ns), some (false, p.d), some (false, p.d), some (false, stD (i, xs)), some (false, .int (m : Int)), none, none, some (false, ranD r), some (false, .tuple [refD 0, optS r.2]), some (false, ranD r1)]) (mpL (by rw [evS, e9]; rfl))).trans h) ?_
    have v9 : viewS [.lst (wordsD r.1)] [some (false, scrD ns), some (false, p.d), some (false, p.d), some (false, stD (i, xs)), some (false, .int (m : Int)), none, none, some (false, ranD r), some (false, .tuple [refD 0, optS r.2]), some (false, ranD r1)] = [none, some (false, p.d), some (false, p.d), some (false, stD (i, xs)), some (false, .int (m : Int)), none, none, some (false, ranD r), some (false, ranD r), some (false, ranD r1)] := by
      simp only [viewS, List.map_cons, List.map_nil, view_scr, view_fine (prog_fine p), view_fine stf, view_fine (fine_int 0 (m : Int)), view_fine (ranD_fine r), view_fine (ranD_fine r1), view_told (μ := [.lst (wordsD r.1)]) (r := r) rfl, view_none]
    have a9 : evE (run tab fu 8) (.bin .add (.var 4) (.int 1)) [none, some (false, p.d), some (false, p.d), some (false, stD (i, xs)), some (false, .int (m : Int)), none, none, some (false, ranD r), some (false, ranD r), some (false, ranD r1)] = some (.ok .shr (.int ((m : Int) + 1))) := by simp only [runD, Dv.start, evSs_nil, evSs_cons, evS, evE, evL, evB, evAnd, evOr, evO, onOwn, guardO, setAll, thenS_nx, thenS_rt, thenS_ex, onV_ok, onV_ex, onB_ok, onB_ex, bindV_ok, bindV_ex, boolV_ok, bindA_ok, consA_ok, optI_none, optI_some, outcome_nx, outcome_shr, outcome_frs, outcome_ex, setV_shr, setV_frs, binD_add, binD_addT, binD_addL, binD_sub, binD_mulr, binD_mull, binD_fdiv', binD_mod', cmpD_lt, cmpD_le, cmpD_gt, cmpD_ge, cmpD_eqi, cmpD_nei, cmpD_is, cmpD_isn, cmpD_memL, cmpD_nmemL, cmpD_memT, cmpD_nmemT, isN_none, isN_int, isN_tup, isN_lst, isN_bool, isN_str, flat_int, flat_str, flat_none, flat_bool, fnD_lenL, fnD_lenT, fnD_lenS, fnD_intB, fnD_str, fnD_tupL, fnD_tupT, fnD_lstL, fnD_lstT, fnD_all, idxD_L, idxD_T, idxD_S, slcD_L, slcD_T, itemsD_L, itemsD_T, asD_shr, asD_frs, asB_ok, okCall_t, noBrw_nil, noBrw_shr, noBrw_frs, tests_nil, tests_one, at0, at1, at2, lim_eq, List.set_cons_zero, List.set_cons_succ, List.getElem?_cons_zero, List.getElem?_cons_succ, List.length_cons, List.length_nil, List.map_cons, List.map_nil, Option.map_some, Option.map_none, if_true, if_false, ite_true, ite_false, reduceIte, reduceCtorEq, decide_true, decide_false, Nat.reduceAdd, Nat.reduceSub, Nat.reduceEqDiff, Int.reduceNeg, Int.reduceLT, Int.reduceLE, Bool.not_true, Bool.not_false, Nat.reduceLeDiff, and_self, true_and, and_true]
    have d9 : evE (run tab fu 8) (.call "_law_due" [.var 1, .var 3, .bin .add (.var 4) (.int 1)]) [none, some (false, p.d), some (false, p.d), some (false, stD (i, xs)), some (false, .int (m : Int)), none, none, some (false, ranD r), some (false, ranD r), some (false, ranD r1)] = some (.ok .shr (ranD r1)) := by
      refine call_of (as := [(.shr, p.d), (.shr, stD (i, xs)), (.shr, .int ((m : Int) + 1))]) ?_ rfl rfl du1
      rw [evL, evL, evL, evL, a9]; rfl
    have i9 : evE (run tab fu 8) (.or [.not (.call "_law_is" [.var 9, .call "_law_due" [.var 1, .var 3, .bin .add (.var 4) (.int 1)]]), .cmp .ne (.var 8) (.var 7)]) [none, some (false, p.d), some (false, p.d), some (false, stD (i, xs)), some (false, .int (m : Int)), none, none, some (false, ranD r), some (false, ranD r), some (false, ranD r1)] = some (.ok .shr (.bool false)) := by
      have q1 : evE (run tab fu 8) (.call "_law_is" [.var 9, .call "_law_due" [.var 1, .var 3, .bin .add (.var 4) (.int 1)]]) [none, some (false, p.d), some (false, p.d), some (false, stD (i, xs)), some (false, .int (m : Int)), none, none, some (false, ranD r), some (false, ranD r), some (false, ranD r1)] = some (.ok .shr (.bool true)) := by
        rw [evE, evL, evL, evL, d9]
        exact li1
      have rn := ranD_ne r
      rw [evE, evOr, evE, q1]
      simp only [runD, Dv.start, evSs_nil, evSs_cons, evS, evE, evL, evB, evAnd, evOr, evO, onOwn, guardO, setAll, thenS_nx, thenS_rt, thenS_ex, onV_ok, onV_ex, onB_ok, onB_ex, bindV_ok, bindV_ex, boolV_ok, bindA_ok, consA_ok, optI_none, optI_some, outcome_nx, outcome_shr, outcome_frs, outcome_ex, setV_shr, setV_frs, binD_add, binD_addT, binD_addL, binD_sub, binD_mulr, binD_mull, binD_fdiv', binD_mod', cmpD_lt, cmpD_le, cmpD_gt, cmpD_ge, cmpD_eqi, cmpD_nei, cmpD_is, cmpD_isn, cmpD_memL, cmpD_nmemL, cmpD_memT, cmpD_nmemT, isN_none, isN_int, isN_tup, isN_lst, isN_bool, isN_str, flat_int, flat_str, flat_none, flat_bool, fnD_lenL, fnD_lenT, fnD_lenS, fnD_intB, fnD_str, fnD_tupL, fnD_tupT, fnD_lstL, fnD_lstT, fnD_all, idxD_L, idxD_T, idxD_S, slcD_L, slcD_T, itemsD_L, itemsD_T, asD_shr, asD_frs, asB_ok, okCall_t, noBrw_nil, noBrw_shr, noBrw_frs, tests_nil, tests_one, at0, at1, at2, lim_eq, List.set_cons_zero, List.set_cons_succ, List.getElem?_cons_zero, List.getElem?_cons_succ, List.length_cons, List.length_nil, List.map_cons, List.map_nil, Option.map_some, Option.map_none, if_true, if_false, ite_true, ite_false, reduceIte, reduceCtorEq, decide_true, decide_false, Nat.reduceAdd, Nat.reduceSub, Nat.reduceEqDiff, Int.reduceNeg, Int.reduceLT, Int.reduceLE, Bool.not_true, Bool.not_false, Nat.reduceLeDiff, and_self, true_and, and_true, rn, Bool.false_eq_true]
    refine Exists.imp (fun μ h => (mseq (miteV_no (by rw [v9]; exact eL i9))).trans h) ?_
    have lt : (wordsD r.1).length < 100000 := by unfold wordsD; rw [List.length_map]; omega
    refine Exists.imp (fun μ h => (mseq (mappC (μ' := [.lst (wordsD r.1 ++ [.int 9])]) (x := refD 0) (kq := .shr) (ke := .shr) (d := .int 9) ?_ rfl rfl (by decide) ?_)).trans h) ?_
    · refine eL ?_
      show evE (run tab fu 8) (.idx (.var 8) (.int 0)) [some (false, scrD ns), some (false, p.d), some (false, p.d), some (false, stD (i, xs)), some (false, .int (m : Int)), none, none, some (false, ranD r), some (false, .tuple [refD 0, optS r.2]), some (false, ranD r1)] = _
      simp only [runD, Dv.start, evSs_nil, evSs_cons, evS, evE, evL, evB, evAnd, evOr, evO, onOwn, guardO, setAll, thenS_nx, thenS_rt, thenS_ex, onV_ok, onV_ex, onB_ok, onB_ex, bindV_ok, bindV_ex, boolV_ok, bindA_ok, consA_ok, optI_none, optI_some, outcome_nx, outcome_shr, outcome_frs, outcome_ex, setV_shr, setV_frs, binD_add, binD_addT, binD_addL, binD_sub, binD_mulr, binD_mull, binD_fdiv', binD_mod', cmpD_lt, cmpD_le, cmpD_gt, cmpD_ge, cmpD_eqi, cmpD_nei, cmpD_is, cmpD_isn, cmpD_memL, cmpD_nmemL, cmpD_memT, cmpD_nmemT, isN_none, isN_int, isN_tup, isN_lst, isN_bool, isN_str, flat_int, flat_str, flat_none, flat_bool, fnD_lenL, fnD_lenT, fnD_lenS, fnD_intB, fnD_str, fnD_tupL, fnD_tupT, fnD_lstL, fnD_lstT, fnD_all, idxD_L, idxD_T, idxD_S, slcD_L, slcD_T, itemsD_L, itemsD_T, asD_shr, asD_frs, asB_ok, okCall_t, noBrw_nil, noBrw_shr, noBrw_frs, tests_nil, tests_one, at0, at1, at2, lim_eq, List.set_cons_zero, List.set_cons_succ, List.getElem?_cons_zero, List.getElem?_cons_succ, List.length_cons, List.length_nil, List.map_cons, List.map_nil, Option.map_some, Option.map_none, if_true, if_false, ite_true, ite_false, reduceIte, reduceCtorEq, decide_true, decide_false, Nat.reduceAdd, Nat.reduceSub, Nat.reduceEqDiff, Int.reduceNeg, Int.reduceLT, Int.reduceLE, Bool.not_true, Bool.not_false, Nat.reduceLeDiff, and_self, true_and, and_true]
    · show (if (wordsD r.1).length < lim ∧ (0 : Int) ≤ ((0 : Nat) : Int) then some _ else none) = _
      rw [if_pos ⟨lt, Int.natCast_nonneg 0⟩]
      rfl
    refine ⟨_, mseq_rt (mpL_rt ?_)⟩
    have q2 : evE (run tab fu 8) (.call "ran" [.var 1, .var 3, .var 4]) [some (false, scrD ns), some (false, p.d), some (false, p.d), some (false, stD (i, xs)), some (false, .int (m : Int)), none, none, some (false, ranD r), some (false, .tuple [refD 0, optS r.2]), some (false, ranD r1)] = some (.ok .shr (ranD r)) := by
      rw [evE, evL, evL, evL, evL]
      exact rp
    have q3 : evE (run tab fu 8) (.call "_law_is" [.call "ran" [.var 1, .var 3, .var 4], .var 7]) [some (false, scrD ns), some (false, p.d), some (false, p.d), some (false, stD (i, xs)), some (false, .int (m : Int)), none, none, some (false, ranD r), some (false, .tuple [refD 0, optS r.2]), some (false, ranD r1)] = some (.ok .shr (.bool true)) := by
      rw [evE, evL, evL, evL, q2]
      exact li
    rw [evS, evE, evAnd, q3]
    simp only [runD, Dv.start, evSs_nil, evSs_cons, evS, evE, evL, evB, evAnd, evOr, evO, onOwn, guardO, setAll, thenS_nx, thenS_rt, thenS_ex, onV_ok, onV_ex, onB_ok, onB_ex, bindV_ok, bindV_ex, boolV_ok, bindA_ok, consA_ok, optI_none, optI_some, outcome_nx, outcome_shr, outcome_frs, outcome_ex, setV_shr, setV_frs, binD_add, binD_addT, binD_addL, binD_sub, binD_mulr, binD_mull, binD_fdiv', binD_mod', cmpD_lt, cmpD_le, cmpD_gt, cmpD_ge, cmpD_eqi, cmpD_nei, cmpD_is, cmpD_isn, cmpD_memL, cmpD_nmemL, cmpD_memT, cmpD_nmemT, isN_none, isN_int, isN_tup, isN_lst, isN_bool, isN_str, flat_int, flat_str, flat_none, flat_bool, fnD_lenL, fnD_lenT, fnD_lenS, fnD_intB, fnD_str, fnD_tupL, fnD_tupT, fnD_lstL, fnD_lstT, fnD_all, idxD_L, idxD_T, idxD_S, slcD_L, slcD_T, itemsD_L, itemsD_T, asD_shr, asD_frs, asB_ok, okCall_t, noBrw_nil, noBrw_shr, noBrw_frs, tests_nil, tests_one, at0, at1, at2, lim_eq, List.set_cons_zero, List.set_cons_succ, List.getElem?_cons_zero, List.getElem?_cons_succ, List.length_cons, List.length_nil, List.map_cons, List.map_nil, Option.map_some, Option.map_none, if_true, if_false, ite_true, ite_false, reduceIte, reduceCtorEq, decide_true, decide_false, Nat.reduceAdd, Nat.reduceSub, Nat.reduceEqDiff, Int.reduceNeg, Int.reduceLT, Int.reduceLE, Bool.not_true, Bool.not_false, Nat.reduceLeDiff, and_self, true_and, and_true, prog_eq]
theorem main (ns : List Int) (hns : ns.length ≤ 63) : ∃ k μ, runM TB 100 (8 + 1) [] "law" [scrD ns] = some (.ok k (.bool true) μ) := main_fu 100 (by decide) ns
end Law

open PySem PySem.W PyProof.Rows in
set_option maxHeartbeats 0 in
theorem PySem.Challenge.cw_liveswap_k02_ran_holds : PySem.Challenge.rw_liveswap_k02_ran.Holds := by
  w_on; o_law; k_head; (case hw => w_witness2)
  k_fill
  refine Dv.law_walkM (l := PySem.Challenge.rw_liveswap_k02_ran) (n := 8) (T := Law.TB) (fu := 100) (cs := Law.cs) (hc := Law.hc) (ht := Law.ht) (es := Law.es) (d := Law.d_lawM) (x := "_law_script") rfl rfl ⟨rfl, by decide, by decide⟩ rfl rfl rfl rfl (fun w h Y => PySem.W.kIn_of Y) ?F Law.main
  case F =>
    intro w mg h KX G
    refine' Law.all_mk KX G ?a0 ?l0 ?c0 ?k0 ?a1 ?l1 ?c1 ?k1 ?a2 ?l2 ?c2 ?k2 ?a3 ?l3 ?c3 ?k3 ?a4 ?l4 ?c4 ?k4 ?a5 ?l5 ?c5 ?k5 ?a6 ?l6 ?c6 ?k6 ?a7 ?l7 ?c7 ?k7 ?a8 ?l8 ?c8 ?k8 ?a9 ?l9 ?c9 ?k9 ?a10 ?l10 ?c10 ?k10 ?a11 ?l11 ?c11 ?k11 ?a12 ?l12 ?c12 ?k12 ?a13 ?l13 ?c13 ?k13 ?a14 ?l14 ?c14 ?k14 ?a15 ?l15 ?c15 ?k15 ?a16 ?l16 ?c16 ?k16 ?a17 ?l17 ?c17 ?k17 ?a18 ?l18 ?c18 ?k18 ?z0 ?z1 ?z2 ?z3 ?z4 ?z5 ?z6 ?z7 ?z8 ?z9 ?z10 ?z11 ?z12 ?xg0 ?xq0 ?xk0 ?xb0 ?xt0 ?xg1 ?xq1 ?xk1 ?xb1 ?xt1 ?xg2 ?xg3 ?xg4 ?xg5 ?xg6 ?xg7 ?i2_ ?y2 ?s2_ ?yb ?i0_ ?y0 ?s0_ ?i3_ ?y3 ?s3_ ?i4_ ?y4 ?s4_ ?i1_ ?y1 ?s1_ ?i5_ ?y5 ?s5_ ?i6_ ?y6 ?s6_ ?i7_ ?y7 ?s7_ ?hg0 ?hk0 ?hs0 ?hd0 ?ha0 ?hn0 ?ht0 ?hm0 ?kv0 ?ko2_0 ?ko0_0 ?ko3_0 ?ko4_0 ?ko1_0 ?ko5_0 ?ko6_0 ?ko7_0 ?hg1 ?hk1 ?hs1 ?hd1 ?ha1 ?hn1 ?ht1 ?hm1 ?kv1 ?ko2_1 ?ko0_1 ?ko3_1 ?ko4_1 ?ko1_1 ?ko5_1 ?ko6_1 ?ko7_1 ?xU ?saU ?gaU ?ggU ?nbU ?a1U ?t1U ?l1U ?c1U ?kCU ?eCU ?hCU
    (case a0 => k_is)
    (case l0 => k_is)
    (case c0 => k_is)
    (case k0 => k_is)
    (case a1 => k_is)
    (case l1 => k_is)
    (case c1 => k_is)
    (case k1 => k_is)
    (case a2 => k_is)
    (case l2 => k_is)
    (case c2 => k_is)
    (case k2 => k_is)
    (case a3 => k_is)
    (case l3 => k_is)
    (case c3 => k_is)
    (case k3 => k_is)
    (case a4 => k_is)
    (case l4 => k_is)
    (case c4 => k_is)
    (case k4 => k_is)
    (case a5 => k_is)
    (case l5 => k_is)
    (case c5 => k_is)
    (case k5 => k_is)
    (case a6 => k_is)
    (case l6 => k_is)
    (case c6 => k_is)
    (case k6 => k_is)
    (case a7 => k_is)
    (case l7 => k_is)
    (case c7 => k_is)
    (case k7 => k_is)
    (case a8 => k_is)
    (case l8 => k_is)
    (case c8 => k_is)
    (case k8 => k_is)
    (case a9 => k_is)
    (case l9 => k_is)
    (case c9 => k_is)
    (case k9 => k_is)
    (case a10 => k_is)
    (case l10 => k_is)
    (case c10 => k_is)
    (case k10 => k_is)
    (case a11 => k_is)
    (case l11 => k_is)
    (case c11 => k_is)
    (case k11 => k_is)
    (case a12 => k_is)
    (case l12 => k_is)
    (case c12 => k_is)
    (case k12 => k_is)
    (case a13 => k_is)
    (case l13 => k_is)
    (case c13 => k_is)
    (case k13 => k_is)
    (case a14 => k_is)
    (case l14 => k_is)
    (case c14 => k_is)
    (case k14 => k_is)
    (case a15 => k_is)
    (case l15 => k_is)
    (case c15 => k_is)
    (case k15 => k_is)
    (case a16 => k_is)
    (case l16 => k_is)
    (case c16 => k_is)
    (case k16 => k_is)
    (case a17 => k_is)
    (case l17 => k_is)
    (case c17 => k_is)
    (case k17 => k_is)
    (case a18 => k_is)
    (case l18 => k_is)
    (case c18 => k_is)
    (case k18 => k_is)
    (case z0 => k_is)
    (case z1 => k_is)
    (case z2 => k_is)
    (case z3 => k_is)
    (case z4 => k_is)
    (case z5 => k_is)
    (case z6 => k_is)
    (case z7 => k_is)
    (case z8 => k_is)
    (case z9 => k_is)
    (case z10 => k_is)
    (case z11 => k_is)
    (case z12 => k_is)
    (case xg0 => k_is)
    (case xq0 => k_exc)
    (case xk0 => k_is)
    (case xb0 => k_is)
    (case xt0 => k_is)
    (case xg1 => k_is)
    (case xq1 => k_exc)
    (case xk1 => k_is)
    (case xb1 => k_is)
    (case xt1 => k_is)
    (case xg2 => k_is)
    (case xg3 => k_is)
    (case xg4 => k_is)
    (case xg5 => k_is)
    (case xg6 => k_is)
    (case xg7 => k_is)
    (case i2_ => k_is)
    (case y2 => k_is)
    (case s2_ => first | rfl | k_is)
    (case yb => k_is)
    (case i0_ => k_is)
    (case y0 => k_is)
    (case s0_ => first | rfl | k_is)
    (case i3_ => k_is)
    (case y3 => k_is)
    (case s3_ => first | rfl | k_is)
    (case i4_ => k_is)
    (case y4 => k_is)
    (case s4_ => first | rfl | k_is)
    (case i1_ => k_is)
    (case y1 => k_is)
    (case s1_ => first | rfl | k_is)
    (case i5_ => k_is)
    (case y5 => k_is)
    (case s5_ => first | rfl | k_is)
    (case i6_ => k_is)
    (case y6 => k_is)
    (case s6_ => first | rfl | k_is)
    (case i7_ => k_is)
    (case y7 => k_is)
    (case s7_ => first | rfl | k_is)
    (case hg0 => k_is)
    (case hk0 => k_is)
    (case hs0 => k_is)
    (case hd0 => k_is)
    (case ha0 => k_is)
    (case hn0 => k_is)
    (case ht0 => k_is)
    (case hm0 => k_is)
    (case kv0 => k_is)
    (case ko2_0 => first | rfl | k_is)
    (case ko0_0 => first | rfl | k_is)
    (case ko3_0 => first | rfl | k_is)
    (case ko4_0 => first | rfl | k_is)
    (case ko1_0 => first | rfl | k_is)
    (case ko5_0 => first | rfl | k_is)
    (case ko6_0 => first | rfl | k_is)
    (case ko7_0 => first | rfl | k_is)
    (case hg1 => k_is)
    (case hk1 => k_is)
    (case hs1 => k_is)
    (case hd1 => k_is)
    (case ha1 => k_is)
    (case hn1 => k_is)
    (case ht1 => k_is)
    (case hm1 => k_is)
    (case kv1 => k_is)
    (case ko2_1 => first | rfl | k_is)
    (case ko0_1 => first | rfl | k_is)
    (case ko3_1 => first | rfl | k_is)
    (case ko4_1 => first | rfl | k_is)
    (case ko1_1 => first | rfl | k_is)
    (case ko5_1 => first | rfl | k_is)
    (case ko6_1 => first | rfl | k_is)
    (case ko7_1 => first | rfl | k_is)
    (case xU => k_is)
    (case saU => k_is)
    (case gaU => k_is)
    (case ggU => k_is)
    (case nbU => k_is)
    (case a1U => k_is)
    (case t1U => k_is)
    (case l1U => k_is)
    (case c1U => k_is)
    (case kCU => k_is)
    (case eCU => k_is)
    (case hCU => k_is)
