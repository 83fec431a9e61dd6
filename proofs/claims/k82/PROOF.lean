import PyProof.Rows.All
import Wide.All
import OpenK.AllK
import Wide.FinOn
import HandS.ForMost
import HandS.Conv
import HandS.TupAny
import HandS.TupMul
import HandS.Zip
import HandS.Style
import HandS.Flow
import HandS.IsInst
import HandS.CallLocal
import HandS.TryMany
import HandS.Wide
import KE.IntBitsLaws
import KE.SortData
import KE.SortKeyHeap
import KE.DataEq
import KE.LtData
import KE.KDictKeyed
import PyProof.ReprRoads
import KE.KDictSum
import PyProof.Draws
import PyProof.EnumMake
import HandS.SetFor
import HandS.Ends
import HandS.Words
import PySem.Challenge.RW_arrowsalike_k82_bare_rings
set_option Elab.async false
set_option linter.all false
set_option maxRecDepth 100000
/-! A1: an interpreter of my own for the part of Python that the laws are written in. Frozen data are PyData trees; a list that may still change is owned by one slot. -/
namespace Ax
open PySem

abbrev D := PyData
/-- what a slot holds: frozen data; a list that this slot owns; such a list while a loop walks it; the script; a def -/
inductive M where
  | fro (d : D)
  | lst (ds : List D)
  | lock (ds : List D)
  | scr (ns : List Int)
  | fn (n : Nat)
  /-- a dict that this slot owns: its keys are numbers and texts (false), or rows of such (true) -/
  | dct (b : Bool) (kvs : List (List L2.Key × D))
/-- a slot: without a value; a value; the caller's thing number j -/
inductive Sl where
  | un
  | m (v : M)
  | ref (j : Nat)
structure S where
  r : List Sl
  u : List M
/-- an expression's result: a value of its own, or what slot i holds -/
inductive Rv where
  | m (v : M)
  | bor (i : Nat)
inductive R (σ α : Type) where
  | ok (a : α) (s : σ)
  | exc (c : Nat) (d : D) (s : σ)
  | bad
variable {σ τ α β γ : Type}
@[simp] def R.bind : R σ α → (α → σ → R σ β) → R σ β
  | .ok a s, f => f a s
  | .exc c d s, _ => .exc c d s
  | .bad, _ => .bad
def ofO : Option α → σ → R σ α
  | some a, s => .ok a s
  | none, _ => .bad
@[simp] theorem ofO_some (a : α) (s : σ) : ofO (some a) s = .ok a s := rfl
@[simp] theorem ofO_none (s : σ) : (ofO none s : R σ α) = .bad := rfl

def M.cont : M → Option D
  | .fro d => some d
  | .lst ds => some (.list ds)
  | .lock ds => some (.list ds)
  | .scr _ => none
  | .fn _ => none
  | .dct _ _ => none
/-- .. the script too -/
def M.contS : M → Option D
  | .scr ns => some (.list (ns.map .int))
  | v => v.cont
def M.own : M → Bool
  | .lst _ => true
  | .lock _ => true
  | .dct _ _ => true
  | _ => false
/-- a list of its own -/
def M.isL : M → Bool
  | .lst _ => true
  | .lock _ => true
  | _ => false
def M.isD : M → Bool
  | .dct _ _ => true
  | _ => false
def M.mut : M → Bool
  | .lst _ => true
  | .dct _ _ => true
  | _ => false
@[simp] theorem own_fro (d : D) : (M.fro d).own = false := rfl
@[simp] theorem own_lst (ds : List D) : (M.lst ds).own = true := rfl
@[simp] theorem own_lock (ds : List D) : (M.lock ds).own = true := rfl
@[simp] theorem own_scr (ns : List Int) : (M.scr ns).own = false := rfl
@[simp] theorem own_fn (n : Nat) : (M.fn n).own = false := rfl
@[simp] theorem own_dct (b : Bool) (kvs : List (List L2.Key × D)) : (M.dct b kvs).own = true := rfl
@[simp] theorem mut_dct (b : Bool) (kvs : List (List L2.Key × D)) : (M.dct b kvs).mut = true := rfl
@[simp] theorem mut_fro (d : D) : (M.fro d).mut = false := rfl
@[simp] theorem mut_lst (ds : List D) : (M.lst ds).mut = true := rfl
@[simp] theorem mut_lock (ds : List D) : (M.lock ds).mut = false := rfl
@[simp] theorem mut_scr (ns : List Int) : (M.scr ns).mut = false := rfl
@[simp] theorem mut_fn (n : Nat) : (M.fn n).mut = false := rfl

/-- what slot i shows -/
def S.at (s : S) (i : Nat) : Option M :=
  match s.r[i]? with
  | some (.m v) => some v
  | some (.ref j) => s.u[j]?
  | _ => none
/-- slot i's thing is put to v, where it stands -/
def S.put (s : S) (i : Nat) (v : M) : S :=
  match s.r[i]? with
  | some (.m _) => { s with r := s.r.set i (.m v) }
  | some (.ref j) => { s with u := s.u.set j v }
  | _ => s
/-- slot i is given a new value -/
def S.set (s : S) (i : Nat) (v : M) : S := { s with r := s.r.set i (.m v) }
abbrev Own := Nat ⊕ Nat
/-- whose slot i's thing is -/
def ownerOf (s : S) (i : Nat) : Option Own :=
  match s.r[i]? with
  | some (.m _) => some (.inl i)
  | some (.ref j) => some (.inr j)
  | _ => none
/-- what an owner has -/
def S.get (s : S) : Own → Option M
  | .inl i => match s.r[i]? with
    | some (.m v) => some v
    | _ => none
  | .inr j => s.u[j]?
/-- the owner o is given v -/
def S.upO (s : S) : Own → M → S
  | .inl i, v => { s with r := s.r.set i (.m v) }
  | .inr j, v => { s with u := s.u.set j v }
def view (s : S) : Rv → Option D
  | .m v => v.cont
  | .bor i => (s.at i).bind M.cont
def viewS (s : S) : Rv → Option D
  | .m v => v.contS
  | .bor i => (s.at i).bind M.contS
/-- the value is given away: from now on it is frozen -/
def frz (s : S) : Rv → Option (D × S)
  | .m v => v.cont.map (·, s)
  | .bor i => match s.at i with
    | some v => v.cont.map fun d => (d, if v.own = true then s.put i (.fro d) else s)
    | none => none
def frzAll : S → List Rv → Option (List D × S)
  | s, [] => some ([], s)
  | s, r :: rs => match frz s r with
    | some (d, s1) => (frzAll s1 rs).map fun (ds, s2) => (d :: ds, s2)
    | none => none
def views (s : S) : List Rv → Option (List D)
  | [] => some []
  | r :: rs => match viewS s r with
    | some d => (views s rs).map (d :: ·)
    | none => none
def truth : Rv → Option Bool
  | .m (.fro (.bool b)) => some b
  | _ => none

/-! ### operations on data -/
abbrev line : Nat := 16777216
mutual
def dok : Nat → D → Bool
  | 0, .tuple _ => false
  | 0, .list _ => false
  | n + 1, .tuple ds => dokAll n ds
  | n + 1, .list ds => dokAll n ds
  | _, .dict _ => false
  | _, _ => true
def dokAll : Nat → List D → Bool
  | _, [] => true
  | n, d :: ds => dok n d && dokAll n ds
end
def binD : Operator → D → D → Option M
  | .Add, .int a, .int b => some (.fro (.int (a + b)))
  | .Add, .str a, .str b => if a.length + b.length ≤ line then some (.fro (.str (a ++ b))) else none
  | .Add, .tuple a, .tuple b => if a.length + b.length ≤ line then some (.fro (.tuple (a ++ b))) else none
  | .Add, .list a, .list b => if a.length + b.length ≤ line then some (.lst (a ++ b)) else none
  | .Sub, .int a, .int b => some (.fro (.int (a - b)))
  | .Mult, .int a, .int b => if a.natAbs < 2 ^ 64 ∨ b.natAbs < 2 ^ 64 ∨ (a.natAbs < 2 ^ 4000 ∧ b.natAbs < 2 ^ 4000) then some (.fro (.int (a * b))) else none
  | .Mult, .list a, .int k => if k.natAbs ≤ 16777216 ∧ a.length * k.toNat ≤ line then some (.lst (List.replicate k.toNat a).flatten) else none
  | .Mult, .tuple a, .int k => if 1 ≤ k ∧ k ≤ 1000 ∧ a ≠ [] ∧ a.length ≤ 1000 then some (.fro (.tuple (List.replicate k.toNat a).flatten)) else none
  | .FloorDiv, .int a, .int b => if 0 < b ∧ b.natAbs < 1073741824 then some (.fro (.int (a / b))) else none
  | .Mod, .int a, .int b => if 0 < b then some (.fro (.int (a % b))) else none
  | .Pow, .int a, .int b => if 0 ≤ b ∧ b ≤ 1000 ∧ a.natAbs < 2 ^ 4000 then some (.fro (.int (a ^ b.toNat))) else none
  | _, _, _ => none
def itemsD : D → Option (List D)
  | .list ds => some ds
  | .tuple ds => some ds
  | _ => none
def hasD (x : D) (ds : List D) : Bool := ds.any fun z => PyData.eqv z x
def cmpD : CmpOp → D → D → Option Bool
  | .Eq, a, b => if dok 50 a || dok 50 b then some (PyData.eqv a b) else none
  | .NotEq, a, b => if dok 50 a || dok 50 b then some (!PyData.eqv a b) else none
  | .Lt, .int a, .int b => some (decide (a < b))
  | .LtE, .int a, .int b => some (decide (a ≤ b))
  | .Gt, .int a, .int b => some (decide (b < a))
  | .GtE, .int a, .int b => some (decide (b ≤ a))
  | .Lt, .tuple a, .tuple b => if dok 50 (.tuple a) && PySem.W.alike (.tuple a) (.tuple b) then some (PySem.W.dataLt (.tuple a) (.tuple b)) else none
  | .In, x, .list ds => if dok 50 x then some (hasD x ds) else none
  | .In, x, .tuple ds => if dok 50 x then some (hasD x ds) else none
  | .NotIn, x, .list ds => if dok 50 x then some (!hasD x ds) else none
  | .NotIn, x, .tuple ds => if dok 50 x then some (!hasD x ds) else none
  | .Is, .bool a, .bool b => some (decide (a = b))
  | .IsNot, .bool a, .bool b => some (!decide (a = b))
  | _, _, _ => none
/-- the item at i, from behind where i is negative -/
def nthD (ds : List α) (i : Int) : Option α :=
  if 0 ≤ i then ds[i.toNat]? else if -(ds.length : Int) ≤ i then ds[(ds.length + i).toNat]? else none
def ixD : D → D → Option D
  | .list ds, .int i => nthD ds i
  | .tuple ds, .int i => nthD ds i
  | _, _ => none
def cutD (ds : List α) (lo hi : Option Int) : List α := (ds.drop (HT.sIx ds.length 0 lo)).take (HT.sIx ds.length ds.length hi - HT.sIx ds.length 0 lo)
def slD : D → Option Int → Option Int → Option M
  | .list ds, lo, hi => some (.lst (cutD ds lo hi))
  | .tuple ds, lo, hi => some (.fro (.tuple (cutD ds lo hi)))
  | _, _, _ => none
/-- types that tell how data are compared -/
inductive Ty where
  | int | str
  | seq (t : Ty)
  | pr (a b : Ty)
  | tr (a b c : Ty)
def hasTy : Ty → D → Bool
  | .int, .int _ => true
  | .str, .str _ => true
  | .seq t, .tuple ds => ds.all (hasTy t)
  | .pr a b, .tuple [x, y] => hasTy a x && hasTy b y
  | .tr a b c, .tuple [x, y, z] => hasTy a x && hasTy b y && hasTy c z
  | _, _ => false
def tyDep : Ty → Nat
  | .int => 0
  | .str => 0
  | .seq t => tyDep t + 1
  | .pr a b => max (tyDep a) (tyDep b) + 1
  | .tr a b c => max (tyDep a) (max (tyDep b) (tyDep c)) + 1
def full : D → Bool
  | .tuple [] => false
  | _ => true
def sortD (ds : List D) : List D := ds.mergeSort (PySem.W.dataLe false fun d => d)
def srtD (t : Ty) (ds : List D) : Option (List D) := if ds.length ≤ line ∧ tyDep t ≤ 20 ∧ ds.all (fun d => hasTy t d && full d) = true then some (sortD ds) else none

/-- built-in functions by values -/
inductive Bi where
  | len | tuple | list | all | any | min2 | max2 | abs | int | repr
def boolsD : List D → Option (List Bool)
  | [] => some []
  | .bool b :: ds => (boolsD ds).map (b :: ·)
  | _ :: _ => none
def biD : Bi → List D → Option M
  | .len, [.list ds] => some (.fro (.int ds.length))
  | .len, [.tuple ds] => some (.fro (.int ds.length))
  | .tuple, [.list ds] => some (.fro (.tuple ds))
  | .tuple, [.tuple ds] => some (.fro (.tuple ds))
  | .list, [.list ds] => some (.lst ds)
  | .list, [.tuple ds] => some (.lst ds)
  | .all, [.list ds] => (boolsD ds).map fun bs => .fro (.bool (bs.all id))
  | .any, [.list ds] => (boolsD ds).map fun bs => .fro (.bool (bs.any id))
  | .min2, [.int a, .int b] => some (.fro (.int (if b < a then b else a)))
  | .max2, [.int a, .int b] => some (.fro (.int (if b > a then b else a)))
  | .abs, [.int a] => some (.fro (.int (if a < 0 then -a else a)))
  | .int, [.int a] => some (.fro (.int a))
  | .repr, [d] => if dok 50 d = true ∧ d.showable = true ∧ d.shown.length ≤ line then some (.fro (.str d.shown)) else none
  | _, _ => none
def isiD (t : String) : D → Bool
  | .none => t == "NoneType"
  | .bool _ => t == "bool" || t == "int"
  | .int _ => t == "int"
  | .str _ => t == "str"
  | .list _ => t == "list"
  | .tuple _ => t == "tuple"
  | .dict _ => t == "dict"
/-- ints below n from lo on -/
def rgD (lo hi : Int) : List D := (List.range (hi - lo).toNat).map fun i => .int (lo + (i : Nat))
def rgOk (lo hi : Int) : Bool := decide (lo.natAbs < 2 ^ 62) && decide (hi.natAbs < 2 ^ 62)
def intsD : List D → Option (List Int)
  | [] => some []
  | .int i :: ds => (intsD ds).map (i :: ·)
  | _ :: _ => none
def dedup : List Int → List Int
  | [] => []
  | x :: xs => if x ∈ xs then dedup xs else x :: dedup xs

/-! ### the texts -/
mutual
/-- expressions -/
inductive Ex where
  | non | bl (b : Bool) | int (i : Int) | str (s : Str)
  | var (i : Nat)
  | fnv (f : Nat)
  | bin (op : Operator) (a b : Ex)
  | cmp (op : CmpOp) (a b : Ex)
  | isN (neg : Bool) (a : Ex)
  | and (as : Xs) | or (as : Xs) | not (a : Ex) | neg (a : Ex)
  | ite (c a b : Ex)
  | tup (as : Xs) | lst (as : Xs)
  | ix (a i : Ex)
  | sl (a : Ex) (lo hi : Xo)
  | lc (own : List Nat) (t : T) (it : I) (ifs : Xo) (e : Ex)
  | lc2 (own own1 : List Nat) (t : T) (it : I) (ifs : Xo) (t1 : T) (it1 : I) (ifs1 : Xo) (e : Ex)
  | call (f : Nat) (as : Xs)
  | callK (f : Nat) (as : Xs) (ks : List Str) (bs : Xs) (perm : List Nat)
  | callV (i : Nat) (as : Xs)
  | bi (b : Bi) (as : Xs)
  | isi (t : String) (a : Ex)
  | rng (tup : Bool) (g : Rg)
  | lenSet (a : Ex)
  | srt (t : Ty) (a : Ex)
  | frz (a : Ex)
  | dnew (b : Bool) | dIn (neg : Bool) (a : Ex) (i : Nat) | dGet (i : Nat) (a : Ex) | dSrt (t : Ty) (i : Nat)
  | app (i : Nat) (a : Ex) | ext (i : Nat) (a : Ex) | pop (i : Nat) | popAt (i : Nat) (a : Ex)
inductive Xs where
  | nil
  | cons (a : Ex) (as : Xs)
inductive Xo where
  | no
  | so (a : Ex)
/-- what is walked -/
inductive I where
  | seq (a : Ex) | rng (g : Rg) | zip (a b : Ex) | enm (a : Ex)
/-- what range is given -/
inductive Rg where
  | r1 (hi : Ex) | r2 (lo hi : Ex)
/-- targets -/
inductive T where
  | nm (i : Nat)
  | tp (ts : Ts)
inductive Ts where
  | nil
  | cons (t : T) (ts : Ts)
end
mutual
inductive St where
  | asg (t : T) (x : Ex)
  | asgN (is : List Nat) (xs : Xs)
  | asgIx (i : Nat) (k x : Ex)
  | dPut (i : Nat) (k x : Ex)
  | aug (i : Nat) (op : Operator) (x : Ex)
  | expr (x : Ex)
  | ret (x : Ex)
  | retN
  | ite (c : Ex) (a b : Sts)
  | for_ (t : T) (it : I) (b : Sts)
  | while_ (c : Ex) (b : Sts)
  | pass
  | never
inductive Sts where
  | nil
  | cons (a : St) (as : Sts)
end
structure Fn where
  np : Nat
  ns : Nat
  body : Sts

/-! ### what they do -/
/-- an argument as a def gets it -/
inductive Arg where
  | m (v : M)
  | lent (p : Nat)
/-- what a call hands over: frozen values, or the caller's own things, in order; where these stand -/
def lend (s : S) : List Rv → Option (List Arg × List (Nat × M))
  | [] => some ([], [])
  | .m v :: rs => match lend s rs with
    | some (as, l) => if v.own = true then (match v.cont with
        | some d => some (.m (.fro d) :: as, l)
        | none => none) else some (.m v :: as, l)
    | none => none
  | .bor i :: rs => match lend s rs, s.at i with
    | some (as, l), some v => if v.own = true then some (.lent l.length :: as, l ++ [(i, v)]) else some (.m v :: as, l)
    | _, _ => none
def giveBack : S → List (Nat × M) → List M → S
  | s, (i, _) :: l, v :: vs => giveBack (s.put i v) l vs
  | s, _, _ => s
/-- two owners lent are two -/
def apart (s : S) (l : List (Nat × M)) : Bool := decide ((l.map fun p => ownerOf s p.1).Nodup)
def callWith (call : Nat → List Arg → List M → R (List M) M) (f : Nat) (perm : List Nat) (s : S) (rs : List Rv) : R S Rv :=
  match lend s rs with
  | none => .bad
  | some (as, l) => if apart s l = true then
      match call f (perm.filterMap fun i => as[i]?) (l.map (·.2)) with
      | .ok v u => .ok (.m v) (giveBack s l u)
      | .exc c d u => .exc c d (giveBack s l u)
      | .bad => .bad
    else .bad
def asBool (b : Bool) : Rv := .m (.fro (.bool b))
/-- as a test -/
def tst : R S Rv → R S Bool
  | .ok r s => ofO (truth r) s
  | .exc c d s => .exc c d s
  | .bad => .bad
mutual
/-- the target takes frozen data -/
def bindT : T → D → S → Option S
  | .nm i, d, s => some (s.set i (.fro d))
  | .tp ts, .tuple ds, s => bindTs ts ds s
  | .tp _, _, _ => none
def bindTs : Ts → List D → S → Option S
  | .nil, [], s => some s
  | .cons t ts, d :: ds, s => match bindT t d s with
    | some s1 => bindTs ts ds s1
    | none => none
  | _, _, _ => none
end
def wipeS (s : S) (own : List Nat) : S := { s with r := own.foldl (fun r i => r.set i .un) s.r }
/-- behind a block: the block's own names are again what they were -/
def unwipe (s s1 : S) (own : List Nat) : S := { s1 with r := own.foldl (fun r i => r.set i (s.r.getD i .un)) s1.r }
/-- the turns of a comprehension -/
def lcGo (own : List Nat) (turn : D → S → List D → R S (List D)) : List D → S → List D → R S (List D)
  | [], s, acc => .ok acc s
  | d :: ds, s, acc => (turn d s acc).bind fun acc s1 => lcGo own turn ds (wipeS s1 own) acc
def lcEnd (own : List Nat) (s : S) : R S (List D) → R S Rv
  | .ok ds s1 => .ok (.m (.lst ds)) (unwipe s s1 own)
  | _ => .bad
def keep1 (r : Rv) (acc : List D) (s : S) : R S (List D) :=
  match frz s r with
  | some (d, s1) => if acc.length < line then .ok (acc ++ [d]) s1 else .bad
  | none => .bad
/-- a walked list that a slot owns is locked -/
def lockS (s : S) : Rv → S
  | .bor i => match s.at i with
    | some (.lst ds) => s.put i (.lock ds)
    | _ => s
  | _ => s
def unlockO (s0 s : S) (i : Nat) : Option Own → S
  | some o => match s0.at i, s.get o with
    | some (.lst _), some (.lock ds) => s.upO o (.lst ds)
    | _, _ => s
  | none => s
def unlockS (s0 s : S) : Rv → S
  | .bor i => unlockO s0 s i (ownerOf s0 i)
  | _ => s
def popD (ds : List D) : Option (D × List D) :=
  match ds[ds.length - 1]? with
  | none => none
  | some d => some (d, ds.dropLast)
def popAtD (ds : List D) (i : Int) : Option (D × List D) :=
  if 0 ≤ i ∧ i.toNat ≤ 16777216 then ds[i.toNat]?.map (·, ds.eraseIdx i.toNat) else none
/-- slot i has a list of its own -/
def ownS (s : S) (i : Nat) : Bool := match s.at i with
  | some v => v.isL
  | none => false
/-- slot i has a dict of its own -/
def dctS (s : S) (i : Nat) : Bool := match s.at i with
  | some v => v.isD
  | none => false
/-! dicts -/
def leafK : D → Option L2.Key
  | .int i => some (.inl i)
  | .str z => some (.inr z)
  | _ => none
def leafsK : List D → Option (List L2.Key)
  | [] => some []
  | d :: ds => match leafK d, leafsK ds with
    | some k, some ks => some (k :: ks)
    | _, _ => none
/-- a dict's key -/
def keyD : Bool → D → Option (List L2.Key)
  | false, d => (leafK d).map fun k => [k]
  | true, .tuple ds => leafsK ds
  | true, _ => none
def kD : L2.Key → D
  | .inl i => .int i
  | .inr z => .str z
/-- .. as data -/
def dKey : Bool → List L2.Key → D
  | true, ks => .tuple (ks.map kD)
  | false, k :: _ => kD k
  | false, [] => .none
def getK (kvs : List (List L2.Key × D)) (k : List L2.Key) : Option D := (kvs.find? fun kv => decide (kv.1 = k)).map (·.2)
def putK (kvs : List (List L2.Key × D)) (k : List L2.Key) (d : D) : List (List L2.Key × D) :=
  if (kvs.any fun kv => decide (kv.1 = k)) = true then kvs.map (fun kv => if kv.1 = k then (kv.1, d) else kv) else kvs ++ [(k, d)]
def kDIn (neg : Bool) (i : Nat) (x : Rv) (s : S) : R S Rv := match x, s.at i with
  | .m (.fro d), some (.dct b kvs) => match keyD b d with
    | some k => .ok (asBool (if neg = true then !(getK kvs k).isSome else (getK kvs k).isSome)) s
    | none => .bad
  | _, _ => .bad
def kDGet (i : Nat) (x : Rv) (s : S) : R S Rv := match x, s.at i with
  | .m (.fro d), some (.dct b kvs) => match keyD b d with
    | some k => ofO ((getK kvs k).map fun z => Rv.m (.fro z)) s
    | none => .bad
  | _, _ => .bad
def kDSrt (t : Ty) (i : Nat) (s : S) : R S Rv := match s.at i with
  | some (.dct b kvs) => ofO ((srtD t (kvs.map fun p => dKey b p.1)).map fun l => Rv.m (.lst l)) s
  | _ => .bad
def kBin (op : Operator) (x y : Rv) (s : S) : R S Rv := match view s x, view s y with
  | some d, some e => ofO ((binD op d e).map Rv.m) s
  | _, _ => .bad
def kCmp (op : CmpOp) (x y : Rv) (s : S) : R S Rv := match viewS s x, viewS s y with
  | some d, some e => ofO ((cmpD op d e).map asBool) s
  | _, _ => .bad
def kIsN (neg : Bool) (x : Rv) (s : S) : R S Rv := match x with
  | .m (.fro .none) => .ok (asBool !neg) s
  | .m _ => .ok (asBool neg) s
  | .bor i => match s.at i with
    | some v => if v.own = true then .ok (asBool neg) s else .bad
    | none => .bad
def kNeg (x : Rv) (s : S) : R S Rv := match x with
  | .m (.fro (.int i)) => .ok (.m (.fro (.int (-i)))) s
  | _ => .bad
def kTup (rs : List Rv) (s : S) : R S Rv := match frzAll s rs with
  | some (ds, s2) => if ds.length ≤ line then .ok (.m (.fro (.tuple ds))) s2 else .bad
  | none => .bad
def kLst (rs : List Rv) (s : S) : R S Rv := match frzAll s rs with
  | some (ds, s2) => if ds.length ≤ line then .ok (.m (.lst ds)) s2 else .bad
  | none => .bad
def kIx (x y : Rv) (s : S) : R S Rv := match viewS s x, viewS s y with
  | some d, some e => ofO ((ixD d e).map fun z => Rv.m (.fro z)) s
  | _, _ => .bad
def kSl (x : Rv) (l h : Option Int) (s : S) : R S Rv := match viewS s x with
  | some d => ofO ((slD d l h).map Rv.m) s
  | none => .bad
def kBi (b : Bi) (rs : List Rv) (s : S) : R S Rv := match views s rs with
  | some ds => ofO ((biD b ds).map Rv.m) s
  | none => .bad
def kIsi (t : String) (x : Rv) (s : S) : R S Rv := match viewS s x with
  | some d => .ok (asBool (isiD t d)) s
  | none => .bad
def kRng (tup : Bool) (p : Int × Int) (s : S) : R S Rv := if rgOk p.1 p.2 = true ∧ (p.2 - p.1).toNat ≤ line then
  .ok (.m (if tup = true then .fro (.tuple (rgD p.1 p.2)) else .lst (rgD p.1 p.2))) s else .bad
def kLenSet (x : Rv) (s : S) : R S Rv := match (viewS s x).bind itemsD with
  | some ds => match intsD ds with
    | some ns => if ns.Nodup ∧ ns.length ≤ 4000 then .ok (.m (.fro (.int ns.length))) s else .bad
    | none => .bad
  | none => .bad
def kSrt (t : Ty) (x : Rv) (s : S) : R S Rv := match viewS s x with
  | some (.list ds) => ofO ((srtD t ds).map fun l => Rv.m (.lst l)) s
  | _ => .bad
def kApp (i : Nat) (x : Rv) (s : S) : R S Rv := match frz s x with
  | some (d, s2) => match s2.at i with
    | some (.lst ds) => if ds.length < line then .ok (.m (.fro .none)) (s2.put i (.lst (ds ++ [d]))) else .bad
    | _ => .bad
  | none => .bad
/-- a value is frozen -/
def kFrz (x : Rv) (s : S) : R S Rv := match frz s x with
  | some (d, s2) => .ok (.m (.fro d)) s2
  | none => .bad
def kExt (i : Nat) (x : Rv) (s : S) : R S Rv := match view s x with
  | some (.list es) => match s.at i with
    | some (.lst ds) => if ds.length + es.length ≤ line then .ok (.m (.fro .none)) (s.put i (.lst (ds ++ es))) else .bad
    | _ => .bad
  | _ => .bad
def kPop (i : Nat) (s : S) : R S Rv := match s.at i with
  | some (.lst ds) => match popD ds with
    | some (d, r) => .ok (.m (.fro d)) (s.put i (.lst r))
    | none => .bad
  | _ => .bad
def kPopAt (i : Nat) (x : Rv) (s : S) : R S Rv := match x with
  | .m (.fro (.int k)) => match s.at i with
    | some (.lst ds) => match popAtD ds k with
      | some (d, r) => .ok (.m (.fro d)) (s.put i (.lst r))
      | none => .bad
    | _ => .bad
  | _ => .bad
def kInt (x : Rv) (s : S) : R S (Option Int) := match x with
  | .m (.fro (.int i)) => .ok (some i) s
  | _ => .bad
def kR1 (y : Rv) (s : S) : R S (Int × Int) := match y with
  | .m (.fro (.int h)) => .ok (0, h) s
  | _ => .bad
def kR2 (x y : Rv) (s : S) : R S (Int × Int) := match x, y with
  | .m (.fro (.int l)), .m (.fro (.int h)) => .ok (l, h) s
  | _, _ => .bad
def kSeq (x : Rv) (s : S) : R S (Rv × List D) := match (viewS s x).bind itemsD with
  | some ds => .ok (x, ds) s
  | none => .bad
def kRgI (p : Int × Int) (s : S) : R S (Rv × List D) := if rgOk p.1 p.2 = true then .ok (.m (.fro .none), rgD p.1 p.2) s else .bad
def kZip (x y : Rv) (s : S) : R S (Rv × List D) := match x, y with
  | .m (.fro (.tuple ds)), .m (.fro (.tuple es)) => .ok (.m (.fro .none), (ds.zip es).map fun p => .tuple [p.1, p.2]) s
  | _, _ => .bad
def kEnm (x : Rv) (s : S) : R S (Rv × List D) := match x with
  | .m (.fro (.tuple ds)) => .ok (.m (.fro .none), ds.zipIdx.map fun p => .tuple [.int (p.2 : Nat), p.1]) s
  | _ => .bad
/-- one turn of a comprehension -/
def turnLc (t : T) (ifs : S → R S Bool) (e : S → R S Rv) (d : D) (s : S) (acc : List D) : R S (List D) := match bindT t d s with
  | some s3 => (ifs s3).bind fun b s4 => if b = true then (e s4).bind fun y s5 => keep1 y acc s5 else .ok acc s4
  | none => .bad
/-- a comprehension's loop: over ds, which r is -/
def runLc (own : List Nat) (r : Rv) (turn : D → S → List D → R S (List D)) (ds : List D) (s1 : S) : R S Rv :=
  match lcEnd own (lockS s1 r) (lcGo own turn ds (wipeS (lockS s1 r) own) []) with
  | .ok v s3 => .ok v (unlockS s1 s3 r)
  | .exc c d s3 => .exc c d s3
  | .bad => .bad
def runLc1 (own1 : List Nat) (r1 : Rv) (turn : D → S → List D → R S (List D)) (ds1 : List D) (acc : List D) (s5 : S) : R S (List D) :=
  match lcGo own1 turn ds1 (wipeS (lockS s5 r1) own1) acc with
  | .ok acc1 s7 => .ok acc1 (unlockS s5 s7 r1)
  | .exc c d s7 => .exc c d s7
  | .bad => .bad
section
variable (call : Nat → List Arg → List M → R (List M) M)
mutual
def evE : Ex → S → R S Rv
  | .non, s => .ok (.m (.fro .none)) s
  | .bl b, s => .ok (asBool b) s
  | .int i, s => .ok (.m (.fro (.int i))) s
  | .str x, s => .ok (.m (.fro (.str x))) s
  | .var i, s => match s.at i with
    | some v => if v.own = true then .ok (.bor i) s else .ok (.m v) s
    | none => .bad
  | .fnv f, s => .ok (.m (.fn f)) s
  | .bin op a b, s => (evE a s).bind fun x s1 => (evE b s1).bind (kBin op x)
  | .cmp op a b, s => (evE a s).bind fun x s1 => (evE b s1).bind (kCmp op x)
  | .isN neg a, s => (evE a s).bind (kIsN neg)
  | .and as, s => (evAnd as s).bind fun b s1 => .ok (asBool b) s1
  | .or as, s => (evOr as s).bind fun b s1 => .ok (asBool b) s1
  | .not a, s => (tst (evE a s)).bind fun b s1 => .ok (asBool (!b)) s1
  | .neg a, s => (evE a s).bind kNeg
  | .ite c a b, s => (tst (evE c s)).bind fun k s1 => if k = true then evE a s1 else evE b s1
  | .tup as, s => (evXs as s).bind kTup
  | .lst as, s => (evXs as s).bind kLst
  | .ix a i, s => (evE a s).bind fun x s1 => (evE i s1).bind (kIx x)
  | .sl a lo hi, s => (evE a s).bind fun x s1 => (evXo lo s1).bind fun l s2 => (evXo hi s2).bind (kSl x l)
  | .lc own t it ifs e, s => (evI it s).bind fun p s1 => runLc own p.1 (turnLc t (evIfs ifs) (evE e)) p.2 s1
  | .lc2 own own1 t it ifs t1 it1 ifs1 e, s => (evI it s).bind fun p s1 => runLc own p.1 (fun d s acc => match bindT t d s with
      | some s3 => (evIfs ifs s3).bind fun b s4 => if b = true then
          (evI it1 s4).bind fun p1 s5 => runLc1 own1 p1.1 (turnLc t1 (evIfs ifs1) (evE e)) p1.2 acc s5 else .ok acc s4
      | none => .bad) p.2 s1
  | .call f as, s => (evXs as s).bind fun rs s1 => callWith call f (List.range rs.length) s1 rs
  | .callK f as _ bs perm, s => (evXs as s).bind fun rs s1 => (evXs bs s1).bind fun qs s2 => callWith call f perm s2 (rs ++ qs)
  | .callV i as, s => match s.at i with
      | some (.fn f) => (evXs as s).bind fun rs s1 => callWith call f (List.range rs.length) s1 rs
      | _ => .bad
  | .bi b as, s => (evXs as s).bind (kBi b)
  | .isi t a, s => (evE a s).bind (kIsi t)
  | .rng tup g, s => (evRg g s).bind (kRng tup)
  | .lenSet a, s => (evE a s).bind kLenSet
  | .srt t a, s => (evE a s).bind (kSrt t)
  | .frz a, s => (evE a s).bind kFrz
  | .dnew b, s => .ok (.m (.dct b [])) s
  | .dIn neg a i, s => (evE a s).bind (kDIn neg i)
  | .dGet i a, s => if dctS s i = true then (evE a s).bind (kDGet i) else .bad
  | .dSrt t i, s => kDSrt t i s
  | .app i a, s => if ownS s i = true then (evE a s).bind (kApp i) else .bad
  | .ext i a, s => if ownS s i = true then (evE a s).bind (kExt i) else .bad
  | .pop i, s => kPop i s
  | .popAt i a, s => if ownS s i = true then (evE a s).bind (kPopAt i) else .bad
def evXs : Xs → S → R S (List Rv)
  | .nil, s => .ok [] s
  | .cons a as, s => (evE a s).bind fun r s1 => (evXs as s1).bind fun rs s2 => .ok (r :: rs) s2
def evAnd : Xs → S → R S Bool
  | .nil, _ => .bad
  | .cons a as, s => (tst (evE a s)).bind fun b s1 => if b = true then evAnd1 as s1 else .ok false s1
def evAnd1 : Xs → S → R S Bool
  | .nil, s => .ok true s
  | .cons a as, s => (tst (evE a s)).bind fun b s1 => if b = true then evAnd1 as s1 else .ok false s1
def evOr : Xs → S → R S Bool
  | .nil, _ => .bad
  | .cons a as, s => (tst (evE a s)).bind fun b s1 => if b = true then .ok true s1 else evOr1 as s1
def evOr1 : Xs → S → R S Bool
  | .nil, s => .ok false s
  | .cons a as, s => (tst (evE a s)).bind fun b s1 => if b = true then .ok true s1 else evOr1 as s1
/-- an optional whole number -/
def evXo : Xo → S → R S (Option Int)
  | .no, s => .ok none s
  | .so a, s => (evE a s).bind kInt
def evRg : Rg → S → R S (Int × Int)
  | .r1 hi, s => (evE hi s).bind kR1
  | .r2 lo hi, s => (evE lo s).bind fun x s1 => (evE hi s1).bind (kR2 x)
def evIfs : Xo → S → R S Bool
  | .no, s => .ok true s
  | .so a, s => tst (evE a s)
/-- what is walked, and whose it is -/
def evI : I → S → R S (Rv × List D)
  | .seq a, s => (evE a s).bind kSeq
  | .rng g, s => (evRg g s).bind kRgI
  | .zip a b, s => (evE a s).bind fun x s1 => (evE b s1).bind (kZip x)
  | .enm a, s => (evE a s).bind kEnm
end

inductive Fl where
  | next
  | ret (v : M)
def forGo (turn : D → S → R S Fl) : List D → S → R S Fl
  | [], s => .ok .next s
  | d :: ds, s => (turn d s).bind fun f s1 => match f with
      | .next => forGo turn ds s1
      | .ret v => .ok (.ret v) s1
def whileGo (c : S → R S Bool) (b : S → R S Fl) : Nat → S → R S Fl
  | 0, _ => .bad
  | n + 1, s => (c s).bind fun k s1 => if k = true then (b s1).bind fun f s2 => match f with
        | .next => whileGo c b n s2
        | .ret v => .ok (.ret v) s2
      else .ok .next s1
/-- turns that a while may have -/
def most : Nat := 1000000
/-- a value goes to a slot -/
def give (s : S) : Rv → Option (M × S)
  | .m v => some (v, s)
  | .bor i => (frz s (.bor i)).map fun (d, s1) => (.fro d, s1)
def giveAll : S → List Rv → Option (List M × S)
  | s, [] => some ([], s)
  | s, r :: rs => match give s r with
    | some (v, s1) => (giveAll s1 rs).map fun (vs, s2) => (v :: vs, s2)
    | none => none
def setAll : S → List Nat → List M → S
  | s, i :: is, v :: vs => setAll (s.set i v) is vs
  | s, _, _ => s
/-- a value is handed back: a list of this def's own stays one -/
def back (s : S) : Rv → Option (M × S)
  | .m v => some (v, s)
  | .bor i => match s.r[i]? with
    | some (.m (.lst ds)) => some (.lst ds, s)
    | _ => (frz s (.bor i)).map fun (d, s1) => (.fro d, s1)
def kSet (i : Nat) (r q : Rv) (s2 : S) : R S Fl := match frz s2 r with
  | some (d, s3) => match q, s3.at i with
    | .m (.fro (.int j)), some (.lst ds) => if 0 ≤ j ∧ j < ds.length then .ok .next (s3.put i (.lst (ds.set j.toNat d))) else .bad
    | _, _ => .bad
  | none => .bad
def kDPut (i : Nat) (r q : Rv) (s2 : S) : R S Fl := match frz s2 r with
  | some (d, s3) => match q, s3.at i with
    | .m (.fro kd), some (.dct b kvs) => match keyD b kd with
      | some k => if kvs.length < line then .ok .next (s3.put i (.dct b (putK kvs k d))) else .bad
      | none => .bad
    | _, _ => .bad
  | none => .bad
def forEnd (s1 : S) (r : Rv) : R S Fl → R S Fl
  | .ok f s2 => .ok f (unlockS s1 s2 r)
  | .exc c d s2 => .exc c d (unlockS s1 s2 r)
  | .bad => .bad
mutual
def evS : St → S → R S Fl
  | .asg t x, s => (evE call x s).bind fun r s1 => match t with
      | .nm i => match give s1 r with
        | some (v, s2) => .ok .next (s2.set i v)
        | none => .bad
      | .tp ts => match r with
        | .m (.fro d) => match bindT (.tp ts) d s1 with
          | some s2 => .ok .next s2
          | none => .bad
        | _ => .bad
  | .asgN is xs, s => (evXs call xs s).bind fun rs s1 => match giveAll s1 rs with
      | some (vs, s2) => if vs.length = is.length then .ok .next (setAll s2 is vs) else .bad
      | none => .bad
  | .asgIx i k x, s => (evE call x s).bind fun r s1 => if ownS s1 i = true then (evE call k s1).bind fun q s2 => kSet i r q s2 else .bad
  | .dPut i k x, s => (evE call x s).bind fun r s1 => if dctS s1 i = true then (evE call k s1).bind fun q s2 => kDPut i r q s2 else .bad
  | .aug i op x, s => match s.at i with
      | some (.fro (.int a)) => (evE call x s).bind fun r s1 => match r with
        | .m (.fro (.int b)) => match op with
          | .Add => .ok .next (s1.set i (.fro (.int (a + b))))
          | .Sub => .ok .next (s1.set i (.fro (.int (a - b))))
          | _ => .bad
        | _ => .bad
      | _ => .bad
  | .expr x, s => (evE call x s).bind fun _ s1 => .ok .next s1
  | .ret x, s => (evE call x s).bind fun r s1 => match back s1 r with
      | some (v, s2) => .ok (.ret v) s2
      | none => .bad
  | .retN, s => .ok (.ret (.fro .none)) s
  | .ite c a b, s => (tst (evE call c s)).bind fun k s1 => if k = true then evSs a s1 else evSs b s1
  | .for_ t it b, s => (evI call it s).bind fun pr s1 =>
      forEnd s1 pr.1 (forGo (fun d s => match bindT t d s with
        | some s3 => evSs b s3
        | none => .bad) pr.2 (lockS s1 pr.1))
  | .while_ c b, s => whileGo (fun s => tst (evE call c s)) (fun s => evSs b s) most s
  | .pass, s => .ok .next s
  | .never, _ => .bad
def evSs : Sts → S → R S Fl
  | .nil, s => .ok .next s
  | .cons a as, s => (evS a s).bind fun f s1 => match f with
      | .next => evSs as s1
      | .ret v => .ok (.ret v) s1
end
end
def bindA : List Arg → List Sl := List.map fun a => match a with
  | .m v => .m v
  | .lent p => .ref p
/-- a call of the def number f, n calls deep at most -/
def callF (prog : Nat → Option Fn) : Nat → Nat → List Arg → List M → R (List M) M
  | 0, _, _, _ => .bad
  | n + 1, f, as, u => match prog f with
    | none => .bad
    | some fn => if as.length = fn.np then
        match evSs (callF prog n) fn.body ⟨bindA as ++ List.replicate (fn.ns - fn.np) .un, u⟩ with
        | .ok .next s => .ok (.fro .none) s.u
        | .ok (.ret v) s => .ok v s.u
        | .exc c d s => .exc c d s.u
        | .bad => .bad
      else .bad
end Ax
/-! A2: when one of my texts is the given text. -/
namespace Ax
open PySem
/-- names in places; the scope that runs; the block's written scope, in a block -/
structure MC where
  N : List Str
  sc : Scope
  fs : Option Scope
def fnB (c : MC) (x : Str) : Bool := match c.fs with
  | none => true
  | some s => s.names.lookup x == some .cell
def visB (sc : Scope) (x : Str) : Bool := match sc.names.lookup x with
  | some .local => true
  | some .cell => true
  | some .free => true
  | _ => false
def nameOk (c : MC) (i : Nat) (x : Str) : Bool := decide (c.N[i]? = some x) && visB c.sc x && !(x == ("__debug__" : Str)) && !(x == ("__classdict__" : Str))
def globOk (c : MC) (x : Str) : Bool := decide (c.sc.names.lookup x = some .globalImplicit) && !(x == ("__debug__" : Str))
/-- a name that may be stored -/
def locOk (c : MC) (i : Nat) (x : Str) : Bool := decide (c.N[i]? = some x) && (match c.sc.names.lookup x with
  | some .local => true
  | some .cell => fnB c x
  | _ => false)
def noStar : Expr → Bool
  | .Starred _ _ => false
  | _ => true
def biN : Bi → Str
  | .len => "len" | .tuple => "tuple" | .list => "list" | .all => "all" | .any => "any" | .min2 => "min" | .max2 => "max" | .abs => "abs" | .int => "int" | .repr => "repr"
def biAr : Bi → Nat
  | .min2 => 2 | .max2 => 2 | _ => 1
def Xs.len : Xs → Nat
  | .nil => 0
  | .cons _ as => as.len + 1
def isName : Expr → Bool
  | .Name _ _ => true
  | _ => false
def kwsOk : List Str → List Keyword → List Expr → Bool
  | [], [], _ => true
  | k :: ks, ⟨some k', _, _⟩ :: kws, es => decide (k = k') && kwsOk ks kws es
  | _, _, _ => false
def kwVals : List Keyword → List Expr
  | [] => []
  | ⟨_, e, _⟩ :: kws => e :: kwVals kws
mutual
def okT (c : MC) : T → Expr → Bool
  | .nm i, .Name x _ => locOk c i x
  | .tp ts, .Tuple es _ _ => okTs c ts es
  | _, _ => false
def okTs (c : MC) : Ts → List Expr → Bool
  | .nil, [] => true
  | .cons t ts, e :: es => noStar e && okT c t e && okTs c ts es
  | _, _ => false
end
mutual
/-- the target's slots are among own -/
def tIn (own : List Nat) : T → Bool
  | .nm i => decide (i ∈ own)
  | .tp ts => tsIn own ts
def tsIn (own : List Nat) : Ts → Bool
  | .nil => true
  | .cons t ts => tIn own t && tsIn own ts
end
def isTs : List String := ["int", "bool", "str", "list", "tuple", "dict"]
def notSet : Expr → Bool
  | .Set .. => false
  | _ => true
def notSlice : Expr → Bool
  | .Slice .. => false
  | _ => true
def ownOf (N : List Str) (own : List Nat) : List (Str × Nat) := own.map fun i => (N.getD i Str.empty, i)
def blk (c : MC) (scope : Scope) : MC := ⟨c.N, L2.relS scope c.sc, some scope⟩
/-- a text that is tested by its value -/
def notTest : Expr → Bool
  | .UnaryOp .Not _ _ => false
  | .BoolOp .. => false
  | .IfExp .. => false
  | .Compare .. => false
  | _ => true
def tstOk : Ex → Expr → Bool
  | .and _, _ => true
  | .or _, _ => true
  | .not _, _ => true
  | .cmp .., _ => true
  | .isN .., _ => true
  | .dIn .., _ => true
  | _, e => notTest e
def tstsOk : Xs → List Expr → Bool
  | .nil, [] => true
  | .cons a as, e :: es => tstOk a e && tstsOk as es
  | _, _ => false
def notFrz : Ex → Bool
  | .frz _ => false
  | _ => true
section
variable (fnm : Nat → Str) (kwt : List (Nat × List Str × List Nat))
mutual
def okE (c : MC) : Ex → Expr → Bool
  | .non, .Constant .none _ _ => true
  | .bl b, .Constant (.bool b') _ _ => b == b'
  | .int i, .Constant (.int j) _ _ => i == j
  | .str s, .Constant (.str t) _ _ => decide (s = t)
  | .var i, .Name x _ => nameOk c i x
  | .fnv f, .Name x _ => decide (x = fnm f) && globOk c (fnm f) && decide ((f, [], []) ∈ kwt)
  | .bin op a b, .BinOp l o r _ => decide (op = o) && okE c a l && okE c b r
  | .cmp op a b, .Compare l [o] [r] _ => decide (op = o) && okE c a l && okE c b r && notSet r
  | .isN neg a, .Compare l [o] [.Constant .none _ _] _ => decide (o = if neg = true then .IsNot else .Is) && okE c a l
  | .and as, .BoolOp .And es _ => okXs c as es && tstsOk as es
  | .or as, .BoolOp .Or es _ => okXs c as es && tstsOk as es
  | .not a, .UnaryOp .Not e _ => okE c a e && tstOk a e
  | .neg a, .UnaryOp .USub e _ => okE c a e
  | .ite k a b, .IfExp e f g _ => okE c k e && tstOk k e && okE c a f && okE c b g
  | .tup as, .Tuple es _ _ => okXs c as es
  | .lst as, .List es _ => okXs c as es
  | .ix a i, .Subscript e f _ => okE c a e && okE c i f && notSlice f
  | .sl a lo hi, .Subscript e (.Slice l h none _) _ => okE c a e && okXo c lo l && okXo c hi h
  | .lc own t it ifs e, .ListComp elt [⟨tg, iter, ts, 0⟩] scope _ =>
      L2.blkC c.N c.sc scope (ownOf c.N own) && tIn own t && okI c it tg iter && okT (blk c scope) t tg && okIfs (blk c scope) ifs ts && okE (blk c scope) e elt
  | .lc2 own own1 t it ifs t1 it1 ifs1 e, .ListComp elt [⟨tg, iter, ts, 0⟩, ⟨tg1, iter1, ts1, 0⟩] scope _ =>
      L2.blkC c.N c.sc scope (ownOf c.N own) && own1.all (fun i => decide (i ∈ own)) && tIn own t && tIn own1 t1 && okI c it tg iter && okT (blk c scope) t tg && okIfs (blk c scope) ifs ts &&
        okI (blk c scope) it1 tg1 iter1 && okT (blk c scope) t1 tg1 && okIfs (blk c scope) ifs1 ts1 && okE (blk c scope) e elt
  | .call f as, .Call (.Name x _) es [] _ => decide (x = fnm f) && globOk c (fnm f) && okXs c as es
  | .callK f as ks bs perm, .Call (.Name x _) es kws _ => decide (x = fnm f) && globOk c (fnm f) && decide ((f, ks, perm) ∈ kwt) && decide (ks ≠ []) && okXs c as es && kwsOk ks kws [] && okKs c bs kws && decide (as.len + bs.len = perm.length)
  | .callV i as, .Call (.Name x _) (e :: es) [] _ => nameOk c i x && okXs c as (e :: es)
  | .bi b as, .Call (.Name x _) (e :: es) [] _ => decide (x = biN b) && globOk c (biN b) && okXs c as (e :: es)
  | .isi t a, .Call (.Name x _) [e, .Name y _] [] _ => decide (x = ("isinstance" : Str)) && decide (y = Str.ofString t) && globOk c "isinstance" && globOk c (Str.ofString t) && decide (t ∈ isTs) && noStar e && okE c a e
  | .rng tup g, .Call (.Name x _) [.Call (.Name y _) es [] _] [] _ => decide (x = if tup = true then ("tuple" : Str) else "list") && decide (y = ("range" : Str)) && globOk c (if tup = true then ("tuple" : Str) else "list") && globOk c "range" && okRg c g es
  | .lenSet a, .Call (.Name x _) [.Call (.Name y _) [e] [] _] [] _ => decide (x = ("len" : Str)) && decide (y = ("set" : Str)) && globOk c "len" && globOk c "set" && noStar e && okE c a e
  | .srt _ a, .Call (.Name x _) [e] [] _ => decide (x = ("sorted" : Str)) && globOk c "sorted" && noStar e && okE c a e
  | .app i a, .Call (.Attribute (.Name x _) n ap) [e] [] cp => decide (n = ("append" : Str)) && nameOk c i x && (ap.endLine == cp.line) && noStar e && okE c a e
  | .ext i a, .Call (.Attribute (.Name x _) n ap) [e] [] cp => decide (n = ("extend" : Str)) && nameOk c i x && (ap.endLine == cp.line) && noStar e && okE c a e
  | .pop i, .Call (.Attribute (.Name x _) n ap) [] [] cp => decide (n = ("pop" : Str)) && nameOk c i x && (ap.endLine == cp.line)
  | .popAt i a, .Call (.Attribute (.Name x _) n ap) [e] [] cp => decide (n = ("pop" : Str)) && nameOk c i x && (ap.endLine == cp.line) && noStar e && okE c a e
  | .frz a, e => notFrz a && okE c a e
  | .dnew _, .Dict [] [] _ => true
  | .dIn neg a i, .Compare l [o] [.Name x _] _ => decide (o = if neg = true then .NotIn else .In) && nameOk c i x && okE c a l
  | .dGet i a, .Subscript (.Name x _) f _ => nameOk c i x && okE c a f && notSlice f
  | .dSrt _ i, .Call (.Name y _) [.Name x _] [] _ => decide (y = ("sorted" : Str)) && globOk c "sorted" && nameOk c i x
  | _, _ => false
def okXs (c : MC) : Xs → List Expr → Bool
  | .nil, [] => true
  | .cons a as, e :: es => noStar e && okE c a e && okXs c as es
  | _, _ => false
def okKs (c : MC) : Xs → List Keyword → Bool
  | .nil, [] => true
  | .cons a as, ⟨_, e, _⟩ :: kws => okE c a e && okKs c as kws
  | _, _ => false
def okXo (c : MC) : Xo → Option Expr → Bool
  | .no, none => true
  | .so a, some e => okE c a e
  | _, _ => false
def okIfs (c : MC) : Xo → List Expr → Bool
  | .no, [] => true
  | .so a, [e] => okE c a e && tstOk a e
  | _, _ => false
/-- what range is given -/
def okRg (c : MC) : Rg → List Expr → Bool
  | .r1 hi, [e] => noStar e && okE c hi e
  | .r2 lo hi, [e, f] => noStar e && noStar f && okE c lo e && okE c hi f
  | _, _ => false
def okI (c : MC) : I → Expr → Expr → Bool
  | .seq a, _, e => okE c a e && notSet e
  | .rng g, _, .Call (.Name y _) es [] _ => decide (y = ("range" : Str)) && globOk c "range" && okRg c g es
  | .zip a b, .Tuple [_, _] _ _, .Call (.Name y _) [e, f] [] _ => decide (y = ("zip" : Str)) && globOk c "zip" && noStar e && noStar f && okE c a e && okE c b f
  | .enm a, .Tuple [_, _] _ _, .Call (.Name y _) [e] [] _ => decide (y = ("enumerate" : Str)) && globOk c "enumerate" && noStar e && okE c a e
  | _, _, _ => false
end
end
end Ax
/-! A3: how my data lie in the heap. F is the frozen part of the abstract heap H. -/
namespace Ax
open PySem L2

def Le (F G : Hp) : Prop := ∀ a o, F a = some o → G a = some o
theorem Le.refl (F : Hp) : Le F F := fun _ _ e => e
theorem Le.trans {F G H : Hp} (a : Le F G) (b : Le G H) : Le F H := fun x o e => b x o (a x o e)
theorem Le.rd {F G : Hp} (l : Le F G) {a : Addr} {u : HO} (r : Rd F a u) : Rd G a u := by
  rcases r with r | ⟨o, r⟩
  · exact .inl (l _ _ r)
  · exact .inr ⟨o, l _ _ r⟩
theorem Le.sqT {K : PySem.W.Frag} {F G : Hp} (l : Le F G) {a : Addr} {xs : List V} (r : SqT K F a xs) : SqT K G a xs := by
  rcases r with r | r
  · exact .inl (l.rd r)
  · exact .inr r
theorem Le.sqL {K : PySem.W.Frag} {F G : Hp} (l : Le F G) {a : Addr} {xs : List V} (r : SqL K F a xs) : SqL K G a xs := by
  rcases r with r | r
  · exact .inl (l.rd r)
  · exact .inr r
theorem Le.tupT {K : PySem.W.Frag} {F G : Hp} (l : Le F G) {a : Addr} {xs : List V} (h : F a = some (.tup xs)) : SqT K G a xs := SqT.of (l _ _ h)
theorem le_upd {F : Hp} {a : Addr} {o : HO} (h : F a = none) : Le F (upd F a o) := fun b u e => by
  rw [upd_ne (ne_of_none e h)]; exact e

mutual
inductive RepD (K : PySem.W.Frag) (F : Hp) : V → D → Prop
  | non : RepD K F .non .none
  | bl (b : Bool) : RepD K F (.bl b) (.bool b)
  | int (i : Int) : RepD K F (.int i) (.int i)
  | str (x : Str) : RepD K F (.str x) (.str x)
  | lst {a : Addr} {xs : List V} {ds : List D} : F a = some (.lst xs) → RepAll K F xs ds → RepD K F (.ref a) (.list ds)
  | tup {a : Addr} {xs : List V} {ds : List D} : F a = some (.tup xs) → RepAll K F xs ds → RepD K F (.ref a) (.tuple ds)
inductive RepAll (K : PySem.W.Frag) (F : Hp) : List V → List D → Prop
  | nil : RepAll K F [] []
  | cons {v : V} {vs : List V} {d : D} {ds : List D} : RepD K F v d → RepAll K F vs ds → RepAll K F (v :: vs) (d :: ds)
end
section
variable {K : PySem.W.Frag} {F G H : Hp}
mutual
theorem RepD.mono (l : Le F G) : ∀ {d : D} {v : V}, RepD K F v d → RepD K G v d
  | _, _, .non => .non
  | _, _, .bl b => .bl b
  | _, _, .int i => .int i
  | _, _, .str x => .str x
  | _, _, .lst h r => .lst (l _ _ h) (RepAll.mono l r)
  | _, _, .tup h r => .tup (l _ _ h) (RepAll.mono l r)
theorem RepAll.mono (l : Le F G) : ∀ {ds : List D} {vs : List V}, RepAll K F vs ds → RepAll K G vs ds
  | _, _, .nil => .nil
  | _, _, .cons h r => .cons (RepD.mono l h) (RepAll.mono l r)
end
mutual
theorem RepD.dp (l : Le F H) : ∀ {d : D} {v : V}, RepD K F v d → Dp K H v d
  | _, _, .non => .non
  | _, _, .bl b => .bl b
  | _, _, .int i => .int i
  | _, _, .str x => .str x
  | _, _, .lst h r => .lst (SqL.of (l _ _ h)) (RepAll.dp l r)
  | _, _, .tup h r => .tup (SqT.of (l _ _ h)) (RepAll.dp l r)
theorem RepAll.dp (l : Le F H) : ∀ {ds : List D} {vs : List V}, RepAll K F vs ds → DpAll K H vs ds
  | _, _, .nil => .nil
  | _, _, .cons h r => .cons (RepD.dp l h) (RepAll.dp l r)
end
mutual
theorem RepD.plain : ∀ {d : D} {v : V}, RepD K F v d → d.plain = true
  | _, _, .non => by simp [PyData.plain]
  | _, _, .bl b => by simp [PyData.plain]
  | _, _, .int i => by simp [PyData.plain]
  | _, _, .str x => by simp [PyData.plain]
  | _, _, .lst h r => by rw [PyData.plain]; exact RepAll.plain r
  | _, _, .tup h r => by rw [PyData.plain]; exact RepAll.plain r
theorem RepAll.plain : ∀ {ds : List D} {vs : List V}, RepAll K F vs ds → PyData.plainAll ds = true
  | _, _, .nil => by simp [PyData.plainAll]
  | _, _, .cons h r => by rw [PyData.plainAll, RepD.plain h, RepAll.plain r]; rfl
end
theorem RepAll.length : ∀ {vs : List V} {ds : List D}, RepAll K F vs ds → vs.length = ds.length
  | _, _, .nil => rfl
  | _, _, .cons _ r => congrArg (· + 1) r.length
theorem RepAll.get : ∀ {vs : List V} {ds : List D}, RepAll K F vs ds → ∀ {i : Nat} {d : D}, ds[i]? = some d → ∃ v, vs[i]? = some v ∧ RepD K F v d
  | _, _, .nil, _, _, e => by simp at e
  | _, _, .cons h _, 0, _, e => by simp at e; subst e; exact ⟨_, rfl, h⟩
  | _, _, .cons _ r, i + 1, _, e => by
    obtain ⟨v, h1, h2⟩ := r.get (by simpa using e)
    exact ⟨v, by simpa using h1, h2⟩
theorem RepAll.get' : ∀ {vs : List V} {ds : List D}, RepAll K F vs ds → ∀ {i : Nat} {v : V}, vs[i]? = some v → ∃ d, ds[i]? = some d ∧ RepD K F v d
  | _, _, .nil, _, _, e => by simp at e
  | _, _, .cons h _, 0, _, e => by simp at e; subst e; exact ⟨_, rfl, h⟩
  | _, _, .cons _ r, i + 1, _, e => by
    obtain ⟨v, h1, h2⟩ := r.get' (by simpa using e)
    exact ⟨v, by simpa using h1, h2⟩
theorem RepAll.of_get : ∀ {vs : List V} {ds : List D}, vs.length = ds.length → (∀ (i : Nat) (v : V) (d : D), vs[i]? = some v → ds[i]? = some d → RepD K F v d) → RepAll K F vs ds
  | [], [], _, _ => .nil
  | v :: vs, d :: ds, hl, h => .cons (h 0 v d rfl rfl) (RepAll.of_get (by simpa using hl) fun i v d e1 e2 => h (i + 1) v d (by simpa using e1) (by simpa using e2))
theorem RepAll.append : ∀ {vs ws : List V} {ds es : List D}, RepAll K F vs ds → RepAll K F ws es → RepAll K F (vs ++ ws) (ds ++ es)
  | _, _, _, _, .nil, q => q
  | _, _, _, _, .cons h r, q => .cons h (r.append q)
theorem RepAll.one {v : V} {d : D} (h : RepD K F v d) : RepAll K F [v] [d] := .cons h .nil
theorem RepAll.take : ∀ {vs : List V} {ds : List D} (n : Nat), RepAll K F vs ds → RepAll K F (vs.take n) (ds.take n)
  | _, _, 0, _ => .nil
  | _, _, _ + 1, .nil => .nil
  | _, _, n + 1, .cons h r => .cons h (r.take n)
theorem RepAll.drop : ∀ {vs : List V} {ds : List D} (n : Nat), RepAll K F vs ds → RepAll K F (vs.drop n) (ds.drop n)
  | _, _, 0, r => r
  | _, _, _ + 1, .nil => .nil
  | _, _, n + 1, .cons _ r => r.drop n
theorem RepAll.set : ∀ {vs : List V} {ds : List D} {v : V} {d : D} (i : Nat), RepAll K F vs ds → RepD K F v d → RepAll K F (vs.set i v) (ds.set i d)
  | _, _, _, _, _, .nil, _ => .nil
  | _, _, _, _, 0, .cons _ r, q => .cons q r
  | _, _, _, _, i + 1, .cons h r, q => .cons h (r.set i q)
theorem RepAll.erase : ∀ {vs : List V} {ds : List D} (i : Nat), RepAll K F vs ds → RepAll K F (vs.eraseIdx i) (ds.eraseIdx i)
  | _, _, _, .nil => .nil
  | _, _, 0, .cons _ r => r
  | _, _, i + 1, .cons h r => .cons h (r.erase i)
theorem RepAll.reverse {vs : List V} {ds : List D} (r : RepAll K F vs ds) : RepAll K F vs.reverse ds.reverse := by
  induction vs generalizing ds with
  | nil => cases r; exact .nil
  | cons v vs ih =>
    cases r with
    | cons h r => rw [List.reverse_cons, List.reverse_cons]; exact (ih r).append (.one h)
theorem RepAll.rep {vs : List V} {ds : List D} (r : RepAll K F vs ds) : ∀ n : Nat, RepAll K F (List.replicate n vs).flatten (List.replicate n ds).flatten
  | 0 => .nil
  | n + 1 => by
    rw [List.replicate_succ, List.replicate_succ, List.flatten_cons, List.flatten_cons]
    exact r.append (r.rep n)
theorem RepAll.ints : ∀ ns : List Int, RepAll K F (ns.map V.int) (ns.map PyData.int)
  | [] => .nil
  | n :: ns => .cons (.int n) (RepAll.ints ns)
theorem RepAll.ints_of : ∀ {vs : List V} {ns : List Int}, RepAll K F vs (ns.map PyData.int) → vs = ns.map V.int
  | _, [], h => by cases h; rfl
  | _, n :: ns, h => by
    cases h with
    | cons h r =>
      cases h
      rw [RepAll.ints_of r]; rfl
theorem RepAll.bools_of : ∀ {vs : List V} {bs : List Bool}, RepAll K F vs (bs.map PyData.bool) → vs = bs.map V.bl
  | _, [], h => by cases h; rfl
  | _, n :: ns, h => by
    cases h with
    | cons h r =>
      cases h
      rw [RepAll.bools_of r]; rfl
theorem boolsD_eq : ∀ {ds : List D} {bs : List Bool}, boolsD ds = some bs → ds = bs.map PyData.bool
  | [], bs, h => by simp [boolsD] at h; subst h; rfl
  | d :: ds, bs, h => by
    cases d with
    | bool b =>
      simp only [boolsD, Option.map_eq_some_iff] at h
      obtain ⟨bs', h1, rfl⟩ := h
      rw [boolsD_eq h1]; rfl
    | _ => simp [boolsD] at h
theorem intsD_eq : ∀ {ds : List D} {ns : List Int}, intsD ds = some ns → ds = ns.map PyData.int
  | [], bs, h => by simp [intsD] at h; subst h; rfl
  | d :: ds, bs, h => by
    cases d with
    | int b =>
      simp only [intsD, Option.map_eq_some_iff] at h
      obtain ⟨bs', h1, rfl⟩ := h
      rw [intsD_eq h1]; rfl
    | _ => simp [intsD] at h
end

/-- a dict's entries: keys as they are, values frozen -/
inductive DAll (K : PySem.W.Frag) (F : Hp) : List (List L2.Key × V) → List (List L2.Key × D) → Prop
  | nil : DAll K F [] []
  | cons {k : List L2.Key} {v : V} {d : D} {vs : List (List L2.Key × V)} {ds : List (List L2.Key × D)} : RepD K F v d → DAll K F vs ds → DAll K F ((k, v) :: vs) ((k, d) :: ds)
/-- the dict's object -/
inductive DObj : Bool → List (List L2.Key × V) → HO → Prop
  | k (kvs : List (L2.Key × V)) : DObj false (kvs.map fun p => ([p.1], p.2)) (.dK kvs)
  | t (kvs : List (List L2.Key × V)) : DObj true kvs (.dT kvs)
theorem DAll.mono {K : PySem.W.Frag} {F G : Hp} (l : Le F G) {vs : List (List L2.Key × V)} {ds : List (List L2.Key × D)} (h : DAll K F vs ds) : DAll K G vs ds := by
  induction h with
  | nil => exact .nil
  | cons h _ ih => exact .cons (h.mono l) ih
/-- what a value holds, where the defs stand at ad -/
def RelM (K : PySem.W.Frag) (ad : Nat → Addr) (F H : Hp) (x : V) : M → Prop
  | .fro d => RepD K F x d
  | .lst ds => ∃ a vs, x = .ref a ∧ H a = some (.lst vs) ∧ F a = none ∧ RepAll K F vs ds
  | .lock ds => ∃ a vs, x = .ref a ∧ H a = some (.lst vs) ∧ F a = none ∧ RepAll K F vs ds
  | .scr ns => ∃ a, x = .ref a ∧ SqL K F a (ns.map V.int)
  | .fn n => x = .ref (ad n)
  | .dct b kvs => ∃ a u vs, x = .ref a ∧ H a = some u ∧ F a = none ∧ DObj b vs u ∧ DAll K F vs kvs
/-- a world: the frozen part, my state, the slots' values, the abstract heap -/
structure Wd where
  F : Hp
  s : S
  σ : L2.St
  H : Hp
/-- the owner o (a slot, or the caller's j-th thing) has v at a -/
def OwnAt (κ : List Addr) (w : Wd) : Own → Addr → M → Prop
  | .inl i, a, v => w.s.r[i]? = some (.m v) ∧ v.own = true ∧ w.σ[i]? = some (some (.ref a))
  | .inr j, a, v => w.s.u[j]? = some v ∧ v.own = true ∧ κ[j]? = some a
def Mu (κ : List Addr) (w : Wd) (a : Addr) : Prop := ∃ o v, OwnAt κ w o a v ∧ v.mut = true
structure Rel (K : PySem.W.Frag) (ad : Nat → Addr) (κ : List Addr) (w : Wd) : Prop where
  fh : Le w.F w.H
  len : w.s.r.length = w.σ.length
  ul : κ.length = w.s.u.length
  sl : ∀ (i : Nat) (v : M), w.s.r[i]? = some (.m v) → ∃ x, w.σ[i]? = some (some x) ∧ RelM K ad w.F w.H x v
  rf : ∀ (i j : Nat), w.s.r[i]? = some (.ref j) → ∃ a, w.σ[i]? = some (some (.ref a)) ∧ κ[j]? = some a
  uo : ∀ (j : Nat) (v : M) (a : Addr), w.s.u[j]? = some v → κ[j]? = some a → RelM K ad w.F w.H (.ref a) v
  ap : ∀ o o' a v v', OwnAt κ w o a v → OwnAt κ w o' a v' → o = o'
/-- what may be frozen whenever: what is new, a tuple -/
def Loose (w : Wd) (a : Addr) : Prop := w.H a = none ∨ ∃ xs, w.H a = some (.tup xs)
def NotTup (u : HO) : Prop := ∀ xs, u ≠ .tup xs
/-- from the one world to the other: what may have changed; T: addresses that were nobody's -/
structure Stp (κ : List Addr) (T : Addr → Prop) (w w' : Wd) : Prop where
  ff : Le w.F w'.F
  dm : ∀ a, w'.H a = none → w.H a = none
  hk : ∀ a o, w.H a = some o → ¬ Mu κ w a → w'.H a = some o
  fn : ∀ a o, w'.F a = some o → w.F a = some o ∨ (∃ o v, OwnAt κ w o a v) ∨ T a ∨ Loose w a
  ow : ∀ o a v', OwnAt κ w' o a v' → (∃ v, OwnAt κ w o a v ∧ (v'.mut = true → v.mut = true)) ∨ T a ∨ w.H a = none
abbrev noT : Addr → Prop := fun _ => False
section
variable {κ : List Addr} {T T1 : Addr → Prop} {w w1 w2 : Wd}
theorem Stp.refl : Stp κ T w w := ⟨Le.refl _, fun _ e => e, fun _ _ e _ => e, fun _ _ e => .inl e, fun _ _ v e => .inl ⟨v, e, id⟩⟩
theorem Stp.mu (a : Stp κ T w w1) {x : Addr} (h : Mu κ w1 x) : Mu κ w x ∨ T x ∨ w.H x = none := by
  obtain ⟨o, v, h1, h2⟩ := h
  rcases a.ow o x v h1 with ⟨v', q1, q2⟩ | z
  · exact .inl ⟨o, v', q1, q2 h2⟩
  · exact .inr z
theorem Stp.trans (a : Stp κ T w w1) (b : Stp κ T1 w1 w2) (nt : ∀ x, T x → ¬ Mu κ w1 x) (h : ∀ x, T1 x → T x ∨ w.H x = none) : Stp κ T w w2 where
  ff := a.ff.trans b.ff
  dm := fun x e => a.dm x (b.dm x e)
  hk := fun x o e nm => b.hk x o (a.hk x o e nm) fun m => by
    rcases a.mu m with z | z | z
    · exact nm z
    · exact nt x z m
    · rw [e] at z; cases z
  fn := fun x o e => by
    rcases b.fn x o e with z | ⟨o', v', z⟩ | z | z
    · exact a.fn x o z
    · rcases a.ow _ _ _ z with ⟨v, q, _⟩ | q | q
      · exact .inr (.inl ⟨_, _, q⟩)
      · exact .inr (.inr (.inl q))
      · exact .inr (.inr (.inr (.inl q)))
    · rcases h x z with q | q
      · exact .inr (.inr (.inl q))
      · exact .inr (.inr (.inr (.inl q)))
    · rcases z with z | ⟨xs, z⟩
      · exact .inr (.inr (.inr (.inl (a.dm x z))))
      · cases q : w.H x with
        | none => exact .inr (.inr (.inr (.inl q)))
        | some u =>
          by_cases m : Mu κ w x
          · obtain ⟨o', v', q', _⟩ := m
            exact .inr (.inl ⟨o', v', q'⟩)
          · have := a.hk x u q m
            rw [z] at this; cases this
            exact .inr (.inr (.inr (.inr ⟨xs, q⟩)))
  ow := fun o x v e => by
    rcases b.ow o x v e with ⟨v', z, z'⟩ | z | z
    · rcases a.ow _ _ _ z with ⟨v, q, q'⟩ | q
      · exact .inl ⟨v, q, fun k => q' (z' k)⟩
      · exact .inr q
    · exact .inr (h x z)
    · exact .inr (.inr (a.dm x z))
theorem Stp.tr (a : Stp κ noT w w1) (b : Stp κ noT w1 w2) : Stp κ noT w w2 := a.trans b (fun _ z => z.elim) fun _ z => z.elim
/-- .. and then a step that takes what was not there at the first -/
theorem Stp.take (a : Stp κ noT w w1) (b : Stp κ T w1 w2) (h : ∀ x, T x → w.H x = none) : Stp κ noT w w2 := a.trans b (fun _ z => z.elim) fun x z => .inr (h x z)
theorem Stp.weak (a : Stp κ T w w1) (h : ∀ x, T x → T1 x) : Stp κ T1 w w1 :=
  ⟨a.ff, a.dm, a.hk, fun x o e => (a.fn x o e).imp id fun z => z.imp id fun z => z.imp (h x) id, fun o x v e => (a.ow o x v e).imp id fun z => z.imp (h x) id⟩
end
/-- a result's own address -/
def tmp : V → Rv → Addr → Prop
  | x, .m v, a => v.own = true ∧ x = .ref a
  | _, .bor _, _ => False
/-- a result in a world: a list of its own is nobody else's -/
def RvOk (K : PySem.W.Frag) (ad : Nat → Addr) (κ : List Addr) (w : Wd) (x : V) : Rv → Prop
  | .m v => RelM K ad w.F w.H x v ∧ ∀ a, tmp x (.m v) a → ∀ o v', ¬ OwnAt κ w o a v'
  | .bor i => w.σ[i]? = some (some x)
/-- .. and was not there in H -/
def Fresh (H : Hp) (x : V) (r : Rv) : Prop := ∀ a, tmp x r a → H a = none
section
variable {K : PySem.W.Frag} {ad : Nat → Addr} {κ : List Addr} {w w' : Wd} {x : V} {r : Rv} {T : Addr → Prop}
theorem RelM.own_at {F H : Hp} {v : M} (h : RelM K ad F H x v) (o : v.own = true) : ∃ a u, x = .ref a ∧ H a = some u ∧ F a = none := by
  cases v with
  | lst ds => obtain ⟨a, vs, h1, h2, h3, h4⟩ := h; exact ⟨a, _, h1, h2, h3⟩
  | lock ds => obtain ⟨a, vs, h1, h2, h3, h4⟩ := h; exact ⟨a, _, h1, h2, h3⟩
  | dct b kvs => obtain ⟨a, u, vs, h1, h2, h3, h4⟩ := h; exact ⟨a, u, h1, h2, h3⟩
  | _ => cases o
theorem RelM.own_list {F H : Hp} {v : M} {d : D} (h : RelM K ad F H x v) (o : v.own = true) (c : v.cont = some d) : ∃ a vs ds, x = .ref a ∧ H a = some (.lst vs) ∧ F a = none ∧ RepAll K F vs ds ∧ v.cont = some (.list ds) := by
  cases v with
  | lst ds => obtain ⟨a, vs, h1, h2, h3, h4⟩ := h; exact ⟨a, vs, ds, h1, h2, h3, h4, rfl⟩
  | lock ds => obtain ⟨a, vs, h1, h2, h3, h4⟩ := h; exact ⟨a, vs, ds, h1, h2, h3, h4, rfl⟩
  | dct b kvs => cases c
  | _ => cases o
/-- where the object and the frozen part stay -/
theorem RelM.stay {F F' H H' : Hp} {v : M} (h : RelM K ad F H x v) (l : Le F F') (k : v.own = true → ∀ a u, x = .ref a → H a = some u → F a = none → H' a = some u ∧ F' a = none) : RelM K ad F' H' x v := by
  cases v with
  | fro d => exact RepD.mono l h
  | lst ds =>
    obtain ⟨a, vs, h1, h2, h3, h4⟩ := h
    obtain ⟨q1, q2⟩ := k rfl a _ h1 h2 h3
    exact ⟨a, vs, h1, q1, q2, h4.mono l⟩
  | lock ds =>
    obtain ⟨a, vs, h1, h2, h3, h4⟩ := h
    obtain ⟨q1, q2⟩ := k rfl a _ h1 h2 h3
    exact ⟨a, vs, h1, q1, q2, h4.mono l⟩
  | dct b kvs =>
    obtain ⟨a, u, vs, h1, h2, h3, h4, h5⟩ := h
    obtain ⟨q1, q2⟩ := k rfl a _ h1 h2 h3
    exact ⟨a, u, vs, h1, q1, q2, h4, h5.mono l⟩
  | scr ns =>
    obtain ⟨a, h1, h2⟩ := h
    exact ⟨a, h1, l.sqL h2⟩
  | fn n => exact h
/-- a thing that nobody owns, and that is not taken, stays out of the frozen part -/
theorem RelM.own_nt {F H : Hp} {v : M} {a : Addr} {u : HO} (h : RelM K ad F H x v) (o : v.own = true) (e : x = .ref a) (ha : H a = some u) : NotTup u := by
  intro xs hu
  subst hu
  cases v with
  | lst ds => obtain ⟨b, vs, h1, h2, h3, h4⟩ := h; rw [e] at h1; cases h1; rw [ha] at h2; cases h2
  | lock ds => obtain ⟨b, vs, h1, h2, h3, h4⟩ := h; rw [e] at h1; cases h1; rw [ha] at h2; cases h2
  | dct b kvs => obtain ⟨b, u, vs, h1, h2, h3, h4, h5⟩ := h; rw [e] at h1; cases h1; rw [ha] at h2; cases h2; cases h4
  | _ => cases o
theorem Stp.noF (st : Stp κ T w w') {a : Addr} {u : HO} (ha : w.H a = some u) (hf : w.F a = none) (no : ∀ o v, ¬ OwnAt κ w o a v) (nt : ¬ T a) (nu : NotTup u) : w'.F a = none := by
  cases q : w'.F a with
  | none => rfl
  | some z =>
    rcases st.fn a z q with e | ⟨o, v, e⟩ | e | e | ⟨xs, e⟩
    · rw [hf] at e; cases e
    · exact (no o v e).elim
    · exact (nt e).elim
    · rw [ha] at e; cases e
    · rw [ha] at e; cases e; exact (nu xs rfl).elim
theorem Stp.noMu {a : Addr} (no : ∀ o v, ¬ OwnAt κ w o a v) : ¬ Mu κ w a := fun ⟨o, v, h, _⟩ => no o v h
theorem RvOk.stepM {v : M} (h : RvOk K ad κ w x (.m v)) (st : Stp κ T w w') (nt : ∀ a, tmp x (.m v) a → ¬ T a) : RvOk K ad κ w' x (.m v) := by
  obtain ⟨h1, h2⟩ := h
  refine ⟨h1.stay st.ff fun o a vs e ha hf => ?_, fun a ht o v' q => ?_⟩
  · have no := h2 a ⟨o, e⟩
    exact ⟨st.hk a _ ha (Stp.noMu no), st.noF ha hf no (nt a ⟨o, e⟩) (h1.own_nt o e ha)⟩
  · have no := h2 a ht
    obtain ⟨b, vs, e1, e2, _⟩ := h1.own_at ht.1
    rw [ht.2] at e1; cases e1
    rcases st.ow o a v' q with ⟨v0, z, _⟩ | z | z
    · exact no o v0 z
    · exact nt a ht z
    · rw [e2] at z; cases z
theorem RvOk.step (h : RvOk K ad κ w x r) (st : Stp κ T w w') (hσ : w'.σ = w.σ) (nt : ∀ a, tmp x r a → ¬ T a) : RvOk K ad κ w' x r := by
  cases r with
  | bor i => show w'.σ[i]? = _; rw [hσ]; exact h
  | m v => exact h.stepM st nt
theorem RvOk.step0 (h : RvOk K ad κ w x r) (st : Stp κ noT w w') (hσ : w'.σ = w.σ) : RvOk K ad κ w' x r := h.step st hσ fun _ _ z => z
theorem Fresh.back (h : Fresh w'.H x r) (st : Stp κ T w w') : Fresh w.H x r := fun a t => st.dm a (h a t)
theorem RvOk.there (h : RvOk K ad κ w x r) {a : Addr} (t : tmp x r a) : ∃ o, w.H a = some o := by
  cases r with
  | bor i => exact t.elim
  | m v =>
    obtain ⟨b, vs, e1, e2, _⟩ := h.1.own_at t.1
    rw [t.2] at e1; cases e1
    exact ⟨_, e2⟩

/-- what slot i shows, is there -/
theorem Rel.at (R : Rel K ad κ w) {i : Nat} {v : M} (h : w.s.at i = some v) : ∃ x, w.σ[i]? = some (some x) ∧ RelM K ad w.F w.H x v := by
  unfold S.at at h
  split at h
  · rename_i z hz
    cases h
    exact R.sl i v hz
  · rename_i j hj
    obtain ⟨a, h1, h2⟩ := R.rf i j hj
    exact ⟨_, h1, R.uo j v a h h2⟩
  · cases h
/-- whose it is -/
theorem Rel.owner (R : Rel K ad κ w) {i : Nat} {v : M} (h : w.s.at i = some v) (hv : v.own = true) : ∃ o a, OwnAt κ w o a v ∧ w.σ[i]? = some (some (.ref a)) ∧ (∀ v', w.s.put i v' = w.s.upO o v') := by
  obtain ⟨x, hx, hm⟩ := R.at h
  obtain ⟨a, vs, e1, e2, _⟩ := hm.own_at hv
  subst e1
  unfold S.at at h
  split at h
  · rename_i z hz
    cases h
    exact ⟨.inl i, a, ⟨hz, hv, hx⟩, hx, fun v' => by unfold S.put; rw [hz]; rfl⟩
  · rename_i j hj
    obtain ⟨b, h1, h2⟩ := R.rf i j hj
    rw [hx] at h1
    cases h1
    exact ⟨.inr j, a, ⟨h, hv, h2⟩, hx, fun v' => by unfold S.put; rw [hj]; rfl⟩
  · cases h
theorem OwnAt.rel (R : Rel K ad κ w) {o : Own} {a : Addr} {v : M} (h : OwnAt κ w o a v) : RelM K ad w.F w.H (.ref a) v := by
  cases o with
  | inl i =>
    obtain ⟨x, hx, hm⟩ := R.sl i v h.1
    rw [h.2.2] at hx; cases hx
    exact hm
  | inr j => exact R.uo j v a h.1 h.2.2
theorem OwnAt.inj {o : Own} {a a' : Addr} {v v' : M} (h : OwnAt κ w o a v) (h' : OwnAt κ w o a' v') : a = a' ∧ v = v' := by
  cases o with
  | inl i =>
    obtain ⟨p1, p2, p3⟩ := h
    obtain ⟨q1, q2, q3⟩ := h'
    rw [p1] at q1; rw [p3] at q3
    cases q1; cases q3; exact ⟨rfl, rfl⟩
  | inr j =>
    obtain ⟨p1, p2, p3⟩ := h
    obtain ⟨q1, q2, q3⟩ := h'
    rw [p1] at q1; rw [p3] at q3
    cases q1; cases q3; exact ⟨rfl, rfl⟩
/-- the owners afterwards -/
theorem own_upO {F' H' : Hp} {o : Own} {a : Addr} {v v' : M} (h : OwnAt κ w o a v) {o2 : Own} {b : Addr} {z : M} (q : OwnAt κ ⟨F', w.s.upO o v', w.σ, H'⟩ o2 b z) :
    (o2 = o ∧ b = a ∧ z = v') ∨ (o2 ≠ o ∧ OwnAt κ w o2 b z) := by
  cases o with
  | inl i =>
    cases o2 with
    | inl i2 =>
      obtain ⟨q1, q2, q3⟩ := q
      have q1 : (w.s.r.set i (.m v'))[i2]? = some (.m z) := q1
      by_cases e : i = i2
      · subst e
        have hl : i < w.s.r.length := (List.getElem?_eq_some_iff.mp h.1).1
        rw [List.getElem?_set_self hl] at q1
        cases q1
        have q3 : w.σ[i]? = _ := q3
        rw [h.2.2] at q3; cases q3
        exact .inl ⟨rfl, rfl, rfl⟩
      · rw [List.getElem?_set_ne e] at q1
        exact .inr ⟨fun k => e (by cases k; rfl), q1, q2, q3⟩
    | inr j => exact .inr ⟨(fun k => nomatch k), q⟩
  | inr j =>
    cases o2 with
    | inr j2 =>
      obtain ⟨q1, q2, q3⟩ := q
      have q1 : (w.s.u.set j v')[j2]? = some z := q1
      by_cases e : j = j2
      · subst e
        have hl : j < w.s.u.length := (List.getElem?_eq_some_iff.mp h.1).1
        rw [List.getElem?_set_self hl] at q1
        cases q1
        rw [h.2.2] at q3; cases q3
        exact .inl ⟨rfl, rfl, rfl⟩
      · rw [List.getElem?_set_ne e] at q1
        exact .inr ⟨fun k => e (by cases k; rfl), q1, q2, q3⟩
    | inl i => exact .inr ⟨(fun k => nomatch k), q⟩
/-- an owner's thing is changed -/
theorem Rel.upO (R : Rel K ad κ w) {o : Own} {a : Addr} {v v' : M} {F' H' : Hp} (h : OwnAt κ w o a v) (l : Le w.F F') (l' : Le F' H') (hv : RelM K ad F' H' (.ref a) v')
    (hH : ∀ b u, b ≠ a → w.H b = some u → H' b = some u) (hF : ∀ b u, b ≠ a → w.H b = some u → w.F b = none → F' b = none) : Rel K ad κ ⟨F', w.s.upO o v', w.σ, H'⟩ := by
  have other : ∀ {x : V} {z : M} {o2 : Own}, o2 ≠ o → (z.own = true → ∀ b, x = .ref b → OwnAt κ w o2 b z) → RelM K ad w.F w.H x z → RelM K ad F' H' x z := fun {x z o2} ne ho hm =>
    hm.stay l fun zo b vs e hb fb => by
      have q := ho zo b e
      have nb : b ≠ a := fun e => by subst e; exact ne (R.ap _ _ _ _ _ q h)
      exact ⟨hH b _ nb hb, hF b _ nb hb fb⟩
  refine ⟨l', ?_, ?_, fun i z hz => ?_, fun i j hj => ?_, fun j z b hz hb => ?_, fun o1 o2 b z z' q q' => ?_⟩
  · cases o with
    | inl i => show (w.s.r.set i _).length = _; rw [List.length_set]; exact R.len
    | inr j => exact R.len
  · cases o with
    | inl i => exact R.ul
    | inr j => show _ = (w.s.u.set j _).length; rw [List.length_set]; exact R.ul
  · cases o with
    | inl i2 =>
      have hz : (w.s.r.set i2 (.m v'))[i]? = some (.m z) := hz
      by_cases e : i2 = i
      · subst e
        have hl : i2 < w.s.r.length := (List.getElem?_eq_some_iff.mp h.1).1
        rw [List.getElem?_set_self hl] at hz
        cases hz
        exact ⟨_, h.2.2, hv⟩
      · rw [List.getElem?_set_ne e] at hz
        obtain ⟨x, hx, hm⟩ := R.sl i z hz
        exact ⟨x, hx, other (o2 := .inl i) (fun k => e (by cases k; rfl)) (fun zo b e' => by subst e'; exact ⟨hz, zo, hx⟩) hm⟩
    | inr j =>
      obtain ⟨x, hx, hm⟩ := R.sl i z hz
      exact ⟨x, hx, other (o2 := .inl i) (fun k => nomatch k) (fun zo b e' => by subst e'; exact ⟨hz, zo, hx⟩) hm⟩
  · cases o with
    | inl i2 =>
      have hj : (w.s.r.set i2 (.m v'))[i]? = some (.ref j) := hj
      by_cases e : i2 = i
      · subst e
        have hl : i2 < w.s.r.length := (List.getElem?_eq_some_iff.mp h.1).1
        rw [List.getElem?_set_self hl] at hj
        cases hj
      · rw [List.getElem?_set_ne e] at hj
        exact R.rf i j hj
    | inr j => exact R.rf i _ hj
  · cases o with
    | inl i2 => exact other (o2 := .inr j) (fun k => nomatch k) (fun zo b' e' => by cases e'; exact ⟨hz, zo, hb⟩) (R.uo j z b hz hb)
    | inr j2 =>
      have hz : (w.s.u.set j2 v')[j]? = some z := hz
      by_cases e : j2 = j
      · subst e
        have hl : j2 < w.s.u.length := (List.getElem?_eq_some_iff.mp h.1).1
        rw [List.getElem?_set_self hl] at hz
        cases hz
        rw [h.2.2] at hb; cases hb
        exact hv
      · rw [List.getElem?_set_ne e] at hz
        exact other (o2 := .inr j) (fun k => e (by cases k; rfl)) (fun zo b' e' => by cases e'; exact ⟨hz, zo, hb⟩) (R.uo j z b hz hb)
  · rcases own_upO h q with ⟨e1, e2, e3⟩ | ⟨n1, q1⟩
    · rcases own_upO h q' with ⟨f1, _, _⟩ | ⟨m1, q2⟩
      · rw [e1, f1]
      · subst e2
        exact absurd (R.ap _ _ _ _ _ q2 h) m1
    · rcases own_upO h q' with ⟨f1, f2, _⟩ | ⟨m1, q2⟩
      · subst f2
        exact absurd (R.ap _ _ _ _ _ q1 h) n1
      · exact R.ap _ _ _ _ _ q1 q2
theorem Stp.upO {o : Own} {a : Addr} {v v' : M} {F' H' : Hp} (h : OwnAt κ w o a v) (l : Le w.F F') (hm : v'.mut = true → v.mut = true)
    (hH : ∀ b u, b ≠ a → w.H b = some u → H' b = some u) (hA : (v.mut = false ∧ H' a = w.H a) ∨ (v.mut = true ∧ H' a ≠ none)) (hF : ∀ b u, b ≠ a → F' b = some u → w.F b = some u) : Stp κ noT w ⟨F', w.s.upO o v', w.σ, H'⟩ where
  ff := l
  dm := fun b e => by
    cases q : w.H b with
    | none => rfl
    | some u =>
      by_cases k : b = a
      · subst k
        rcases hA with ⟨_, z⟩ | ⟨_, z⟩
        · rw [← q, ← z]; exact e
        · exact absurd e z
      · have e : H' b = none := e
        rw [hH b u k q] at e; cases e
  hk := fun b u e nm => by
    by_cases k : b = a
    · subst k
      rcases hA with ⟨_, z⟩ | ⟨z, _⟩
      · show H' b = _; rw [z]; exact e
      · exact absurd ⟨o, v, h, z⟩ nm
    · exact hH b u k e
  fn := fun b u e => by
    by_cases k : b = a
    · subst k; exact .inr (.inl ⟨_, _, h⟩)
    · exact .inl (hF b u k e)
  ow := fun o2 b z q => by
    rcases own_upO h q with ⟨rfl, rfl, rfl⟩ | ⟨n1, q1⟩
    · exact .inl ⟨v, h, hm⟩
    · exact .inl ⟨z, q1, id⟩
/-- something new in the heap; frozen, or not -/
theorem Rel.new (R : Rel K ad κ w) {p : Addr} {u : HO} (hp : w.H p = none) : Rel K ad κ { w with H := upd w.H p u } := by
  have keep : ∀ b z, w.H b = some z → upd w.H p u b = some z := fun b z e => by rw [upd_ne (ne_of_none e hp)]; exact e
  have st : ∀ {x : V} {z : M}, RelM K ad w.F w.H x z → RelM K ad w.F (upd w.H p u) x z := fun hm => hm.stay (Le.refl _) fun _ b vs _ hb fb => ⟨keep b _ hb, fb⟩
  exact ⟨fun b z e => keep b z (R.fh b z e), R.len, R.ul, fun i v h => let ⟨x, a, b⟩ := R.sl i v h; ⟨x, a, st b⟩, R.rf, fun j v a h1 h2 => st (R.uo j v a h1 h2), R.ap⟩
theorem Stp.new {p : Addr} {u : HO} (hp : w.H p = none) : Stp κ noT w { w with H := upd w.H p u } where
  ff := Le.refl _
  dm := fun b e => by
    by_cases k : b = p
    · subst k; exact hp
    · have e : upd w.H p u b = none := e
      rw [upd_ne k] at e; exact e
  hk := fun b z e _ => by show upd w.H p u b = _; rw [upd_ne (ne_of_none e hp)]; exact e
  fn := fun _ _ e => .inl e
  ow := fun _ _ v e => .inl ⟨v, e, id⟩
/-- what is nobody's is frozen -/
theorem Rel.fz (R : Rel K ad κ w) {p : Addr} {u : HO} (hp : w.H p = some u) (hf : w.F p = none) (no : ∀ o v, ¬ OwnAt κ w o p v) : Rel K ad κ { w with F := upd w.F p u } := by
  have st : ∀ {x : V} {z : M}, (z.own = true → ∀ b, x = .ref b → b ≠ p) → RelM K ad w.F w.H x z → RelM K ad (upd w.F p u) w.H x z := fun ho hm => hm.stay (le_upd hf) fun zo b vs e hb fb => ⟨hb, by rw [upd_ne (ho zo b e)]; exact fb⟩
  refine ⟨fun b z e => ?_, R.len, R.ul, fun i v h => ?_, R.rf, fun j v a h1 h2 => ?_, R.ap⟩
  · have e : upd w.F p u b = some z := e
    by_cases k : b = p
    · subst k; rw [upd_same] at e; cases e; exact hp
    · rw [upd_ne k] at e; exact R.fh b z e
  · obtain ⟨x, a, b⟩ := R.sl i v h
    exact ⟨x, a, st (fun zo c e k => by subst e k; exact no (.inl i) v ⟨h, zo, a⟩) b⟩
  · exact st (fun zo c e k => by cases e; subst k; exact no (.inr j) v ⟨h1, zo, h2⟩) (R.uo j v a h1 h2)
theorem Stp.fz {p : Addr} {u : HO} (hf : w.F p = none) : Stp κ (fun b => b = p) w { w with F := upd w.F p u } where
  ff := le_upd hf
  dm := fun _ e => e
  hk := fun _ _ e _ => e
  fn := fun b z e => by
    have e : upd w.F p u b = some z := e
    by_cases k : b = p
    · exact .inr (.inr (.inl k))
    · rw [upd_ne k] at e; exact .inl e
  ow := fun _ _ v e => .inl ⟨v, e, id⟩
/-- something new and frozen -/
theorem Rel.newF (R : Rel K ad κ w) {p : Addr} {u : HO} (hp : w.H p = none) : Rel K ad κ { w with F := upd w.F p u, H := upd w.H p u } ∧ Stp κ noT w { w with F := upd w.F p u, H := upd w.H p u } ∧ w.F p = none := by
  have hf : w.F p = none := by
    cases q : w.F p with
    | none => rfl
    | some z => rw [R.fh p z q] at hp; cases hp
  have R1 := R.new (u := u) hp
  have S1 : Stp κ noT w { w with H := upd w.H p u } := Stp.new hp
  have no : ∀ o v, ¬ OwnAt κ { w with H := upd w.H p u } o p v := fun o v q => by
    have q' : OwnAt κ w o p v := by cases o <;> exact q
    have hm := OwnAt.rel R q'
    obtain ⟨b, vs, e1, e2, _⟩ := hm.own_at (by cases o <;> exact q.2.1)
    cases e1; rw [hp] at e2; cases e2
  refine ⟨R1.fz upd_same hf no, S1.take (Stp.fz (κ := κ) (w := { w with H := upd w.H p u }) hf) fun x e => by rw [e]; exact hp, hf⟩
/-- label only: a list is locked, or no longer -/
theorem RelM.label {F H : Hp} {ds : List D} (h : RelM K ad F H x (.lst ds)) : RelM K ad F H x (.lock ds) := h
end

/-- what is seen: the data's outermost layer lies in the heap, the items are frozen -/
def View (K : PySem.W.Frag) (F H : Hp) (x : V) : D → Prop
  | .none => x = .non
  | .bool b => x = .bl b
  | .int i => x = .int i
  | .str z => x = .str z
  | .list ds => ∃ a vs, x = .ref a ∧ SqL K H a vs ∧ RepAll K F vs ds
  | .tuple ds => ∃ a vs, x = .ref a ∧ F a = some (.tup vs) ∧ RepAll K F vs ds
  | .dict _ => False
section
variable {K : PySem.W.Frag} {ad : Nat → Addr} {κ : List Addr} {w : Wd} {F H : Hp} {x : V} {r : Rv} {d : D}
theorem RepD.view (l : Le F H) (h : RepD K F x d) : View K F H x d := by
  cases h with
  | non => rfl
  | bl b => rfl
  | int i => rfl
  | str z => rfl
  | lst h r => exact ⟨_, _, rfl, SqL.of (l _ _ h), r⟩
  | tup h r => exact ⟨_, _, rfl, h, r⟩
theorem View.dp (l : Le F H) (h : View K F H x d) : Dp K H x d := by
  cases d with
  | none => cases h; exact .non
  | bool b => cases h; exact .bl b
  | int i => cases h; exact .int i
  | str z => cases h; exact .str z
  | list ds => obtain ⟨a, vs, rfl, h1, h2⟩ := h; exact .lst h1 (h2.dp l)
  | tuple ds => obtain ⟨a, vs, rfl, h1, h2⟩ := h; exact .tup (SqT.of (l _ _ h1)) (h2.dp l)
  | dict _ => exact h.elim
theorem View.plain (h : View K F H x d) : d.plain = true := by
  cases d with
  | none => simp [PyData.plain]
  | bool b => simp [PyData.plain]
  | int i => simp [PyData.plain]
  | str z => simp [PyData.plain]
  | list ds => obtain ⟨a, vs, rfl, h1, h2⟩ := h; rw [PyData.plain]; exact h2.plain
  | tuple ds => obtain ⟨a, vs, rfl, h1, h2⟩ := h; rw [PyData.plain]; exact h2.plain
  | dict _ => exact h.elim
theorem RelM.view {v : M} (l : Le F H) (h : RelM K ad F H x v) (c : v.contS = some d) : View K F H x d := by
  cases v with
  | fro e => cases c; exact RepD.view l h
  | lst ds => cases c; obtain ⟨a, vs, h1, h2, h3, h4⟩ := h; exact ⟨a, vs, h1, SqL.of h2, h4⟩
  | lock ds => cases c; obtain ⟨a, vs, h1, h2, h3, h4⟩ := h; exact ⟨a, vs, h1, SqL.of h2, h4⟩
  | scr ns => cases c; obtain ⟨a, h1, h2⟩ := h; exact ⟨a, _, h1, l.sqL h2, RepAll.ints ns⟩
  | fn n => cases c
  | dct b kvs => cases c
theorem cont_S {v : M} (c : v.cont = some d) : v.contS = some d := by
  cases v <;> first | exact c | cases c
/-- a list of mine, strictly -/
theorem RelM.seeL {v : M} {ds : List D} (l : Le F H) (h : RelM K ad F H x v) (c : v.cont = some (.list ds)) : ∃ a vs, x = .ref a ∧ H a = some (.lst vs) ∧ RepAll K F vs ds := by
  cases v with
  | fro e =>
    cases c
    cases h with
    | lst h r => exact ⟨_, _, rfl, l _ _ h, r⟩
  | lst ds => cases c; obtain ⟨a, vs, h1, h2, h3, h4⟩ := h; exact ⟨a, vs, h1, h2, h4⟩
  | lock ds => cases c; obtain ⟨a, vs, h1, h2, h3, h4⟩ := h; exact ⟨a, vs, h1, h2, h4⟩
  | scr ns => cases c
  | fn n => cases c
  | dct b kvs => cases c
theorem Rel.rvM (R : Rel K ad κ w) (h : RvOk K ad κ w x r) : (∃ v, r = .m v ∧ RelM K ad w.F w.H x v) ∨ ∃ i, r = .bor i ∧ ∀ v, w.s.at i = some v → RelM K ad w.F w.H x v := by
  cases r with
  | m v => exact .inl ⟨v, rfl, h.1⟩
  | bor i =>
    refine .inr ⟨i, rfl, fun v hv => ?_⟩
    obtain ⟨y, hy, hm⟩ := R.at hv
    rw [show w.σ[i]? = some (some x) from h] at hy
    cases hy
    exact hm
theorem Rel.see (R : Rel K ad κ w) (h : RvOk K ad κ w x r) (c : viewS w.s r = some d) : View K w.F w.H x d := by
  rcases R.rvM h with ⟨v, rfl, hm⟩ | ⟨i, rfl, hm⟩
  · exact hm.view R.fh c
  · have c : (w.s.at i).bind M.contS = some d := c
    cases q : w.s.at i with
    | none => rw [q] at c; cases c
    | some v => rw [q] at c; exact (hm v q).view R.fh c
theorem view_S {s : S} (c : view s r = some d) : viewS s r = some d := by
  cases r with
  | m v => exact cont_S c
  | bor i =>
    have c : (s.at i).bind M.cont = some d := c
    show (s.at i).bind M.contS = some d
    cases q : s.at i with
    | none => rw [q] at c; cases c
    | some v => rw [q] at c; exact cont_S c
theorem Rel.seeL {ds : List D} (R : Rel K ad κ w) (h : RvOk K ad κ w x r) (c : view w.s r = some (.list ds)) : ∃ a vs, x = .ref a ∧ w.H a = some (.lst vs) ∧ RepAll K w.F vs ds := by
  rcases R.rvM h with ⟨v, rfl, hm⟩ | ⟨i, rfl, hm⟩
  · exact hm.seeL R.fh c
  · have c : (w.s.at i).bind M.cont = some (.list ds) := c
    cases q : w.s.at i with
    | none => rw [q] at c; cases c
    | some v => rw [q] at c; exact (hm v q).seeL R.fh c
/-- a result is frozen -/
theorem Rel.freeze (R : Rel K ad κ w) (h : RvOk K ad κ w x r) {s' : S} (c : frz w.s r = some (d, s')) :
    ∃ F', Rel K ad κ ⟨F', s', w.σ, w.H⟩ ∧ Stp κ (tmp x r) w ⟨F', s', w.σ, w.H⟩ ∧ RepD K F' x d := by
  cases r with
  | m v =>
    have c : v.cont.map (·, w.s) = some (d, s') := c
    obtain ⟨d', hd, e⟩ := Option.map_eq_some_iff.mp c
    cases e
    cases ho : v.own with
    | false =>
      refine ⟨w.F, R, Stp.refl, ?_⟩
      cases v with
      | fro e => cases hd; exact h.1
      | scr ns => cases hd
      | fn n => cases hd
      | _ => cases ho
    | true =>
      obtain ⟨a, vs, ds, rfl, h2, h3, h4, h5⟩ := h.1.own_list ho hd
      rw [h5] at hd; cases hd
      have no := h.2 a ⟨ho, rfl⟩
      refine ⟨upd w.F a (.lst vs), R.fz h2 h3 no, (Stp.fz h3).weak fun b e => ⟨ho, by rw [e]⟩, .lst upd_same (h4.mono (le_upd h3))⟩
  | bor i =>
    have c : (match w.s.at i with
      | some v => v.cont.map fun d => (d, if v.own = true then w.s.put i (.fro d) else w.s)
      | none => none) = some (d, s') := c
    cases q : w.s.at i with
    | none => rw [q] at c; cases c
    | some v =>
      rw [q] at c
      obtain ⟨d', hd, e⟩ := Option.map_eq_some_iff.mp c
      obtain ⟨y, hy, hm⟩ := R.at q
      rw [show w.σ[i]? = some (some x) from h] at hy
      cases hy
      cases ho : v.own with
      | false =>
        rw [ho] at e
        cases e
        refine ⟨w.F, R, Stp.refl, ?_⟩
        cases v with
        | fro e => cases hd; exact hm
        | scr ns => cases hd
        | fn n => cases hd
        | _ => cases ho
      | true =>
        rw [ho] at e
        cases e
        obtain ⟨o, a, oa, hσ, hp⟩ := R.owner q ho
        obtain ⟨b, vs, ds, rfl, h2, h3, h4, h5⟩ := hm.own_list ho hd
        rw [show w.σ[i]? = some (some (V.ref b)) from h] at hσ
        cases hσ
        rw [h5] at hd; cases hd
        have rep : RepD K (upd w.F a (.lst vs)) (.ref a) (.list ds) := .lst upd_same (h4.mono (le_upd h3))
        refine ⟨upd w.F a (.lst vs), ?_, ?_, rep⟩
        · show Rel K ad κ ⟨_, w.s.put i (.fro (.list ds)), _, _⟩
          rw [hp]
          refine R.upO oa (le_upd h3) (fun b z e => ?_) rep (fun b u _ e => e) fun b u nb _ e => by rw [upd_ne nb]; exact e
          by_cases k : b = a
          · subst k; rw [upd_same] at e; cases e; exact h2
          · rw [upd_ne k] at e; exact R.fh b z e
        · show Stp κ _ w ⟨_, w.s.put i (.fro (.list ds)), _, _⟩
          rw [hp]
          refine (Stp.upO oa (le_upd h3) (fun k => by cases k) (fun b u _ e => e) ?_ fun b u nb e => by rw [upd_ne nb] at e; exact e).weak fun _ z => z.elim
          cases hv : v.mut with
          | false => exact .inl ⟨rfl, rfl⟩
          | true => exact .inr ⟨rfl, fun z => by have z : w.H a = none := z; rw [h2] at z; cases z⟩
end
end Ax
/-! A4: several results; slots that are given a value; things lent to a call. -/
namespace Ax
open PySem L2
section
variable {K : PySem.W.Frag} {ad : Nat → Addr} {κ : List Addr} {w w' w0 : Wd} {x : V} {xs : List V} {r : Rv} {rs : List Rv} {T : Addr → Prop} {H0 H1 : Hp}
def temps : List V → List Rv → List Addr
  | .ref a :: xs, .m v :: rs => if v.own = true then a :: temps xs rs else temps xs rs
  | _ :: xs, _ :: rs => temps xs rs
  | _, _ => []
theorem temps_tail {a : Addr} (h : a ∈ temps xs rs) : a ∈ temps (x :: xs) (r :: rs) := by
  cases x <;> cases r <;> simp only [temps] <;> try exact h
  split
  · exact List.mem_cons_of_mem _ h
  · exact h
theorem temps_head {a : Addr} (h : tmp x r a) : a ∈ temps (x :: xs) (r :: rs) := by
  cases r with
  | bor i => exact h.elim
  | m v =>
    obtain ⟨h1, h2⟩ := h
    subst h2
    simp only [temps, h1, if_true]
    exact List.mem_cons_self
theorem temps_cons {a : Addr} (h : a ∈ temps (x :: xs) (r :: rs)) : tmp x r a ∨ a ∈ temps xs rs := by
  cases x <;> cases r <;> simp only [temps] at h <;> try exact .inr h
  split at h
  · rename_i ho
    rcases List.mem_cons.mp h with e | h
    · subst e; exact .inl ⟨ho, rfl⟩
    · exact .inr h
  · exact .inr h
inductive RvsOk (K : PySem.W.Frag) (ad : Nat → Addr) (κ : List Addr) (w : Wd) (H0 : Hp) : List V → List Rv → Prop
  | nil : RvsOk K ad κ w H0 [] []
  | cons {x : V} {xs : List V} {r : Rv} {rs : List Rv} : RvOk K ad κ w x r → Fresh H0 x r → (∀ a, tmp x r a → a ∉ temps xs rs) → RvsOk K ad κ w H0 xs rs → RvsOk K ad κ w H0 (x :: xs) (r :: rs)
theorem RvsOk.length : ∀ {xs : List V} {rs : List Rv}, RvsOk K ad κ w H0 xs rs → xs.length = rs.length
  | _, _, .nil => rfl
  | _, _, .cons _ _ _ h => congrArg (· + 1) h.length
theorem RvsOk.step (st : Stp κ T w w') (hσ : w'.σ = w.σ) : ∀ {xs : List V} {rs : List Rv}, RvsOk K ad κ w H0 xs rs → (∀ a, a ∈ temps xs rs → ¬ T a) → RvsOk K ad κ w' H0 xs rs
  | _, _, .nil, _ => .nil
  | _, _, .cons h1 h2 h3 h4, nt => .cons (h1.step st hσ fun a t => nt a (temps_head t)) h2 h3 (RvsOk.step st hσ h4 fun a t => nt a (temps_tail t))
theorem RvsOk.stepM (st : Stp κ T w w') : ∀ {xs : List V} {vs : List M}, RvsOk K ad κ w H0 xs (vs.map .m) → (∀ a, a ∈ temps xs (vs.map .m) → ¬ T a) → RvsOk K ad κ w' H0 xs (vs.map .m)
  | _, [], .nil, _ => .nil
  | _, v :: vs, .cons h1 h2 h3 h4, nt => .cons (h1.stepM st fun a t => nt a (temps_head t)) h2 h3 (RvsOk.stepM st h4 fun a t => nt a (temps_tail t))
theorem RvsOk.fresh : ∀ {xs : List V} {rs : List Rv}, RvsOk K ad κ w H0 xs rs → ∀ a, a ∈ temps xs rs → H0 a = none
  | _, _, .nil, _, h => by cases h
  | _, _, .cons h1 h2 h3 h4, a, h => (temps_cons h).elim (h2 a) (RvsOk.fresh h4 a)
theorem RvsOk.back (e : ∀ a, H1 a = none → H0 a = none) : ∀ {xs : List V} {rs : List Rv}, RvsOk K ad κ w H1 xs rs → RvsOk K ad κ w H0 xs rs
  | _, _, .nil => .nil
  | _, _, .cons h1 h2 h3 h4 => .cons h1 (fun a t => e a (h2 a t)) h3 (RvsOk.back e h4)
/-- one more, in front: it was there ahead of the others -/
theorem RvsOk.front (h : RvOk K ad κ w x r) (hf : Fresh w0.H x r) (st0 : Stp κ noT w0 w) (st : Stp κ noT w w') (hσ : w'.σ = w.σ) (hs : RvsOk K ad κ w' w.H xs rs) : RvsOk K ad κ w' w0.H (x :: xs) (r :: rs) :=
  .cons (h.step0 st hσ) hf (fun a t m => by
    obtain ⟨o, e⟩ := h.there t
    rw [hs.fresh a m] at e; cases e) (hs.back st0.dm)
theorem Rel.freeze0 {d : D} {s' : S} (R : Rel K ad κ w) (st : Stp κ noT w0 w) (h : RvOk K ad κ w x r) (hf : Fresh w0.H x r) (c : frz w.s r = some (d, s')) :
    ∃ F', Rel K ad κ ⟨F', s', w.σ, w.H⟩ ∧ Stp κ noT w0 ⟨F', s', w.σ, w.H⟩ ∧ Stp κ (tmp x r) w ⟨F', s', w.σ, w.H⟩ ∧ RepD K F' x d := by
  obtain ⟨F', h1, h2, h3⟩ := R.freeze h c
  exact ⟨F', h1, st.take h2 hf, h2, h3⟩
theorem Rel.freezeAll : ∀ {xs : List V} {rs : List Rv} {w : Wd} {ds : List D} {s' : S}, Rel K ad κ w → Stp κ noT w0 w → RvsOk K ad κ w w0.H xs rs → frzAll w.s rs = some (ds, s') →
    ∃ F', Rel K ad κ ⟨F', s', w.σ, w.H⟩ ∧ Stp κ noT w0 ⟨F', s', w.σ, w.H⟩ ∧ Le w.F F' ∧ RepAll K F' xs ds
  | _, _, w, ds, s', R, st, .nil, c => by
    have c : some (([] : List D), w.s) = some (ds, s') := c
    cases c
    exact ⟨w.F, R, st, Le.refl _, .nil⟩
  | _, _, w, ds, s', R, st, .cons (r := r) (rs := rs) h1 h2 h3 h4, c => by
    have c : (match frz w.s r with
      | some (d, s1) => (Ax.frzAll s1 rs).map fun (ds, s2) => (d :: ds, s2)
      | none => none) = some (ds, s') := c
    cases q : frz w.s r with
    | none => rw [q] at c; cases c
    | some p =>
      obtain ⟨d, s1⟩ := p
      rw [q] at c
      obtain ⟨⟨ds1, s2⟩, q2, e⟩ := Option.map_eq_some_iff.mp c
      cases e
      obtain ⟨F1, R1, st1, st1', rp⟩ := R.freeze0 st h1 h2 q
      obtain ⟨F2, R2, st2, l2, rp2⟩ := Rel.freezeAll (w := ⟨F1, s1, w.σ, w.H⟩) R1 st1 (h4.step st1' rfl fun a m t => h3 a t m) q2
      exact ⟨F2, R2, st2, st1'.ff.trans l2, .cons (rp.mono l2) rp2⟩

/-! ### a slot is given a value -/
theorem own_set {F' H' : Hp} {i : Nat} {v : M} {o : Own} {b : Addr} {z : M} (hl : w.s.r.length = w.σ.length) (q : OwnAt κ ⟨F', w.s.set i v, w.σ.set i (some x), H'⟩ o b z) :
    (o = .inl i ∧ tmp x (.m v) b ∧ z = v) ∨ (o ≠ .inl i ∧ OwnAt κ w o b z) := by
  cases o with
  | inl j =>
    obtain ⟨q1, q2, q3⟩ := q
    have q1 : (w.s.r.set i (.m v))[j]? = some (.m z) := q1
    have q3 : (w.σ.set i (some x))[j]? = some (some (.ref b)) := q3
    by_cases e : i = j
    · subst e
      have h1 : i < w.s.r.length := by
        have := (List.getElem?_eq_some_iff.mp q1).1
        rwa [List.length_set] at this
      rw [List.getElem?_set_self h1] at q1
      rw [List.getElem?_set_self (by omega)] at q3
      cases q1
      exact .inl ⟨rfl, ⟨q2, by simpa using q3⟩, rfl⟩
    · rw [List.getElem?_set_ne e] at q1 q3
      exact .inr ⟨fun k => e (by cases k; rfl), q1, q2, q3⟩
  | inr j => exact .inr ⟨(fun k => nomatch k), q⟩
theorem Rel.setv {i : Nat} {v : M} (R : Rel K ad κ w) (h : RvOk K ad κ w x (.m v)) : Rel K ad κ ⟨w.F, w.s.set i v, w.σ.set i (some x), w.H⟩ ∧ Stp κ (tmp x (.m v)) w ⟨w.F, w.s.set i v, w.σ.set i (some x), w.H⟩ := by
  refine ⟨⟨R.fh, ?_, R.ul, fun j z hz => ?_, fun j k hj => ?_, R.uo, fun o o' b z z' q q' => ?_⟩, ⟨Le.refl _, fun _ e => e, fun _ _ e _ => e, fun _ _ e => .inl e, fun o b z q => ?_⟩⟩
  · show (w.s.r.set i _).length = (w.σ.set i _).length
    rw [List.length_set, List.length_set]; exact R.len
  · have hz : (w.s.r.set i (.m v))[j]? = some (.m z) := hz
    show ∃ y, (w.σ.set i (some x))[j]? = _ ∧ _
    by_cases e : i = j
    · subst e
      have h1 : i < w.s.r.length := by
        have := (List.getElem?_eq_some_iff.mp hz).1
        rwa [List.length_set] at this
      rw [List.getElem?_set_self h1] at hz
      cases hz
      exact ⟨x, by rw [List.getElem?_set_self (by rw [← R.len]; exact h1)], h.1⟩
    · rw [List.getElem?_set_ne e] at hz ⊢
      exact R.sl j z hz
  · have hj : (w.s.r.set i (.m v))[j]? = some (.ref k) := hj
    show ∃ a, (w.σ.set i (some x))[j]? = _ ∧ _
    by_cases e : i = j
    · subst e
      have h1 : i < w.s.r.length := by
        have := (List.getElem?_eq_some_iff.mp hj).1
        rwa [List.length_set] at this
      rw [List.getElem?_set_self h1] at hj
      cases hj
    · rw [List.getElem?_set_ne e] at hj ⊢
      exact R.rf j k hj
  · rcases own_set R.len q with ⟨e, t, _⟩ | ⟨n, q⟩
    · rcases own_set R.len q' with ⟨e', _, _⟩ | ⟨n', q'⟩
      · rw [e, e']
      · exact (h.2 b t _ _ q').elim
    · rcases own_set R.len q' with ⟨e', t', _⟩ | ⟨n', q'⟩
      · exact (h.2 b t' _ _ q).elim
      · exact R.ap _ _ _ _ _ q q'
  · rcases own_set R.len q with ⟨e, t, _⟩ | ⟨n, q⟩
    · exact .inr (.inl t)
    · exact .inl ⟨z, q, id⟩
theorem Rel.setv0 {i : Nat} {v : M} (R : Rel K ad κ w) (st : Stp κ noT w0 w) (h : RvOk K ad κ w x (.m v)) (hf : Fresh w0.H x (.m v)) : Rel K ad κ ⟨w.F, w.s.set i v, w.σ.set i (some x), w.H⟩ ∧ Stp κ noT w0 ⟨w.F, w.s.set i v, w.σ.set i (some x), w.H⟩ :=
  let ⟨h1, h2⟩ := R.setv h
  ⟨h1, st.take h2 hf⟩
/-- frozen data go to a slot -/
theorem Rel.setd {i : Nat} {d : D} (R : Rel K ad κ w) (h : RepD K w.F x d) : Rel K ad κ ⟨w.F, w.s.set i (.fro d), w.σ.set i (some x), w.H⟩ ∧ Stp κ noT w ⟨w.F, w.s.set i (.fro d), w.σ.set i (some x), w.H⟩ :=
  let ⟨h1, h2⟩ := R.setv (i := i) (v := .fro d) ⟨h, fun a t => nomatch t.1⟩
  ⟨h1, h2.weak fun a t => nomatch t.1⟩
/-- what is given to a slot -/
theorem Rel.giving {v : M} {s' : S} (R : Rel K ad κ w) (st : Stp κ noT w0 w) (h : RvOk K ad κ w x r) (hf : Fresh w0.H x r) (c : give w.s r = some (v, s')) :
    ∃ F', Rel K ad κ ⟨F', s', w.σ, w.H⟩ ∧ Stp κ noT w0 ⟨F', s', w.σ, w.H⟩ ∧ Stp κ noT w ⟨F', s', w.σ, w.H⟩ ∧ RvOk K ad κ ⟨F', s', w.σ, w.H⟩ x (.m v) ∧ (∀ a, tmp x (.m v) a → tmp x r a) := by
  cases r with
  | m z =>
    have c : some (z, w.s) = some (v, s') := c
    cases c
    exact ⟨w.F, R, st, Stp.refl, h, fun _ t => t⟩
  | bor i =>
    have c : (frz w.s (.bor i)).map (fun (d, s1) => (M.fro d, s1)) = some (v, s') := c
    obtain ⟨⟨d, s1⟩, q, e⟩ := Option.map_eq_some_iff.mp c
    cases e
    obtain ⟨F', h1, h2, h3, h4⟩ := R.freeze0 st h hf q
    exact ⟨F', h1, h2, h3.weak fun _ t => t.elim, ⟨h4, fun a t => nomatch t.1⟩, fun a t => nomatch t.1⟩
theorem Rel.givingAll : ∀ {xs : List V} {rs : List Rv} {w : Wd} {vs : List M} {s' : S}, Rel K ad κ w → Stp κ noT w0 w → RvsOk K ad κ w w0.H xs rs → giveAll w.s rs = some (vs, s') →
    ∃ F', Rel K ad κ ⟨F', s', w.σ, w.H⟩ ∧ Stp κ noT w0 ⟨F', s', w.σ, w.H⟩ ∧ RvsOk K ad κ ⟨F', s', w.σ, w.H⟩ w0.H xs (vs.map .m) ∧ (∀ a, a ∈ temps xs (vs.map .m) → a ∈ temps xs rs) ∧ Stp κ noT w ⟨F', s', w.σ, w.H⟩
  | _, _, w, vs, s', R, st, .nil, c => by
    have c : some (([] : List M), w.s) = some (vs, s') := c
    cases c
    exact ⟨w.F, R, st, .nil, fun _ t => t, Stp.refl⟩
  | _, _, w, vs, s', R, st, .cons (x := x) (xs := xs) (r := r) (rs := rs) h1 h2 h3 h4, c => by
    have c : (match give w.s r with
      | some (v, s1) => (giveAll s1 rs).map fun (vs, s2) => (v :: vs, s2)
      | none => none) = some (vs, s') := c
    cases q : give w.s r with
    | none => rw [q] at c; cases c
    | some p =>
      obtain ⟨v, s1⟩ := p
      rw [q] at c
      obtain ⟨⟨vs1, s2⟩, q2, e⟩ := Option.map_eq_some_iff.mp c
      cases e
      obtain ⟨F1, R1, st1, st1', ok1, tm1⟩ := R.giving st h1 h2 q
      obtain ⟨F2, R2, st2, ok2, tm2, st2'⟩ := Rel.givingAll (w := ⟨F1, s1, w.σ, w.H⟩) R1 st1 (h4.step st1' rfl fun a m t => t) q2
      refine ⟨F2, R2, st2, .cons (ok1.step0 st2' rfl) (fun a t => h2 a (tm1 a t)) (fun a t m => h3 a (tm1 a t) (tm2 a m)) ok2, fun a t => ?_, st1'.tr st2'⟩
      rcases temps_cons t with t | t
      · exact temps_head (tm1 a t)
      · exact temps_tail (tm2 a t)
def setsV : L2.St → List Nat → List V → L2.St
  | σ, i :: is, x :: xs => setsV (σ.set i (some x)) is xs
  | σ, _, _ => σ
theorem Rel.setAll : ∀ {is : List Nat} {xs : List V} {vs : List M} {w : Wd}, Rel K ad κ w → Stp κ noT w0 w → RvsOk K ad κ w w0.H xs (vs.map .m) →
    Rel K ad κ ⟨w.F, setAll w.s is vs, setsV w.σ is xs, w.H⟩ ∧ Stp κ noT w0 ⟨w.F, setAll w.s is vs, setsV w.σ is xs, w.H⟩
  | [], _, _, w, R, st, _ => ⟨R, st⟩
  | _ :: _, _, [], w, R, st, .nil => ⟨R, st⟩
  | i :: is, _, v :: vs, w, R, st, .cons (x := x) (xs := xs) h1 h2 h3 h4 => by
    obtain ⟨R1, st1⟩ := R.setv0 (i := i) st h1 h2
    obtain ⟨_, st1'⟩ := R.setv (i := i) h1
    exact Rel.setAll (w := ⟨w.F, w.s.set i v, w.σ.set i (some x), w.H⟩) R1 st1 (h4.stepM st1' fun a m t => h3 a t m)

/-! ### what is lent -/
/-- a call's arguments -/
inductive ArgsOk (K : PySem.W.Frag) (ad : Nat → Addr) (F H : Hp) (κ : List Addr) : List V → List Arg → Prop
  | nil : ArgsOk K ad F H κ [] []
  | own {x : V} {xs : List V} {v : M} {as : List Arg} : RelM K ad F H x v → v.own = false → ArgsOk K ad F H κ xs as → ArgsOk K ad F H κ (x :: xs) (.m v :: as)
  | lent {a : Addr} {xs : List V} {p : Nat} {as : List Arg} : κ[p]? = some a → ArgsOk K ad F H κ xs as → ArgsOk K ad F H κ (.ref a :: xs) (.lent p :: as)
theorem ArgsOk.length {F H : Hp} : ∀ {xs : List V} {as : List Arg}, ArgsOk K ad F H κ xs as → xs.length = as.length
  | _, _, .nil => rfl
  | _, _, .own _ _ h => congrArg (· + 1) h.length
  | _, _, .lent _ h => congrArg (· + 1) h.length
theorem ArgsOk.mono {F F' H H' : Hp} {κ' : List Addr} (l : Le F F') (e : ∀ (p : Nat) (a : Addr), κ[p]? = some a → κ'[p]? = some a) : ∀ {xs : List V} {as : List Arg}, ArgsOk K ad F H κ xs as → ArgsOk K ad F' H' κ' xs as
  | _, _, .nil => .nil
  | _, _, .own h n r => .own (h.stay l fun o => by rw [n] at o; cases o) n (ArgsOk.mono l e r)
  | _, _, .lent h r => .lent (e _ _ h) (ArgsOk.mono l e r)
/-- where the lent things lie -/
inductive Lnt (κ : List Addr) (w : Wd) : List (Nat × M) → List Addr → Prop
  | nil : Lnt κ w [] []
  | cons {i : Nat} {v : M} {l : List (Nat × M)} {a : Addr} {as : List Addr} : w.s.at i = some v → v.own = true → w.σ[i]? = some (some (.ref a)) → Lnt κ w l as → Lnt κ w ((i, v) :: l) (a :: as)
theorem Lnt.snoc {i : Nat} {v : M} {a : Addr} (h1 : w.s.at i = some v) (h2 : v.own = true) (h3 : w.σ[i]? = some (some (.ref a))) : ∀ {l : List (Nat × M)} {as : List Addr}, Lnt κ w l as → Lnt κ w (l ++ [(i, v)]) (as ++ [a])
  | _, _, .nil => .cons h1 h2 h3 .nil
  | _, _, .cons q1 q2 q3 h => .cons q1 q2 q3 (Lnt.snoc h1 h2 h3 h)
theorem Lnt.length : ∀ {l : List (Nat × M)} {as : List Addr}, Lnt κ w l as → as.length = l.length
  | _, _, .nil => rfl
  | _, _, .cons _ _ _ h => congrArg (· + 1) h.length
theorem Lnt.get : ∀ {l : List (Nat × M)} {as : List Addr}, Lnt κ w l as → ∀ {k : Nat} {p : Nat × M}, l[k]? = some p → ∃ a, as[k]? = some a ∧ w.s.at p.1 = some p.2 ∧ p.2.own = true ∧ w.σ[p.1]? = some (some (.ref a))
  | _, _, .nil, _, _, e => by simp at e
  | _, _, .cons q1 q2 q3 h, 0, _, e => by simp at e; subst e; exact ⟨_, rfl, q1, q2, q3⟩
  | _, _, .cons q1 q2 q3 h, k + 1, _, e => by
    obtain ⟨a, h1, h2⟩ := h.get (k := k) (by simpa using e)
    exact ⟨a, by simpa using h1, h2⟩
theorem lnt_F {F' : Hp} : ∀ {l : List (Nat × M)} {as : List Addr}, Lnt κ ⟨F', w.s, w.σ, w.H⟩ l as → Lnt κ w l as
  | _, _, .nil => .nil
  | _, _, .cons q1 q2 q3 h => .cons q1 q2 q3 (lnt_F h)
theorem Rel.lending : ∀ {xs : List V} {rs : List Rv} {w : Wd} {as : List Arg} {l : List (Nat × M)}, Rel K ad κ w → Stp κ noT w0 w → RvsOk K ad κ w w0.H xs rs → lend w.s rs = some (as, l) →
    ∃ F' κ', Rel K ad κ ⟨F', w.s, w.σ, w.H⟩ ∧ Stp κ noT w0 ⟨F', w.s, w.σ, w.H⟩ ∧ Le w.F F' ∧ Lnt κ w l κ' ∧ ArgsOk K ad F' w.H κ' xs as
  | _, _, w, as, l, R, st, .nil, c => by
    have c : some (([] : List Arg), ([] : List (Nat × M))) = some (as, l) := c
    cases c
    exact ⟨w.F, [], R, st, Le.refl _, .nil, .nil⟩
  | _, _, w, as, l, R, st, .cons (x := x) (xs := xs) (r := .m v) (rs := rs) h1 h2 h3 h4, c => by
    have c : (match lend w.s rs with
      | some (as, l) => if v.own = true then (match v.cont with
        | some d => some (Arg.m (.fro d) :: as, l)
        | none => none) else some (.m v :: as, l)
      | none => none) = some (as, l) := c
    cases q : lend w.s rs with
    | none => rw [q] at c; cases c
    | some p =>
      obtain ⟨as1, l1⟩ := p
      rw [q] at c
      cases ho : v.own with
      | false =>
        simp only [ho] at c
        cases c
        obtain ⟨F', κ', R', st', le, ln, ok⟩ := Rel.lending R st h4 q
        exact ⟨F', κ', R', st', le, ln, .own (h1.1.stay le fun o => by rw [ho] at o; cases o) ho ok⟩
      | true =>
        obtain ⟨d0, hd0⟩ : ∃ d0, v.cont = some d0 := by
          cases hc : v.cont with
          | none => simp [ho, hc] at c
          | some d0 => exact ⟨d0, rfl⟩
        obtain ⟨a, vs, ds, rfl, q2, q3, q4, q5⟩ := h1.1.own_list ho hd0
        simp only [ho, q5, if_true] at c
        cases c
        obtain ⟨F1, R1, st1, st1', rp⟩ := R.freeze0 (d := .list ds) (s' := w.s) st h1 h2 (by show v.cont.map _ = _; rw [q5]; rfl)
        obtain ⟨F', κ', R', st', le, ln, ok⟩ := Rel.lending (w := ⟨F1, w.s, w.σ, w.H⟩) R1 st1 (h4.step st1' rfl fun a m t => h3 a t m) q
        refine ⟨F', κ', R', st', st1'.ff.trans le, ?_, .own (v := .fro (.list ds)) (rp.mono le) rfl ok⟩
        exact lnt_F ln
  | _, _, w, as, l, R, st, .cons (x := x) (xs := xs) (r := .bor i) (rs := rs) h1 h2 h3 h4, c => by
    have c : (match lend w.s rs, w.s.at i with
      | some (as, l), some v => if v.own = true then some (Arg.lent l.length :: as, l ++ [(i, v)]) else some (.m v :: as, l)
      | _, _ => none) = some (as, l) := c
    cases q : lend w.s rs with
    | none => rw [q] at c; cases c
    | some p =>
      obtain ⟨as1, l1⟩ := p
      rw [q] at c
      cases hi : w.s.at i with
      | none => rw [hi] at c; cases c
      | some v =>
        rw [hi] at c
        obtain ⟨y, hy, hm⟩ := R.at hi
        rw [show w.σ[i]? = some (some x) from h1] at hy
        cases hy
        obtain ⟨F', κ', R', st', le, ln, ok⟩ := Rel.lending R st h4 q
        cases ho : v.own with
        | false =>
          simp only [ho] at c
          cases c
          exact ⟨F', κ', R', st', le, ln, .own (hm.stay le fun o => by rw [ho] at o; cases o) ho ok⟩
        | true =>
          simp only [ho, if_true] at c
          cases c
          obtain ⟨a, vs, rfl, q2, q3⟩ := hm.own_at ho
          refine ⟨F', κ' ++ [a], R', st', le, ln.snoc hi ho h1, .lent ?_ (ok.mono (Le.refl _) fun p b e => ?_)⟩
          · rw [← ln.length]; simp
          · rw [List.getElem?_append_left (List.getElem?_eq_some_iff.mp e).1]; exact e
end
end Ax
/-! A5: things lent come back. -/
namespace Ax
open PySem L2
section
variable {K : PySem.W.Frag} {ad : Nat → Addr} {κ κ' : List Addr} {w w' w0 : Wd} {x : V}
theorem get_inl {s : S} {i : Nat} {v : M} : s.get (.inl i) = some v ↔ s.r[i]? = some (.m v) := by
  show (match s.r[i]? with
    | some (.m v) => some v
    | _ => none) = some v ↔ s.r[i]? = some (.m v)
  cases s.r[i]? with
  | none => simp
  | some z => cases z <;> simp
def adr (κ : List Addr) (σ : L2.St) : Own → Option Addr
  | .inl i => match σ[i]? with
    | some (some (.ref a)) => some a
    | _ => none
  | .inr j => κ[j]?
theorem adr_inl {σ : L2.St} {i : Nat} {a : Addr} : adr κ σ (.inl i) = some a ↔ σ[i]? = some (some (.ref a)) := by
  show (match σ[i]? with
    | some (some (.ref a)) => some a
    | _ => none) = some a ↔ σ[i]? = some (some (.ref a))
  cases σ[i]? with
  | none => simp
  | some z =>
    cases z with
    | none => simp
    | some z => cases z <;> simp
theorem own_iff {o : Own} {a : Addr} {v : M} : OwnAt κ w o a v ↔ w.s.get o = some v ∧ v.own = true ∧ adr κ w.σ o = some a := by
  cases o with
  | inl i => rw [get_inl, adr_inl]; exact Iff.rfl
  | inr j => exact Iff.rfl
theorem upO_get {s : S} {o : Own} {v z : M} (h : s.get o = some z) : (s.upO o v).get o = some v := by
  cases o with
  | inl i =>
    rw [get_inl] at h ⊢
    show (s.r.set i (.m v))[i]? = _
    rw [List.getElem?_set_self (List.getElem?_eq_some_iff.mp h).1]
  | inr j =>
    show (s.u.set j v)[j]? = _
    rw [List.getElem?_set_self (List.getElem?_eq_some_iff.mp (show s.u[j]? = some z from h)).1]
theorem upO_get_ne {s : S} {o o' : Own} {v : M} (n : o' ≠ o) : (s.upO o v).get o' = s.get o' := by
  cases o with
  | inl i =>
    cases o' with
    | inl j =>
      have e : i ≠ j := fun e => n (by rw [e])
      show (match (s.r.set i (.m v))[j]? with | some (.m v) => some v | _ => none) = _
      rw [List.getElem?_set_ne e]; rfl
    | inr j => rfl
  | inr i =>
    cases o' with
    | inl j => rfl
    | inr j =>
      have e : i ≠ j := fun e => n (by rw [e])
      show (s.u.set i v)[j]? = _
      rw [List.getElem?_set_ne e]; rfl
theorem upO_ref {s : S} {o : Own} {v z : M} (h : s.get o = some z) (i j : Nat) : (s.upO o v).r[i]? = some (.ref j) ↔ s.r[i]? = some (.ref j) := by
  cases o with
  | inl k =>
    rw [get_inl] at h
    show (s.r.set k (.m v))[i]? = _ ↔ _
    by_cases e : k = i
    · subst e
      rw [List.getElem?_set_self (List.getElem?_eq_some_iff.mp h).1, h]
      exact ⟨(fun e => nomatch e), (fun e => nomatch e)⟩
    · rw [List.getElem?_set_ne e]
  | inr k => exact Iff.rfl
theorem upO_len {s : S} {o : Own} {v : M} : (s.upO o v).r.length = s.r.length ∧ (s.upO o v).u.length = s.u.length := by
  cases o with
  | inl k => exact ⟨List.length_set, rfl⟩
  | inr k => exact ⟨rfl, List.length_set⟩
theorem upO_owner {s : S} {o : Own} {v z : M} (h : s.get o = some z) (i : Nat) : ownerOf (s.upO o v) i = ownerOf s i := by
  cases o with
  | inl k =>
    rw [get_inl] at h
    show (match (s.r.set k (.m v))[i]? with | some (.m _) => some (Sum.inl i) | some (.ref j) => some (.inr j) | _ => none) = _
    by_cases e : k = i
    · subst e
      unfold ownerOf
      rw [List.getElem?_set_self (List.getElem?_eq_some_iff.mp h).1, h]
    · rw [List.getElem?_set_ne e]; rfl
  | inr k => rfl
theorem put_owner {s : S} {i : Nat} {o : Own} {v : M} (h : ownerOf s i = some o) : s.put i v = s.upO o v := by
  unfold ownerOf at h
  unfold S.put
  cases q : s.r[i]? with
  | none => rw [q] at h; cases h
  | some z =>
    rw [q] at h
    cases z <;> cases h <;> rfl
theorem at_owner {s : S} {i : Nat} {o : Own} (h : ownerOf s i = some o) : s.at i = s.get o := by
  unfold ownerOf at h
  unfold S.at
  cases q : s.r[i]? with
  | none => rw [q] at h; cases h
  | some z =>
    rw [q] at h
    cases z with
    | un => cases h
    | m z => cases h; rw [get_inl.mpr q]
    | ref j => cases h; rfl
theorem owner_at {s : S} {i : Nat} {v : M} (h : s.at i = some v) : ∃ o, ownerOf s i = some o := by
  unfold S.at at h
  unfold ownerOf
  cases q : s.r[i]? with
  | none => rw [q] at h; cases h
  | some z =>
    rw [q] at h
    cases z with
    | un => cases h
    | m z => exact ⟨_, rfl⟩
    | ref j => exact ⟨_, rfl⟩
/-- all that comes back -/
theorem giveBack_spec : ∀ {l : List (Nat × M)} {s : S} {u : List M} {os : List Own}, u.length = l.length → l.map (fun p => ownerOf s p.1) = os.map some → (∀ o ∈ os, ∃ z, s.get o = some z) → os.Nodup →
    (∀ (k : Nat) (o : Own) (v : M), os[k]? = some o → u[k]? = some v → (giveBack s l u).get o = some v) ∧ (∀ o, o ∉ os → (giveBack s l u).get o = s.get o) ∧
    (∀ i j : Nat, (giveBack s l u).r[i]? = some (.ref j) ↔ s.r[i]? = some (.ref j)) ∧ (giveBack s l u).r.length = s.r.length ∧ (giveBack s l u).u.length = s.u.length
  | [], s, u, os, hl, ho, hg, nd => by
    have : os = [] := by cases os with | nil => rfl | cons a b => cases ho
    subst this
    exact ⟨fun k o v e => by simp at e, fun _ _ => rfl, fun _ _ => Iff.rfl, rfl, rfl⟩
  | (i, z) :: l, s, [], os, hl, ho, hg, nd => by cases hl
  | (i, z) :: l, s, v :: u, [], hl, ho, hg, nd => by cases ho
  | (i, z) :: l, s, v :: u, o :: os, hl, ho, hg, nd => by
    have h1 : ownerOf s i = some o := by injection ho
    obtain ⟨z0, hz0⟩ := hg o List.mem_cons_self
    have e : giveBack s ((i, z) :: l) (v :: u) = giveBack (s.upO o v) l u := by
      show giveBack (s.put i v) l u = _
      rw [put_owner h1]
    rw [e]
    obtain ⟨no, nd'⟩ := List.nodup_cons.mp nd
    obtain ⟨p1, p2, p3, p4, p5⟩ := giveBack_spec (l := l) (s := s.upO o v) (u := u) (os := os) (by simpa using hl)
      (by
        have : l.map (fun p => ownerOf s p.1) = os.map some := by injection ho
        rw [← this]
        exact List.map_congr_left fun p _ => upO_owner hz0 p.1)
      (fun o' ho' => by
        obtain ⟨z', hz'⟩ := hg o' (List.mem_cons_of_mem _ ho')
        exact ⟨z', by rw [upO_get_ne (fun e => no (by rw [← e]; exact ho'))]; exact hz'⟩) nd'
    refine ⟨fun k o' v' ek ev => ?_, fun o' n => ?_, fun i' j' => (p3 i' j').trans (upO_ref hz0 i' j'), p4.trans upO_len.1, p5.trans upO_len.2⟩
    · cases k with
      | zero =>
        simp at ek ev
        subst ek ev
        rw [p2 _ no]
        exact upO_get hz0
      | succ k => exact p1 k o' v' (by simpa using ek) (by simpa using ev)
    · rw [p2 o' fun m => n (List.mem_cons_of_mem _ m), upO_get_ne fun e => n (by rw [e]; exact List.mem_cons_self)]
theorem owners_of : ∀ {l : List (Nat × M)} {κ' : List Addr}, Lnt κ w l κ' → ∃ os : List Own, l.map (fun p => ownerOf w.s p.1) = os.map some
  | _, _, .nil => ⟨[], rfl⟩
  | _, _, .cons h1 h2 h3 h => by
    obtain ⟨os, e⟩ := owners_of h
    obtain ⟨o, e1⟩ := owner_at h1
    exact ⟨o :: os, by rw [List.map_cons, List.map_cons, e, e1]⟩
/-- a world with lent things only -/
abbrev lw (F : Hp) (u : List M) (H : Hp) : Wd := ⟨F, ⟨[], u⟩, [], H⟩
theorem own_lw {F H : Hp} {u : List M} {o : Own} {a : Addr} {v : M} (h : OwnAt κ (lw F u H) o a v) : ∃ j, o = .inr j ∧ u[j]? = some v ∧ v.own = true ∧ κ[j]? = some a := by
  cases o with
  | inl i => have := h.1; simp [lw] at this
  | inr j => exact ⟨j, rfl, h.1, h.2.1, h.2.2⟩
theorem apart_nd {l : List (Nat × M)} {os : List Own} {s : S} (h : apart s l = true) (e : l.map (fun p => ownerOf s p.1) = os.map some) : os.Nodup := by
  unfold apart at h
  rw [e] at h
  have := of_decide_eq_true h
  exact List.Pairwise.of_map (S := fun a b => a ≠ b) some (fun a b n e => n (by rw [e])) this
theorem nodup_get {α : Type} : ∀ {l : List α} {i j : Nat} {x : α}, l.Nodup → l[i]? = some x → l[j]? = some x → i = j
  | [], _, _, _, _, h, _ => by simp at h
  | y :: l, 0, 0, x, _, _, _ => rfl
  | y :: l, 0, j + 1, x, nd, h1, h2 => by
    simp at h1 h2
    exact absurd (List.mem_of_getElem? h2) (by rw [← h1]; exact (List.nodup_cons.mp nd).1)
  | y :: l, i + 1, 0, x, nd, h1, h2 => by
    simp at h1 h2
    exact absurd (List.mem_of_getElem? h1) (by rw [← h2]; exact (List.nodup_cons.mp nd).1)
  | y :: l, i + 1, j + 1, x, nd, h1, h2 => by
    rw [nodup_get (List.nodup_cons.mp nd).2 (i := i) (j := j) (by simpa using h1) (by simpa using h2)]
/-- the owner of the k-th lent thing -/
theorem Rel.lentAt {l : List (Nat × M)} {os : List Own} (R : Rel K ad κ w) (ln : Lnt κ w l κ') (he : l.map (fun p => ownerOf w.s p.1) = os.map some) {k : Nat} {a : Addr} (e2 : κ'[k]? = some a) :
    ∃ o v, (l.map (·.2))[k]? = some v ∧ os[k]? = some o ∧ OwnAt κ w o a v := by
  have hk : k < l.length := by rw [← ln.length]; exact (List.getElem?_eq_some_iff.mp e2).1
  have hp : l[k]? = some l[k] := List.getElem?_eq_getElem hk
  generalize l[k] = p at hp
  obtain ⟨a', q1, q2, q3, q4⟩ := ln.get hp
  rw [e2] at q1; cases q1
  have q5 : (l.map fun p => ownerOf w.s p.1)[k]? = some (ownerOf w.s p.1) := by rw [List.getElem?_map, hp]; rfl
  rw [he, List.getElem?_map] at q5
  obtain ⟨o, ho, eo⟩ := Option.map_eq_some_iff.mp q5
  refine ⟨o, p.2, by rw [List.getElem?_map, hp]; rfl, ho, own_iff.mpr ⟨by rw [← at_owner eo.symm]; exact q2, q3, ?_⟩⟩
  have eo := eo.symm
  unfold ownerOf at eo
  cases q : w.s.r[p.1]? with
  | none => rw [q] at eo; cases eo
  | some z =>
    rw [q] at eo
    cases z with
    | un => cases eo
    | m z => cases eo; exact adr_inl.mpr q4
    | ref j =>
      cases eo
      obtain ⟨b, b1, b2⟩ := R.rf _ _ q
      rw [q4] at b1; cases b1
      exact b2
/-- what the lent things' world is, at the call -/
theorem Rel.lent {l : List (Nat × M)} (R : Rel K ad κ w) (ln : Lnt κ w l κ') (h : apart w.s l = true) : Rel K ad κ' (lw w.F (l.map (·.2)) w.H) := by
  obtain ⟨os, he⟩ := owners_of ln
  have nd := apart_nd h he
  refine ⟨R.fh, rfl, ?_, fun i v h => by simp at h, fun i j h => by simp at h, fun j v a e1 e2 => ?_, fun o o' a v v' q q' => ?_⟩
  · show κ'.length = (l.map (·.2)).length
    rw [List.length_map, ln.length]
  · obtain ⟨o, v', e3, _, q⟩ := R.lentAt ln he e2
    have e1 : (l.map (·.2))[j]? = some v := e1
    rw [e1] at e3; cases e3
    exact OwnAt.rel R q
  · obtain ⟨j, rfl, a1, a2, a3⟩ := own_lw q
    obtain ⟨j', rfl, b1, b2, b3⟩ := own_lw q'
    obtain ⟨o, _, _, e1, q1⟩ := R.lentAt ln he a3
    obtain ⟨o', _, _, e2, q2⟩ := R.lentAt ln he b3
    have := R.ap _ _ _ _ _ q1 q2
    subst this
    have : j = j' := nodup_get nd e1 e2
    rw [this]
/-- what is there after the call -/
theorem Rel.back {l : List (Nat × M)} {F' H' : Hp} {u' : List M} (R : Rel K ad κ w) (ln : Lnt κ w l κ') (h : apart w.s l = true) (R' : Rel K ad κ' (lw F' u' H')) (st : Stp κ' noT (lw w.F (l.map (·.2)) w.H) (lw F' u' H')) :
    Rel K ad κ ⟨F', giveBack w.s l u', w.σ, H'⟩ ∧ Stp κ noT w ⟨F', giveBack w.s l u', w.σ, H'⟩ ∧
    ∀ {x : V} {v : M}, RvOk K ad κ' (lw F' u' H') x (.m v) → Fresh w.H x (.m v) → RvOk K ad κ ⟨F', giveBack w.s l u', w.σ, H'⟩ x (.m v) := by
  obtain ⟨os, he⟩ := owners_of ln
  have nd := apart_nd h he
  have hlos : os.length = l.length := by have := congrArg List.length he; simpa using this.symm
  have hlu : u'.length = l.length := by
    have := R'.ul
    have h2 : κ'.length = u'.length := this
    rw [← h2, ln.length]
  have hget : ∀ o ∈ os, ∃ z, w.s.get o = some z := fun o ho => by
    obtain ⟨k, hk⟩ := List.getElem?_of_mem ho
    have hk' : k < κ'.length := by rw [ln.length, ← hlos]; exact (List.getElem?_eq_some_iff.mp hk).1
    obtain ⟨o', v, _, e, q⟩ := R.lentAt ln he (List.getElem?_eq_getElem hk')
    rw [hk] at e; cases e
    exact ⟨v, (own_iff.mp q).1⟩
  obtain ⟨g1, g2, g3, g4, g5⟩ := giveBack_spec (s := w.s) (u := u') hlu he hget nd
  -- the k-th owner, and its address
  have lentO : ∀ {o : Own}, o ∈ os → ∃ k a v v', os[k]? = some o ∧ κ'[k]? = some a ∧ OwnAt κ w o a v ∧ (l.map (·.2))[k]? = some v ∧ u'[k]? = some v' ∧ (giveBack w.s l u').get o = some v' := fun {o} ho => by
    obtain ⟨k, hk⟩ := List.getElem?_of_mem ho
    have hkl : k < os.length := (List.getElem?_eq_some_iff.mp hk).1
    have hk' : k < κ'.length := by rw [ln.length, ← hlos]; exact hkl
    have hku : k < u'.length := by rw [hlu, ← hlos]; exact hkl
    obtain ⟨o', v, e3, e, q⟩ := R.lentAt ln he (List.getElem?_eq_getElem hk')
    rw [hk] at e; cases e
    exact ⟨k, _, v, _, hk, List.getElem?_eq_getElem hk', q, e3, List.getElem?_eq_getElem hku, g1 k o _ hk (List.getElem?_eq_getElem hku)⟩
  have same : ∀ {o : Own} {a : Addr} {v : M}, o ∉ os → OwnAt κ ⟨F', giveBack w.s l u', w.σ, H'⟩ o a v → OwnAt κ w o a v := fun {o a v} no q => by
    rw [own_iff] at q ⊢
    rw [← g2 o no]; exact q
  have lentQ : ∀ {o : Own} {a : Addr} {v : M}, o ∈ os → OwnAt κ ⟨F', giveBack w.s l u', w.σ, H'⟩ o a v → ∃ k v0, os[k]? = some o ∧ OwnAt κ' (lw F' u' H') (.inr k) a v ∧ OwnAt κ w o a v0 ∧ (l.map (·.2))[k]? = some v0 := fun {o a v} ho q => by
    obtain ⟨k, b, v0, v', e1, e2, q2, e4, e5, e6⟩ := lentO ho
    have q' := own_iff.mp q
    have q1 : (giveBack w.s l u').get o = some v := q'.1
    rw [e6] at q1; cases q1
    have q3 : adr κ w.σ o = some a := q'.2.2
    rw [(own_iff.mp q2).2.2] at q3; cases q3
    exact ⟨k, v0, e1, ⟨e5, q'.2.1, e2⟩, q2, e4⟩
  -- a thing that was not lent, stays
  have stay : ∀ {o : Own} {y : V} {v : M}, o ∉ os → (v.own = true → ∀ a, y = .ref a → OwnAt κ w o a v) → RelM K ad w.F w.H y v → RelM K ad F' H' y v := fun {o y v} no ho hm => hm.stay st.ff fun vo a vs e ha hf => by
    have q := ho vo a e
    have nobody : ∀ o' v', ¬ OwnAt κ' (lw w.F (l.map (·.2)) w.H) o' a v' := fun o' v' z => by
      obtain ⟨j, rfl, a1, a2, a3⟩ := own_lw z
      obtain ⟨o2, v2, _, e1, q2⟩ := R.lentAt ln he a3
      have := R.ap _ _ _ _ _ q q2
      subst this
      exact no (List.mem_of_getElem? e1)
    exact ⟨st.hk a _ ha (Stp.noMu nobody), st.noF (w := lw w.F (l.map (·.2)) w.H) ha hf nobody (fun z => z) (hm.own_nt vo e ha)⟩
  have muC : ∀ {a : Addr}, Mu κ' (lw w.F (l.map (·.2)) w.H) a → Mu κ w a := fun {a} ⟨o, v, q, m⟩ => by
    obtain ⟨j, rfl, a1, a2, a3⟩ := own_lw q
    obtain ⟨o2, v2, e3, e1, q2⟩ := R.lentAt ln he a3
    rw [a1] at e3; cases e3
    exact ⟨o2, v, q2, m⟩
  refine ⟨⟨R'.fh, ?_, ?_, fun i v hi => ?_, fun i j hj => R.rf i j ((g3 i j).mp hj), fun j v a hj ha => ?_, fun o o' a v v' q q' => ?_⟩,
    ⟨st.ff, st.dm, fun a o ha nm => st.hk a o ha fun m => nm (muC m), fun a o e => ?_, fun o a v q => ?_⟩, fun {x v} hx hf => ⟨hx.1, fun a t o v' q => ?_⟩⟩
  · show (giveBack w.s l u').r.length = _
    rw [g4]; exact R.len
  · show _ = (giveBack w.s l u').u.length
    rw [g5]; exact R.ul
  · have hi : (giveBack w.s l u').r[i]? = some (.m v) := hi
    have hg := get_inl.mpr hi
    by_cases ho : (.inl i : Own) ∈ os
    · obtain ⟨k, b, v0, v', e1, e2, q2, e4, e5, e6⟩ := lentO ho
      rw [hg] at e6; cases e6
      exact ⟨_, q2.2.2, R'.uo k v b e5 e2⟩
    · rw [g2 _ ho, get_inl] at hg
      obtain ⟨y, hy, hm⟩ := R.sl i v hg
      exact ⟨y, hy, stay ho (fun vo a e => by subst e; exact ⟨hg, vo, hy⟩) hm⟩
  · have hj : (giveBack w.s l u').get (.inr j) = some v := hj
    by_cases ho : (.inr j : Own) ∈ os
    · obtain ⟨k, b, v0, v', e1, e2, q2, e4, e5, e6⟩ := lentO ho
      rw [hj] at e6; cases e6
      have q3 : κ[j]? = some b := q2.2.2
      rw [ha] at q3; cases q3
      exact R'.uo k v a e5 e2
    · rw [g2 _ ho] at hj
      exact stay ho (fun vo b e => by cases e; exact ⟨hj, vo, ha⟩) (R.uo j v a hj ha)
  · by_cases ho : o ∈ os
    · obtain ⟨k, v0, e1, q1, q2, _⟩ := lentQ ho q
      by_cases ho' : o' ∈ os
      · obtain ⟨k', v0', e1', q1', q2', _⟩ := lentQ ho' q'
        exact R.ap _ _ _ _ _ q2 q2'
      · exact R.ap _ _ _ _ _ q2 (same ho' q')
    · by_cases ho' : o' ∈ os
      · obtain ⟨k', v0', e1', q1', q2', _⟩ := lentQ ho' q'
        exact R.ap _ _ _ _ _ (same ho q) q2'
      · exact R.ap _ _ _ _ _ (same ho q) (same ho' q')
  · rcases st.fn a o e with z | ⟨o', v', z⟩ | z | z
    · exact .inl z
    · obtain ⟨j, rfl, a1, a2, a3⟩ := own_lw z
      obtain ⟨o2, v2, _, e1, q2⟩ := R.lentAt ln he a3
      exact .inr (.inl ⟨_, _, q2⟩)
    · exact z.elim
    · exact .inr (.inr (.inr z))
  · by_cases ho : o ∈ os
    · obtain ⟨k, v0, e1, q1, q2, e3⟩ := lentQ ho q
      refine .inl ⟨v0, q2, fun m => ?_⟩
      rcases st.ow _ _ _ q1 with ⟨v1, z1, z2⟩ | z | z
      · have : (l.map (·.2))[k]? = some v1 := z1.1
        rw [e3] at this; cases this
        exact z2 m
      · exact z.elim
      · have z : w.H a = none := z
        obtain ⟨b, vs, e1, e2, _⟩ := (OwnAt.rel R q2).own_at (own_iff.mp q2).2.1
        cases e1; rw [z] at e2; cases e2
    · exact .inl ⟨v, same ho q, id⟩
  · by_cases ho : o ∈ os
    · obtain ⟨k, v0, e1, q1, q2, _⟩ := lentQ ho q
      exact hx.2 a t _ _ q1
    · have q2 := same ho q
      obtain ⟨b, vs, e1, e2, _⟩ := (OwnAt.rel R q2).own_at (own_iff.mp q2).2.1
      cases e1
      rw [hf a t] at e2; cases e2
end
end Ax
/-! A6: the operations, by data. -/
namespace Ax
open PySem PySem.Spec PyProof.Rows L2

/-! ### how deep data are -/
mutual
theorem dok_depth : ∀ {n : Nat} {d : D}, dok n d = true → d.depth ≤ n
  | n, .none, _ => by simp [PyData.depth]
  | n, .bool _, _ => by simp [PyData.depth]
  | n, .int _, _ => by simp [PyData.depth]
  | n, .str _, _ => by simp [PyData.depth]
  | 0, .list ds, h => by simp [dok] at h
  | 0, .tuple ds, h => by simp [dok] at h
  | n + 1, .list ds, h => by
    rw [PyData.depth]
    have := dok_depthAll (ds := ds) (n := n) (by simpa [dok] using h)
    omega
  | n + 1, .tuple ds, h => by
    rw [PyData.depth]
    have := dok_depthAll (ds := ds) (n := n) (by simpa [dok] using h)
    omega
  | 0, .dict _, h => by simp [dok] at h
  | n + 1, .dict _, h => by simp [dok] at h
theorem dok_depthAll : ∀ {n : Nat} {ds : List D}, dokAll n ds = true → PyData.depthAll ds ≤ n
  | n, [], _ => by simp [PyData.depthAll]
  | n, d :: ds, h => by
    rw [dokAll, Bool.and_eq_true] at h
    rw [PyData.depthAll]
    have h1 := dok_depth h.1
    have h2 := dok_depthAll h.2
    omega
end
theorem line_eq : sizeLine = line := sizeLine_eq

theorem le_none {F H : Hp} (l : Le F H) {p : Addr} (hp : H p = none) : F p = none := by
  cases q : F p with
  | none => rfl
  | some z => rw [l p z q] at hp; cases hp
/-! ### a result is handed on -/
/-- Q is told of a value that stands for m: it lies there already, or is a new thing -/
def Dlv (K : PySem.W.Frag) (ad : Nat → Addr) (F H : Hp) (m : M) (Q : VK) : Prop :=
  (m.own = false → ∀ v, RelM K ad F H v m → Q v H) ∧ (∀ p o, H p = none →
    (m.own = false → ∀ v, RelM K ad (upd F p o) (upd H p o) v m → Q v (upd H p o)) ∧ (m.own = true → RelM K ad F (upd H p o) (.ref p) m → Q (.ref p) (upd H p o)))
section
variable {K : PySem.W.Frag} {ad : Nat → Addr} {κ : List Addr} {w w0 : Wd} {F H : Hp}
theorem Rel.nof (R : Rel K ad κ w) {p : Addr} (hp : w.H p = none) : w.F p = none := by
  cases q : w.F p with
  | none => rfl
  | some z => rw [R.fh p z q] at hp; cases hp
theorem Rel.noOwn (R : Rel K ad κ w) {p : Addr} (hp : w.H p = none) (o : Own) (v : M) : ¬ OwnAt κ w o p v := fun q => by
  obtain ⟨b, vs, e1, e2, _⟩ := (OwnAt.rel R q).own_at (own_iff.mp q).2.1
  cases e1; rw [hp] at e2; cases e2
theorem Rel.deliver {m : M} {Q : VK} (R : Rel K ad κ w) (st : Stp κ noT w0 w)
    (h : ∀ F' H' v, Rel K ad κ ⟨F', w.s, w.σ, H'⟩ → Stp κ noT w0 ⟨F', w.s, w.σ, H'⟩ → RvOk K ad κ ⟨F', w.s, w.σ, H'⟩ v (.m m) → Fresh w0.H v (.m m) → Q v H') : Dlv K ad w.F w.H m Q := by
  refine ⟨fun o v hm => h w.F w.H v R st ⟨hm, fun a t => by rw [t.1] at o; cases o⟩ (fun a t => by rw [t.1] at o; cases o), fun p u hp => ⟨fun o v hm => ?_, fun o hm => ?_⟩⟩
  · obtain ⟨R1, st1, _⟩ := R.newF (u := u) hp
    exact h _ _ v R1 (st.tr st1) ⟨hm, fun a t => by rw [t.1] at o; cases o⟩ fun a t => by rw [t.1] at o; cases o
  · have R1 := R.new (u := u) hp
    refine h _ _ _ R1 (st.tr (Stp.new hp)) ⟨hm, fun a t o' v' q => ?_⟩ fun a t => ?_
    · obtain ⟨_, e⟩ := t
      cases e
      have q' : OwnAt κ w o' p v' := by cases o' <;> exact q
      exact R.noOwn hp o' v' q'
    · obtain ⟨_, e⟩ := t
      cases e
      exact st.dm p hp
variable {Q : VK}
theorem Dlv.atom {d : D} {v : V} (h : Dlv K ad F H (.fro d) Q) (r : RepD K F v d) : Q v H := h.1 rfl v r
theorem Dlv.int {i : Int} (h : Dlv K ad F H (.fro (.int i)) Q) : Q (.int i) H := h.atom (.int i)
theorem Dlv.bl {b : Bool} (h : Dlv K ad F H (.fro (.bool b)) Q) : Q (.bl b) H := h.atom (.bl b)
theorem Dlv.str {z : Str} (h : Dlv K ad F H (.fro (.str z)) Q) : Q (.str z) H := h.atom (.str z)
theorem Dlv.lst {ds : List D} {vs : List V} (h : Dlv K ad F H (.lst ds) Q) (l : Le F H) (r : RepAll K F vs ds) (p : Addr) (hp : H p = none) : Q (.ref p) (upd H p (.lst vs)) :=
  (h.2 p _ hp).2 rfl ⟨p, vs, rfl, upd_same, le_none l hp, r⟩
theorem Dlv.tup {ds : List D} {vs : List V} (h : Dlv K ad F H (.fro (.tuple ds)) Q) (l : Le F H) (r : RepAll K F vs ds) (p : Addr) (hp : H p = none) : Q (.ref p) (upd H p (.tup vs)) :=
  (h.2 p (.tup vs) hp).1 rfl _ (.tup upd_same (r.mono (le_upd (le_none l hp))))
end

/-! ### a tuple once -/
section
open PySem.SeqAt
open PySem.AutoSeq1 (wpAny_loadPart')
theorem tuple_times1 (l : Addr) (items : Array Value) (n : Nat) (dd : Option Addr) (sl : Array (Option Value)) (u : Tok) :
    Meets (Builtin.«tuple.__mul__» ⟨[.ref l, .int 1 u], []⟩) (fun _ R s => s.heap.get? l = some { cls := .type "tuple", dict := dd, data := .seq items n, slots := sl } ∧ R (.ok (.ret (Value.ref l))) s) :=
  .of_wp fun prog w A R s h => by
    obtain ⟨hp, g, d, tk, os⟩ := s
    obtain ⟨hl, h⟩ := h
    have f1 := AutoSeq1.idx_int
    have c1 : (items.isEmpty || (1 : Int) == 1) = true := by simp
    wp_walk using wpAny_loadPart' hl
    exact ⟨_, rfl, h⟩
theorem op_once {X : Cx} : OpR X (binaryOp .Mult) (fun x y H Q => ∃ l xs, x = .ref l ∧ y = .int 1 ∧ SqT X.K H l xs ∧ Q (.ref l) H) := by
  intro pins s σ H x y v u Q I rx ry h
  obtain ⟨l, xs, rfl, rfl, hT, q⟩ := h
  obtain rfl : v = Value.ref l := rx
  obtain ⟨t, rfl⟩ := ry
  obtain ⟨its, r, ⟨⟨cls, dd, data, sl⟩, ho, hc, n, hd⟩, hs⟩ := I.tuple hT
  simp only at hc hd
  subst hc hd
  exact wpAny_binaryOp_repeat_ref (T := "tuple") (U := "int") (by decide) ⟨_, ho, rfl⟩ (fun s' => typeIs_int s' 1 t) noFill_tuple_mul F.fills_int_mul F.slot_int_rmul repeat_tuple F.slot_int_index.lookup
    (call_meets F.slot_int_rmul (typeIs_int s 1 t) F.entry_int_rmul (F.args_int_rmul_2 _ _) (int_rmul_tuple 1 t l its.toArray n dd sl)
      ⟨ho, rfl, ⟨_, ho, rfl⟩, call_meets F.slot_tuple_mul ⟨_, ho, rfl⟩ F.entry_tuple_mul (F.args_tuple_mul_2 _ _) (tuple_times1 l its.toArray n dd sl t) ⟨ho, ⟨.ref l, H, I, rfl, q⟩⟩⟩)
end
/-! ### the operators -/
section
variable {X : Cx} {ad : Nat → Addr}
/-- lists for + and * lie strictly in the heap -/
def StrictL (K : PySem.W.Frag) (F H : Hp) (x : V) (d : D) : Prop := ∀ ds, d = .list ds → ∃ a vs, x = .ref a ∧ H a = some (.lst vs) ∧ RepAll K F vs ds
def rBin (K : PySem.W.Frag) (ad : Nat → Addr) (op : Operator) : R2 := fun x y H Q => ∃ F d e m, Le F H ∧ View K F H x d ∧ View K F H y e ∧ StrictL K F H x d ∧ StrictL K F H y e ∧ binD op d e = some m ∧ Dlv K ad F H m Q
theorem cat_nil {K : PySem.W.Frag} {F : Hp} {vs : List V} {ds : List D} (r : RepAll K F vs ds) : vs = [] ↔ ds = [] := by
  constructor
  · intro e; subst e; cases r; rfl
  · intro e; subst e; cases r; rfl
theorem op_bin (op : Operator) : OpR X (binaryOp op) (rBin X.K ad op) := by
  intro pins s σ H x y v u Q I rx ry h
  obtain ⟨F, d, e, m, l, hx, hy, sx, sy, hb, q⟩ := h
  unfold binD at hb
  split at hb
  · cases hb
    cases hx; cases hy
    exact op_add pins s σ H _ _ v u Q I rx ry ⟨_, _, rfl, rfl, q.int⟩
  · rename_i a b
    cases hx; cases hy
    split at hb
    · rename_i hz
      cases hb
      exact op_add_str pins s σ H _ _ v u Q I rx ry ⟨_, _, rfl, rfl, by rw [line_eq]; exact hz, q.str⟩
    · cases hb
  · rename_i a b
    split at hb
    · rename_i hz
      cases hb
      obtain ⟨p, vs, rfl, h1, h2⟩ := hx
      obtain ⟨p', vs', rfl, h1', h2'⟩ := hy
      refine op_catA pins s σ H _ _ v u Q I rx ry ⟨p, p', vs, vs', rfl, rfl, l.tupT h1, l.tupT h1', by rw [h2.length, h2'.length, line_eq]; exact hz, fun e => ?_, fun e e' => ?_, fun e e' p hp => ?_⟩
      · subst e; cases h2
        exact q.1 rfl _ (.tup h1' h2')
      · subst e'; cases h2'
        rw [List.append_nil] at q
        exact q.1 rfl _ (.tup h1 h2)
      · exact q.tup l (h2.append h2') p hp
    · cases hb
  · rename_i a b
    split at hb
    · rename_i hz
      cases hb
      obtain ⟨p, vs, rfl, h1, h2⟩ := sx _ rfl
      obtain ⟨p', vs', rfl, h1', h2'⟩ := sy _ rfl
      exact op_cat pins s σ H _ _ v u Q I rx ry ⟨p, p', vs, vs', rfl, rfl, h1, h1', by rw [h2.length, h2'.length, line_eq]; exact hz, fun p hp => q.lst l (h2.append h2') p hp⟩
    · cases hb
  · cases hb
    cases hx; cases hy
    exact op_sub pins s σ H _ _ v u Q I rx ry ⟨_, _, rfl, rfl, q.int⟩
  · rename_i a b
    cases hx; cases hy
    split at hb
    · rename_i hz
      cases hb
      rcases hz with hz | hz | ⟨h1, h2⟩
      · exact op_mul pins s σ H _ _ v u Q I rx ry ⟨_, _, rfl, rfl, .inl (by omega), q.int⟩
      · exact op_mul pins s σ H _ _ v u Q I rx ry ⟨_, _, rfl, rfl, .inr (by omega), q.int⟩
      · exact op_mulW pins s σ H _ _ v u Q I rx ry ⟨_, _, rfl, rfl, wide_mul h1 h2 (by decide) (by decide) (by decide), q.int⟩
    · cases hb
  · rename_i a b
    cases hy
    split at hb
    · rename_i hz
      cases hb
      obtain ⟨p, vs, rfl, h1, h2⟩ := sx _ rfl
      have hz1 : b ≤ 16777216 := by have := hz.1; omega
      have hz0 : -(2 ^ 62) ≤ b := by have := hz.1; omega
      exact op_rep pins s σ H _ _ v u Q I rx ry ⟨p, b, vs, rfl, rfl, h1, by omega, by omega, by rw [h2.length, line_eq]; exact hz.2, fun p hp => q.lst l (h2.rep _) p hp⟩
    · cases hb
  · rename_i a b
    cases hy
    split at hb
    · rename_i hz
      cases hb
      obtain ⟨p, vs, rfl, h1, h2⟩ := hx
      have ne : vs ≠ [] := fun e => hz.2.2.1 ((cat_nil h2).mp e)
      by_cases e1 : b = 1
      · subst e1
        have e2 : (List.replicate (1 : Int).toNat a).flatten = a := by simp
        rw [e2] at q
        exact op_once pins s σ H _ _ v u Q I rx ry ⟨p, vs, rfl, rfl, l.tupT h1, q.1 rfl _ (.tup h1 h2)⟩
      have hz2 := hz.1
      exact op_repT pins s σ H _ _ v u Q I rx ry ⟨p, b, vs, rfl, rfl, l.tupT h1, ne, by omega, hz.2.1, by rw [h2.length]; exact hz.2.2.2, fun p hp => q.tup l (h2.rep _) p hp⟩
    · cases hb
  · rename_i a b
    cases hx; cases hy
    split at hb
    · rename_i hz
      cases hb
      exact op_fdiv pins s σ H _ _ v u Q I rx ry ⟨_, _, rfl, rfl, ⟨hz.1, by have := hz.2; omega⟩, q.int⟩
    · cases hb
  · rename_i a b
    cases hx; cases hy
    split at hb
    · rename_i hz
      cases hb
      exact op_mod pins s σ H _ _ v u Q I rx ry ⟨_, _, rfl, rfl, hz, q.int⟩
    · cases hb
  · rename_i a b
    cases hx; cases hy
    split at hb
    · rename_i hz
      cases hb
      obtain ⟨t, rfl⟩ := rx
      obtain ⟨t', rfl⟩ := ry
      have hi : Builtin.Int.intBits a ≤ 4000 := PySem.intBits_le_iff.mpr hz.2.2
      refine pow_int hz.1 ?_ ⟨.int _, H, I.tok _, ⟨_, rfl⟩, q.int⟩
      have h1 : (Builtin.Int.intBits a : Int) ≤ 4000 := by exact_mod_cast hi
      have h2 : (0 : Int) ≤ (Builtin.Int.intBits a : Int) := Int.natCast_nonneg _
      calc (Builtin.Int.intBits a : Int) * b ≤ 4000 * 1000 := Int.mul_le_mul h1 hz.2.1 hz.1 (by decide)
        _ ≤ 2 ^ 27 := by decide
    · cases hb
  · cases hb

/-! ### comparisons -/
def rCmp (K : PySem.W.Frag) (op : CmpOp) : R2 := fun x y H Q => ∃ F d e b, Le F H ∧ View K F H x d ∧ View K F H y e ∧ cmpD op d e = some b ∧ Q (.bl b) H
theorem dmin {a b n : Nat} (h : a ≤ n ∨ b ≤ n) : min a b ≤ n := by omega
theorem deps {d e : D} (h : (dok 50 d || dok 50 e) = true) : min d.depth e.depth ≤ 50 := by
  rw [Bool.or_eq_true] at h
  exact dmin (h.imp dok_depth dok_depth)
theorem op_cmp (hu : X.A.units + 64 < cLine) (op : CmpOp) : OpR X (compareOp op) (rCmp X.K op) := by
  intro pins s σ H x y v u Q I rx ry h
  obtain ⟨F, d, e, b, l, hx, hy, hb, q⟩ := h
  obtain ⟨as, ra⟩ := Dp.reads I d x v (hx.dp l) rx
  obtain ⟨bs, rb⟩ := Dp.reads I e y u (hy.dp l) ry
  have px := hx.plain
  have py := hy.plain
  unfold cmpD at hb
  split at hb
  · split at hb
    · rename_i hd
      cases hb
      have := deps hd
      exact PySem.SeqAt.eq_plain ra rb px py (by omega) ⟨.bl _, H, I, rfl, q⟩
    · cases hb
  · split at hb
    · rename_i hd
      cases hb
      have := deps hd
      exact PySem.SeqAt.ne_plain ra rb px py (by omega) ⟨.bl _, H, I, rfl, q⟩
    · cases hb
  · cases hb; cases hx; cases hy
    exact op_lt pins s σ H _ _ v u Q I rx ry ⟨_, _, rfl, rfl, q⟩
  · cases hb; cases hx; cases hy
    exact op_le pins s σ H _ _ v u Q I rx ry ⟨_, _, rfl, rfl, q⟩
  · cases hb; cases hx; cases hy
    exact op_gt pins s σ H _ _ v u Q I rx ry ⟨_, _, rfl, rfl, q⟩
  · cases hb; cases hx; cases hy
    exact op_ge pins s σ H _ _ v u Q I rx ry ⟨_, _, rfl, rfl, q⟩
  · rename_i a b
    split at hb
    · rename_i hd
      cases hb
      rw [Bool.and_eq_true] at hd
      have h1 := dok_depth hd.1
      exact PySem.W.rcLt_alike _ _ X.A s v u as bs ra rb hd.2 (fun z => nomatch z) (by omega) X.prog X.w _ _ ⟨.bl _, H, I, rfl, q⟩
    · cases hb
  · split at hb
    · rename_i hd
      cases hb
      have h1 := dok_depth hd
      exact PySem.SeqAt.in_list_data rb ra (by rw [PyData.plain] at py; exact py) px (by omega) ⟨.bl _, H, I, rfl, q⟩
    · cases hb
  · split at hb
    · rename_i hd
      cases hb
      have h1 := dok_depth hd
      exact PySem.SeqAt.in_tuple_data rb ra (by rw [PyData.plain] at py; exact py) px (by omega) ⟨.bl _, H, I, rfl, q⟩
    · cases hb
  · split at hb
    · rename_i hd
      cases hb
      have h1 := dok_depth hd
      exact PySem.SeqAt.notIn_list_data rb ra (by rw [PyData.plain] at py; exact py) px (by omega) ⟨.bl _, H, I, rfl, q⟩
    · cases hb
  · split at hb
    · rename_i hd
      cases hb
      have h1 := dok_depth hd
      exact PySem.SeqAt.notIn_tuple_data rb ra (by rw [PyData.plain] at py; exact py) px (by omega) ⟨.bl _, H, I, rfl, q⟩
    · cases hb
  · cases hb; cases hx; cases hy
    exact op_isBl pins s σ H _ _ v u Q I rx ry ⟨_, _, rfl, rfl, q⟩
  · cases hb; cases hx; cases hy
    exact op_notBl pins s σ H _ _ v u Q I rx ry ⟨_, _, rfl, rfl, q⟩
  · cases hb

/-! ### items, slices -/
theorem nthD_atI {α : Type} {xs : List α} {i : Int} : nthD xs i = atI xs i := by
  unfold nthD atI ixN
  by_cases h0 : 0 ≤ i
  · rw [if_pos h0, if_pos h0]
    by_cases h1 : i < (xs.length : Int)
    · rw [if_pos h1]; rfl
    · rw [if_neg h1]
      show xs[i.toNat]? = none
      rw [List.getElem?_eq_none_iff]; omega
  · rw [if_neg h0, if_neg h0]
    by_cases h1 : -(xs.length : Int) ≤ i
    · rw [if_pos h1, if_pos h1]
      show _ = xs[(i + (xs.length : Int)).toNat]?
      rw [Int.add_comm]
    · rw [if_neg h1, if_neg h1]; rfl
theorem RepAll.nth {K : PySem.W.Frag} {F : Hp} {vs : List V} {ds : List D} (r : RepAll K F vs ds) {i : Int} {d : D} (h : nthD ds i = some d) : ∃ v, atI vs i = some v ∧ RepD K F v d := by
  rw [← nthD_atI]
  unfold nthD at h ⊢
  by_cases h0 : 0 ≤ i
  · rw [if_pos h0] at h ⊢
    exact r.get h
  · rw [if_neg h0] at h ⊢
    rw [r.length]
    by_cases h1 : -(ds.length : Int) ≤ i
    · rw [if_pos h1] at h ⊢
      exact r.get h
    · rw [if_neg h1] at h; cases h
def rItem (K : PySem.W.Frag) (ad : Nat → Addr) : R2 := fun x y H Q => ∃ F d e z, Le F H ∧ View K F H x d ∧ View K F H y e ∧ ixD d e = some z ∧ Dlv K ad F H (.fro z) Q
theorem ix_item : IxR X (rItem X.K ad) := by
  intro ve se pins s σ H x y v u Q I rx ry h hs
  obtain ⟨F, d, e, z, l, hx, hy, hz, q⟩ := h
  unfold ixD at hz
  split at hz
  · cases hy
    obtain ⟨p, vs, rfl, h1, h2⟩ := hx
    obtain ⟨x, e1, e2⟩ := h2.nth hz
    exact ix_list ve se pins s σ H _ _ v u Q I rx ry ⟨p, vs, _, x, rfl, rfl, h1, e1, q.atom e2⟩ hs
  · cases hy
    obtain ⟨p, vs, rfl, h1, h2⟩ := hx
    obtain ⟨x, e1, e2⟩ := h2.nth hz
    exact ix_tup ve se pins s σ H _ _ v u Q I rx ry ⟨p, vs, _, x, rfl, rfl, l.tupT h1, e1, q.atom e2⟩ hs
  · cases hz
theorem RepAll.cut {K : PySem.W.Frag} {F : Hp} {vs : List V} {ds : List D} (r : RepAll K F vs ds) (lo hi : Option Int) : RepAll K F (cutV vs lo hi) (cutD ds lo hi) := by
  unfold cutV cutD
  rw [r.length]
  exact (r.drop _).take _
theorem cut_all {α : Type} {ds : List α} {lo hi : Option Int} (h : HT.sIx ds.length 0 lo = 0 ∧ HT.sIx ds.length ds.length hi = ds.length) : cutD ds lo hi = ds := by
  unfold cutD
  rw [h.1, h.2, List.drop_zero, Nat.sub_zero, List.take_length]
def rCut (K : PySem.W.Frag) (ad : Nat → Addr) : V → Option Int → Option Int → Hp → VK → Prop := fun x lo hi H Q => ∃ F d m, Le F H ∧ View K F H x d ∧ slD d lo hi = some m ∧ Dlv K ad F H m Q
theorem sl_cut : SlR X (rCut X.K ad) := by
  intro pins s σ H x v vl vu lo hi sl Q I rx hs pl pu h
  obtain ⟨F, d, m, l, hx, hm, q⟩ := id h
  unfold slD at hm
  split at hm
  · cases hm
    obtain ⟨p, vs, rfl, h1, h2⟩ := hx
    exact sl_list pins s σ H _ v vl vu lo hi sl Q I rx hs pl pu ⟨p, vs, rfl, h1, fun p hp => q.lst l (h2.cut lo hi) p hp⟩
  · cases hm
    obtain ⟨p, vs, rfl, h1, h2⟩ := hx
    refine sl_tupA pins s σ H _ v vl vu lo hi sl Q I rx hs pl pu ⟨p, vs, rfl, l.tupT h1, fun e => ?_, fun e p hp => q.tup l (h2.cut lo hi) p hp⟩
    rw [h2.length] at e
    rw [cut_all e] at q
    exact q.1 rfl _ (.tup h1 h2)
  · cases hm

/-! ### built-in functions -/
def Views (K : PySem.W.Frag) (F H : Hp) : List V → List D → Prop
  | [], [] => True
  | x :: xs, d :: ds => View K F H x d ∧ Views K F H xs ds
  | _, _ => False
def rBi (K : PySem.W.Frag) (ad : Nat → Addr) (b : Bi) : List V → Hp → VK → Prop := fun xs H Q => ∃ F ds m, Le F H ∧ Views K F H xs ds ∧ biD b ds = some m ∧ Dlv K ad F H m Q
def biF : Bi → Value
  | .len => .builtin "len" | .tuple => .type "tuple" | .list => .type "list" | .all => .builtin "all" | .any => .builtin "any" | .min2 => .builtin "min" | .max2 => .builtin "max" | .abs => .builtin "abs" | .int => .type "int" | .repr => .builtin "repr"
theorem views1 {K : PySem.W.Frag} {F H : Hp} {xs : List V} {d : D} (h : Views K F H xs [d]) : ∃ x, xs = [x] ∧ View K F H x d := by
  cases xs with
  | nil => exact h.elim
  | cons x xs =>
    cases xs with
    | nil => exact ⟨x, rfl, h.1⟩
    | cons y ys => exact h.2.elim
theorem views2 {K : PySem.W.Frag} {F H : Hp} {xs : List V} {d e : D} (h : Views K F H xs [d, e]) : ∃ x y, xs = [x, y] ∧ View K F H x d ∧ View K F H y e := by
  cases xs with
  | nil => exact h.elim
  | cons x xs =>
    obtain ⟨y, rfl, h2⟩ := views1 h.2
    exact ⟨x, y, rfl, h.1, h2⟩
mutual
theorem plain_noDict : ∀ {d : D}, d.plain = true → d.hasDict = false
  | .none, _ => by simp [PyData.hasDict]
  | .bool _, _ => by simp [PyData.hasDict]
  | .int _, _ => by simp [PyData.hasDict]
  | .str _, _ => by simp [PyData.hasDict]
  | .list ds, h => by rw [PyData.hasDict]; exact plain_noDictAll (by rw [PyData.plain] at h; exact h)
  | .tuple ds, h => by rw [PyData.hasDict]; exact plain_noDictAll (by rw [PyData.plain] at h; exact h)
  | .dict _, h => by simp [PyData.plain] at h
theorem plain_noDictAll : ∀ {ds : List D}, PyData.plainAll ds = true → PyData.hasDictAll ds = false
  | [], _ => by simp [PyData.hasDictAll]
  | d :: ds, h => by
    rw [PyData.plainAll, Bool.and_eq_true] at h
    rw [PyData.hasDictAll, plain_noDict h.1, plain_noDictAll h.2]; rfl
end
theorem repr_data (hg : X.A.guards = some []) (hu : X.A.units + 64 < cLine) {pins : List (Addr × Obj)} {s : Shared} {σ : L2.St} {H : Hp} {x : V} {v : Value} {Q : VK} {d : D} (I : Inv X pins σ H s) (rx : RelV x v) (hd : Dp X.K H x d) (hp : d.plain = true)
    (h1 : d.depth ≤ 50) (h2 : d.showable = true) (h3 : d.shown.length ≤ sizeLine) (q : Q (.str d.shown) H) : wpAny (model X.prog X.w) X.A (call (.builtin "repr") [v]) (EP X pins σ Q) X.xe s := by
  obtain ⟨as, ra⟩ := Dp.reads I d x v hd rx
  have fin : ∀ a, v = .ref a → wpAny (model X.prog X.w) X.A (call (.builtin "repr") [v]) (EP X pins σ Q) X.xe s := fun a e => by
    subst e
    refine repr_of_reads' ra h2 (fun z => ?_) hg (by omega) (fun _ _ e => e) (fun h' u tk hk => ?_) h3
    · rw [plain_noDict hp] at z; cases z
    · exact ⟨.str d.shown, H, I.kept hk, ⟨_, rfl⟩, q⟩
  cases ra with
  | list h _ _ _ => exact fin _ rfl
  | tuple h _ _ _ => exact fin _ rfl
  | none => exact PySem.P.repr_of_none ⟨.str _, H, I.tok _, ⟨_, rfl⟩, by simpa [PyData.shown] using q⟩
  | bool b => exact PySem.P.repr_of_bool ⟨.str _, H, I.tok _, ⟨_, rfl⟩, by simpa [PyData.shown] using q⟩
  | int i t => exact PySem.P.repr_of_int (by simpa [PyData.showable] using h2) ⟨.str _, H, I.tok _, ⟨_, rfl⟩, by simpa [PyData.shown] using q⟩
  | str z t => exact PySem.P.repr_of_str ⟨.str _, H, I.tok _, ⟨_, rfl⟩, by simpa [PyData.shown] using q⟩ (by simpa [PyData.shown] using h3)
  | dict _ _ _ _ => simp [PyData.plain] at hp
theorem cr_bi (hc : X.calm = true) (hu : X.A.units + 64 < cLine) (hg : X.A.guards = some []) (b : Bi) : CallR X (biF b) (rBi X.K ad b) := by
  intro pins s σ H xs us Q I r h
  obtain ⟨F, ds, m, l, hx, hm, q⟩ := h
  unfold biD at hm
  split at hm
  · cases hm
    obtain ⟨x, rfl, p, vs, rfl, h1, h2⟩ := views1 hx
    exact call_len_seq pins s σ H _ us Q I r ⟨p, vs, rfl, .inl h1, by rw [h2.length]; exact q.int⟩
  · cases hm
    obtain ⟨x, rfl, p, vs, rfl, h1, h2⟩ := views1 hx
    exact call_len_seq pins s σ H _ us Q I r ⟨p, vs, rfl, .inr (l.tupT h1), by rw [h2.length]; exact q.int⟩
  · cases hm
    obtain ⟨x, rfl, p, vs, rfl, h1, h2⟩ := views1 hx
    exact call_tuple_of pins s σ H _ us Q I r ⟨p, vs, rfl, .inl ⟨h1, fun p hp => q.tup l h2 p hp⟩⟩
  · cases hm
    obtain ⟨x, rfl, p, vs, rfl, h1, h2⟩ := views1 hx
    exact call_tuple_of pins s σ H _ us Q I r ⟨p, vs, rfl, .inr ⟨l.tupT h1, q.1 rfl _ (.tup h1 h2)⟩⟩
  · cases hm
    obtain ⟨x, rfl, p, vs, rfl, h1, h2⟩ := views1 hx
    exact call_list_of pins s σ H _ us Q I r ⟨p, vs, rfl, .inl h1, fun p hp => q.lst l h2 p hp⟩
  · cases hm
    obtain ⟨x, rfl, p, vs, rfl, h1, h2⟩ := views1 hx
    exact call_list_of pins s σ H _ us Q I r ⟨p, vs, rfl, .inr (l.tupT h1), fun p hp => q.lst l h2 p hp⟩
  · obtain ⟨bs, hb, e⟩ := Option.map_eq_some_iff.mp hm
    cases e
    obtain ⟨x, rfl, p, vs, rfl, h1, h2⟩ := views1 hx
    rw [boolsD_eq hb] at h2
    rw [h2.bools_of] at h1
    exact cr_all hc pins s σ H _ us Q I r ⟨p, bs, rfl, h1, q.bl⟩
  · obtain ⟨bs, hb, e⟩ := Option.map_eq_some_iff.mp hm
    cases e
    obtain ⟨x, rfl, p, vs, rfl, h1, h2⟩ := views1 hx
    rw [boolsD_eq hb] at h2
    rw [h2.bools_of] at h1
    exact cr_any hc pins s σ H _ us Q I r ⟨p, bs, rfl, h1, q.bl⟩
  · cases hm
    obtain ⟨x, y, rfl, e1, e2⟩ := views2 hx
    cases e1; cases e2
    exact call_min2 hc pins s σ H _ us Q I r ⟨_, _, rfl, q.int⟩
  · cases hm
    obtain ⟨x, y, rfl, e1, e2⟩ := views2 hx
    cases e1; cases e2
    exact call_max2 hc pins s σ H _ us Q I r ⟨_, _, rfl, q.int⟩
  · cases hm
    obtain ⟨x, rfl, e1⟩ := views1 hx
    cases e1
    exact call_abs pins s σ H _ us Q I r ⟨_, rfl, q.int⟩
  · cases hm
    obtain ⟨x, rfl, e1⟩ := views1 hx
    cases e1
    exact call_int1 pins s σ H _ us Q I r (.inl ⟨_, rfl, q.int⟩)
  · split at hm
    · rename_i hd
      cases hm
      obtain ⟨x, rfl, e1⟩ := views1 hx
      obtain ⟨u, rfl, ru⟩ := r.one
      exact repr_data hg hu I ru (e1.dp l) e1.plain (dok_depth hd.1) hd.2.1 (by rw [line_eq]; exact hd.2.2) q.str
    · cases hm
  · cases hm

/-! ### sorted -/
theorem ty_pr {a b : Ty} {d : D} (h : hasTy (.pr a b) d = true) : ∃ x y, d = .tuple [x, y] ∧ hasTy a x = true ∧ hasTy b y = true := by
  cases d with
  | tuple ds =>
    match ds, h with
    | [x, y], h => exact ⟨x, y, rfl, by simpa [hasTy] using h⟩
    | [], h => simp [hasTy] at h
    | [_], h => simp [hasTy] at h
    | _ :: _ :: _ :: _, h => simp [hasTy] at h
  | _ => simp [hasTy] at h
theorem ty_tr {a b c : Ty} {d : D} (h : hasTy (.tr a b c) d = true) : ∃ x y z, d = .tuple [x, y, z] ∧ hasTy a x = true ∧ hasTy b y = true ∧ hasTy c z = true := by
  cases d with
  | tuple ds =>
    match ds, h with
    | [x, y, z], h => exact ⟨x, y, z, rfl, by simpa [hasTy, and_assoc] using h⟩
    | [], h => simp [hasTy] at h
    | [_], h => simp [hasTy] at h
    | [_, _], h => simp [hasTy] at h
    | _ :: _ :: _ :: _ :: _, h => simp [hasTy] at h
  | _ => simp [hasTy] at h
theorem ty_seq {a : Ty} {d : D} (h : hasTy (.seq a) d = true) : ∃ ds, d = .tuple ds ∧ ds.all (hasTy a) = true := by
  cases d with
  | tuple ds => exact ⟨ds, rfl, by simpa [hasTy] using h⟩
  | _ => simp [hasTy] at h
theorem all_alike {t : Ty} (ih : ∀ {d e : D}, hasTy t d = true → hasTy t e = true → PySem.W.alike d e = true) : ∀ {ds es : List D}, ds.all (hasTy t) = true → es.all (hasTy t) = true → PySem.W.alikeAll ds es = true
  | [], es, _, _ => by cases es <;> simp [PySem.W.alikeAll]
  | d :: ds, [], _, _ => by simp [PySem.W.alikeAll]
  | d :: ds, e :: es, h, h' => by
    rw [List.all_cons, Bool.and_eq_true] at h h'
    rw [PySem.W.alikeAll, ih h.1 h'.1, all_alike ih h.2 h'.2]; rfl
theorem ty_alike : ∀ {t : Ty} {d e : D}, hasTy t d = true → hasTy t e = true → PySem.W.alike d e = true
  | .int, d, e, h, h' => by
    cases d <;> simp [hasTy] at h
    cases e <;> simp [hasTy] at h'
    simp [PySem.W.alike]
  | .str, d, e, h, h' => by
    cases d <;> simp [hasTy] at h
    cases e <;> simp [hasTy] at h'
    simp [PySem.W.alike]
  | .seq t, d, e, h, h' => by
    obtain ⟨ds, rfl, h1⟩ := ty_seq h
    obtain ⟨es, rfl, h2⟩ := ty_seq h'
    rw [PySem.W.alike]
    exact all_alike (fun a b => ty_alike a b) h1 h2
  | .pr a b, d, e, h, h' => by
    obtain ⟨x, y, rfl, h1, h2⟩ := ty_pr h
    obtain ⟨x', y', rfl, h1', h2'⟩ := ty_pr h'
    rw [PySem.W.alike, PySem.W.alikeAll, PySem.W.alikeAll, PySem.W.alikeAll, ty_alike h1 h1', ty_alike h2 h2']; rfl
  | .tr a b c, d, e, h, h' => by
    obtain ⟨x, y, z, rfl, h1, h2, h3⟩ := ty_tr h
    obtain ⟨x', y', z', rfl, h1', h2', h3'⟩ := ty_tr h'
    rw [PySem.W.alike, PySem.W.alikeAll, PySem.W.alikeAll, PySem.W.alikeAll, PySem.W.alikeAll, ty_alike h1 h1', ty_alike h2 h2', ty_alike h3 h3']; rfl
theorem dAll_le {n : Nat} : ∀ {ds : List D}, (∀ d ∈ ds, d.depth ≤ n) → PyData.depthAll ds ≤ n
  | [], _ => by simp [PyData.depthAll]
  | d :: ds, h => by
    rw [PyData.depthAll]
    have h1 := h d List.mem_cons_self
    have h2 := dAll_le fun e he => h e (List.mem_cons_of_mem _ he)
    omega
theorem ty_depth : ∀ {t : Ty} {d : D}, hasTy t d = true → d.depth ≤ tyDep t
  | .int, d, h => by cases d <;> simp [hasTy] at h; simp [PyData.depth]
  | .str, d, h => by cases d <;> simp [hasTy] at h; simp [PyData.depth]
  | .seq t, d, h => by
    obtain ⟨ds, rfl, h1⟩ := ty_seq h
    rw [PyData.depth, tyDep]
    have := dAll_le fun d hd => ty_depth (t := t) (List.all_eq_true.mp h1 d hd)
    omega
  | .pr a b, d, h => by
    obtain ⟨x, y, rfl, h1, h2⟩ := ty_pr h
    have q1 := ty_depth h1
    have q2 := ty_depth h2
    simp only [PyData.depth, PyData.depthAll, tyDep]
    omega
  | .tr a b c, d, h => by
    obtain ⟨x, y, z, rfl, h1, h2, h3⟩ := ty_tr h
    have q1 := ty_depth h1
    have q2 := ty_depth h2
    have q3 := ty_depth h3
    simp only [PyData.depth, PyData.depthAll, tyDep]
    omega
theorem ty_sortable {t : Ty} {ds : List D} (h : ds.all (fun d => hasTy t d && full d) = true) : PySem.W.Sortable ds := by
  have h' := List.all_eq_true.mp h
  cases t with
  | int =>
    refine .inr fun d hd => ?_
    have := h' d hd
    cases d <;> simp [hasTy] at this
    exact ⟨by simp, by simp⟩
  | str =>
    refine .inr fun d hd => ?_
    have := h' d hd
    cases d <;> simp [hasTy] at this
    exact ⟨by simp, by simp⟩
  | seq t =>
    refine .inl fun d hd => ?_
    have := h' d hd
    rw [Bool.and_eq_true] at this
    obtain ⟨es, rfl, _⟩ := ty_seq this.1
    cases es with
    | nil => exact absurd this.2 (by simp [full])
    | cons x r => exact ⟨x, r, rfl⟩
  | pr a b =>
    refine .inl fun d hd => ?_
    have := h' d hd
    rw [Bool.and_eq_true] at this
    obtain ⟨x, y, rfl, _⟩ := ty_pr this.1
    exact ⟨x, _, rfl⟩
  | tr a b c =>
    refine .inl fun d hd => ?_
    have := h' d hd
    rw [Bool.and_eq_true] at this
    obtain ⟨x, y, z, rfl, _⟩ := ty_tr this.1
    exact ⟨x, _, rfl⟩
theorem each_of {K : PySem.W.Frag} {F : Hp} : ∀ {vs : List V} {us : List Value} {ds : List D}, Vals vs us → RepAll K F vs ds → PySem.W.EachIs (fun u d => ∃ v, RelV v u ∧ RepD K F v d) us ds
  | _, _, _, .nil, .nil => .nil
  | _, _, _, .cons r t, .cons h q => .cons ⟨_, r, h⟩ (each_of t q)
theorem of_each {K : PySem.W.Frag} {F : Hp} : ∀ {us : List Value} {ds : List D}, PySem.W.EachIs (fun u d => ∃ v, RelV v u ∧ RepD K F v d) us ds → ∃ vs, Vals vs us ∧ RepAll K F vs ds
  | _, _, .nil => ⟨[], .nil, .nil⟩
  | _, _, .cons ⟨v, r, h⟩ t => let ⟨vs, a, b⟩ := of_each t; ⟨v :: vs, .cons r a, .cons h b⟩
def rSrt (K : PySem.W.Frag) (ad : Nat → Addr) (t : Ty) : List V → Hp → VK → Prop := fun xs H Q => ∃ F x ds out, Le F H ∧ xs = [x] ∧ View K F H x (.list ds) ∧ srtD t ds = some out ∧ Dlv K ad F H (.lst out) Q
theorem cr_srt (hu : X.A.units + 64 < cLine) (t : Ty) : CallR X (.builtin "sorted") (rSrt X.K ad t) := by
  intro pins s σ H xs us Q I r h
  obtain ⟨F, x, ds, out, l, rfl, ⟨a, vs, rfl, hs, hr⟩, ho, q⟩ := h
  unfold srtD at ho
  split at ho
  · rename_i hd
    cases ho
    obtain ⟨its, rv, pl, hz⟩ := I.list hs
    rw [Vals.ref1 r]
    have hz' : ds.length ≤ sizeLine := by rw [line_eq]; exact hd.1
    have ty : ∀ d ∈ ds, hasTy t d = true := fun d hm => by
      have := List.all_eq_true.mp hd.2.2 d hm
      rw [Bool.and_eq_true] at this; exact this.1
    have er : PySem.W.EachIs (fun u d => ∃ as, Reads s.heap u d as) its ds := (each_of rv hr).mono fun u d ⟨v, r1, h1⟩ => Dp.reads I d v u (h1.dp l) r1
    refine PySem.W.sorted_data (β := D) (bs := ds) (enc := fun d => d) (R := fun u d => ∃ v, RelV v u ∧ RepD X.K F v d) pl.isList (each_of rv hr) er ?_ ?_ hz' (fun d hm => ?_) fun o ho' he => ?_
    · rw [List.map_id']
      exact fun d hd d' hd' => ty_alike (ty d hd) (ty d' hd')
    · rw [List.map_id']
      exact ty_sortable hd.2.2
    · have h1 := ty_depth (ty d hm)
      have h2 := hd.2.1
      omega
    · obtain ⟨ys, ry, rr⟩ := of_each he
      obtain ⟨ep, he'⟩ := PyProof.Rows.sortedAll_at s.heap its o.toArray
      have hlen : ys.length ≤ sizeLine := by rw [ry.length, ho']; exact hz'
      exact ⟨.ref _, upd H (s.heap.objs.size + 1) (.lst ys), I.laid (t' := s.toks) (fun _ _ => PyProof.Rows.sortedAll_old) (Nat.le_succ _) ⟨hlen, o, ep, ry, he'⟩, rfl, q.lst l rr _ (I.hok.fresh (Nat.le_succ _))⟩
  · cases ho

/-! ### isinstance with a built-in type -/
def rIsD (K : PySem.W.Frag) (t : String) : List V → Hp → VK → Prop := fun xs H Q => ∃ F x d, Le F H ∧ xs = [x, .ty t] ∧ View K F H x d ∧ Q (.bl (isiD t d)) H
theorem cr_isD {t : String} (ht : t ∈ isTs) : CallR X (.builtin "isinstance") (rIsD X.K t) := by
  intro pins s σ H xs us Q I r h
  obtain ⟨F, x, d, l, rfl, hx, q⟩ := h
  have go : ∀ (a : String) (b : Bool), TyX X.K H x (.type a) → kitB a t = some b → isiD t d = b → wpAny (model X.prog X.w) X.A (call (.builtin "isinstance") us) (EP X pins σ Q) X.xe s := fun a b ty e e2 =>
    call_isi pins s σ H _ us Q I r ⟨x, .ty t, .type a, .type t, b, rfl, .ty t, ty, kit_ty e, by rw [← e2]; exact q⟩
  have lst : ∀ {p : Addr} {vs : List V}, SqL X.K H p vs → TyX X.K H (.ref p) (.type "list") := fun {p vs} h => by
    rcases h with (h | ⟨o, h⟩) | ⟨o, its, n, e, c, _⟩
    · exact .base (.lst h)
    · exact .base (.frz h)
    · exact .kList e c
  have tup : ∀ {p : Addr} {vs : List V}, SqT X.K H p vs → TyX X.K H (.ref p) (.type "tuple") := fun {p vs} h => by
    rcases h with (h | ⟨o, h⟩) | ⟨o, its, n, e, c, _⟩
    · exact .base (.tup h)
    · exact .fTuple h
    · exact .kTuple e c
  simp only [isTs, List.mem_cons, List.not_mem_nil, or_false] at ht
  cases d with
  | none =>
    cases hx
    rcases ht with rfl | rfl | rfl | rfl | rfl | rfl <;>
      first | exact go "NoneType" true (.base .non) (by decide +kernel) (by simp [isiD]) | exact go "NoneType" false (.base .non) (by decide +kernel) (by simp [isiD])
  | bool b =>
    cases hx
    rcases ht with rfl | rfl | rfl | rfl | rfl | rfl <;>
      first | exact go "bool" true (.base (.bl _)) (by decide +kernel) (by simp [isiD]) | exact go "bool" false (.base (.bl _)) (by decide +kernel) (by simp [isiD])
  | int i =>
    cases hx
    rcases ht with rfl | rfl | rfl | rfl | rfl | rfl <;>
      first | exact go "int" true (.base (.int _)) (by decide +kernel) (by simp [isiD]) | exact go "int" false (.base (.int _)) (by decide +kernel) (by simp [isiD])
  | str z =>
    cases hx
    rcases ht with rfl | rfl | rfl | rfl | rfl | rfl <;>
      first | exact go "str" true (.base (.str _)) (by decide +kernel) (by simp [isiD]) | exact go "str" false (.base (.str _)) (by decide +kernel) (by simp [isiD])
  | list ds =>
    obtain ⟨p, vs, rfl, h1, h2⟩ := hx
    rcases ht with rfl | rfl | rfl | rfl | rfl | rfl <;>
      first | exact go "list" true (lst h1) (by decide +kernel) (by simp [isiD]) | exact go "list" false (lst h1) (by decide +kernel) (by simp [isiD])
  | tuple ds =>
    obtain ⟨p, vs, rfl, h1, h2⟩ := hx
    rcases ht with rfl | rfl | rfl | rfl | rfl | rfl <;>
      first | exact go "tuple" true (tup (l.tupT h1)) (by decide +kernel) (by simp [isiD]) | exact go "tuple" false (tup (l.tupT h1)) (by decide +kernel) (by simp [isiD])
  | dict _ => exact hx.elim
end
end Ax
/-! A7: calls of defs, where no repr is under way; argument lists without stars. -/
namespace Ax
open PySem PySem.Spec PyProof.Rows L2

/-! ### arguments -/
theorem star1 {e : Expr} {es : List Expr} {env : Env} (h : noStar e = true) : starEach (e :: es) env = (false, eval e env) :: starEach es env := by
  cases e <;> first | rfl | cases h
def noStars (es : List Expr) : Bool := es.all noStar
theorem star_any {pos : Pos} {env : Env} : ∀ {es : List Expr}, noStars es = true → (backTo pos (starEach es env)).any (·.1) = false
  | [], _ => rfl
  | e :: es, h => by
    unfold noStars at h
    rw [List.all_cons, Bool.and_eq_true] at h
    rw [star1 h.1]
    show (false || (backTo pos (starEach es env)).any (·.1)) = false
    rw [Bool.false_or]
    exact star_any h.2
theorem assign1 {e : Expr} {es : List Expr} {env : Env} (h : noStar e = true) : assignEach (e :: es) env = (false, assign e env) :: assignEach es env := by
  cases e <;> first | rfl | cases h
theorem kw_all {pos : Pos} {env : Env} : ∀ {ks : List Str} {kws : List Keyword} {es : List Expr}, kwsOk ks kws es = true → (backToKw pos (keywordEach kws env)).all (·.1.isSome) = true ∧ (backToKw pos (keywordEach kws env)).filterMap (·.1) = ks ∧
    (backToKw pos (keywordEach kws env)).any (·.1.isNone) = false
  | [], [], _, _ => ⟨rfl, rfl, rfl⟩
  | k :: ks, ⟨some k', e, p⟩ :: kws, es, h => by
    unfold kwsOk at h
    rw [Bool.and_eq_true] at h
    obtain ⟨h1, h2, h3⟩ := kw_all (pos := pos) (env := env) h.2
    have hk := of_decide_eq_true h.1
    subst hk
    refine ⟨?_, ?_, ?_⟩
    · show (true && _) = true
      rw [Bool.true_and]; exact h1
    · show k :: (backToKw pos (keywordEach kws env)).filterMap (·.1) = _
      rw [h2]
    · show (false || _) = false
      rw [Bool.false_or]; exact h3
  | [], ⟨_, _, _⟩ :: _, _, h => by simp [kwsOk] at h
  | _ :: _, [], _, h => by simp [kwsOk] at h
  | _ :: _, ⟨none, _, _⟩ :: _, _, h => by simp [kwsOk] at h

/-! ### a def's promise, where no repr is under way -/
structure FnG (P : Program) (w : World) (K : PySem.W.Frag) (mg : Str → Option Value) (base : Heap) (CX : CXT) (k : Nat) (f : Addr) (fd : FuncData) (ps : List Str) (sp : Sp) : Prop where
  len : ∀ vs H Q E, sp vs H Q E → vs.length = ps.length
  go : ∀ (A : Around), A.guards = some [] → ∀ (outer : List Env) (s : Shared) (H : Hp) (args : Args) (us : List Value) (vs : List V) (Q : VK) (E : XK),
    Room k A → Env0 P w K mg base A outer s H → BindsTo s fd args (ps.zip us) → Vals vs us → sp vs H Q E →
      codeAny (model P w) A (.call (.ref f) args) (CR CX outer P w H s Q E) s
theorem FnG.mono {P : Program} {w : World} {K : PySem.W.Frag} {mg : Str → Option Value} {base : Heap} {CX : CXT} {j k : Nat} {f : Addr} {fd : FuncData} {ps : List Str} {sp : Sp} (F : FnG P w K mg base CX j f fd ps sp) (h : j ≤ k) : FnG P w K mg base CX k f fd ps sp :=
  ⟨F.len, fun A hg outer s H args us vs Q E hr => F.go A hg outer s H args us vs Q E (hr.mono h)⟩
/-- how args stand for the parameters' values -/
def Fits (K : PySem.W.Frag) (fd : FuncData) (ps ks : List Str) (perm : List Nat) : Prop :=
  ∀ (s : Shared) (us ws : List Value), K.In s.heap → ks.length = ws.length → (perm.filterMap fun i => (us ++ ws)[i]?).length = ps.length → us.length + ws.length = perm.length → BindsTo s fd ⟨us, ks.zip ws⟩ (ps.zip (perm.filterMap fun i => (us ++ ws)[i]?))
theorem vals_perm {vs : List V} {us : List Value} (r : Vals vs us) : ∀ perm : List Nat, Vals (perm.filterMap fun i => vs[i]?) (perm.filterMap fun i => us[i]?)
  | [] => .nil
  | i :: perm => by
    rw [List.filterMap_cons, List.filterMap_cons]
    cases e : vs[i]? with
    | none => rw [r.none_of e]; exact vals_perm r perm
    | some v =>
      obtain ⟨u, hu, ru⟩ := r.get e
      rw [hu]
      exact .cons ru (vals_perm r perm)
section
variable {X : Cx} {CX : CXT} {k : Nat} {f : Addr} {fd : FuncData} {ps ks : List Str} {sp : Sp} {E : XK} {x : Str} {p pos : Pos} {e : Expr} {es : List Expr} {kws : List Keyword} {t tk : TA} {perm : List Nat}
theorem go_fn {pins : List (Addr × Obj)} {σ : L2.St} {H : Hp} {s : Shared} {Q : VK} {us ws : List Value} {vs zs : List V} (F : FnG X.prog X.w X.K X.mg X.base CX k f fd ps sp) (hr : Room k X.A) (hg : X.A.guards = some []) (hb : Fits X.K fd ps ks perm)
    (hx : Passes CX X E) (hk : ks.length = zs.length) (hn : vs.length + zs.length = perm.length) (I : Inv X pins σ H s) (r : Vals vs us) (rz : Vals zs ws) (h : sp (perm.filterMap fun i => (vs ++ zs)[i]?) H Q E) :
    wpAny (model X.prog X.w) X.A (call (.ref f) us (ks.zip ws)) (EP X pins σ Q) X.xe s := by
  have r2 := vals_perm (r.append rz) perm
  have hl : (perm.filterMap fun i => (us ++ ws)[i]?).length = ps.length := by rw [← r2.length]; exact F.len _ _ _ _ h
  refine wpAny_call (codeAny_mono (F.go X.A hg X.stack s H ⟨us, ks.zip ws⟩ _ _ Q E hr I.env0 (hb s us ws I.kIn (by rw [hk, rz.length]) hl (by rw [← r.length, ← rz.length]; exact hn)) r2 h) fun q s' hq => ?_)
  match q, hq with
  | .error z, hq => exact hx pins σ H s z s' I hq
  | .ok (.ret u), hq => exact I.after hq
def tGo (sp : Sp) (perm : List Nat) (E : XK) (t : TA) : TE := fun σ H Q => t σ H fun vs H1 => vs.length = perm.length ∧ sp (perm.filterMap fun i => vs[i]?) H1 Q E
theorem call_pos0 (F : FnG X.prog X.w X.K X.mg X.base CX k f fd ps sp) (hr : Room k X.A) (hgd : X.A.guards = some []) (hg : Gl X x) (hm : X.mg x = some (.ref f)) (hk : PySem.W.keepIn X.K (.ref f) = true) (hb : Fits X.K fd ps [] perm) (hx : Passes CX X E)
    (hdb : (x == ("__debug__" : Str)) = false) : PE X (.Call (.Name x p) [] [] pos) (tGo sp perm E tNil) := by
  refine ⟨fun pins s σ H Q I h => wpAny_Call_Name_kw (ld_glob I hg hm ?_ hdb)⟩
  have h : (0 : Nat) = perm.length ∧ sp (perm.filterMap fun i => ([] : List V)[i]?) H Q E := h
  exact PySem.W.callWith_K0 I.kIn hk (go_fn (us := []) (vs := []) (ks := []) (ws := []) (zs := []) F hr hgd hb hx rfl h.1 I .nil .nil h.2)
theorem call_pos (F : FnG X.prog X.w X.K X.mg X.base CX k f fd ps sp) (hr : Room k X.A) (hgd : X.A.guards = some []) (hg : Gl X x) (hm : X.mg x = some (.ref f)) (hk : PySem.W.keepIn X.K (.ref f) = true) (hb : Fits X.K fd ps [] perm) (hx : Passes CX X E)
    (ha : PA X (e :: es) t) (n1 : noStar e = true) (n2 : noStars es = true) (hdb : (x == ("__debug__" : Str)) = false) : PE X (.Call (.Name x p) (e :: es) [] pos) (tGo sp perm E t) := by
  refine ⟨fun pins s σ H Q I h => wpAny_Call_Name_kw (ld_glob I hg hm ?_ hdb)⟩
  refine PySem.W.callWith_K (h₀ := X.base) I.ok.mod.kin hk (thn (ha.run pos pins s σ H _ I h) fun us s1 ⟨vs, H1, I1, r, q⟩ => ⟨I1.kIn, ?_⟩) (star1 n1) (star_any n2)
  exact go_fn (ks := []) (ws := []) (zs := []) F hr hgd hb hx rfl (by simpa using q.1) I1 r .nil (by rw [List.append_nil]; exact q.2)
/-- the def that slot i holds -/
theorem call_slot {i : Nat} (F : FnG X.prog X.w X.K X.mg X.base CX k f fd ps sp) (hr : Room k X.A) (hgd : X.A.guards = some []) (hN : X.N[i]? = some x) (hv : Vis X.env.scope x) (hk : PySem.W.keepIn X.K (.ref f) = true) (hb : Fits X.K fd ps [] perm) (hx : Passes CX X E)
    (ha : PA X (e :: es) t) (n1 : noStar e = true) (n2 : noStars es = true) (hdb : (x == ("__debug__" : Str)) = false) (hcd : (x == ("__classdict__" : Str)) = false) :
    PE X (.Call (.Name x p) (e :: es) [] pos) (fun σ H Q => σ[i]? = some (some (.ref f)) ∧ tGo sp perm E t σ H Q) := by
  refine ⟨fun pins s σ H Q I ⟨hs, h⟩ => ?_⟩
  refine wpAny_Call_Name_kw (thn ((pe_var (pos := p) hN hv hdb hcd).run pins s σ H (fun v H1 => v = .ref f ∧ H1 = H) I ⟨.ref f, hs, rfl, rfl⟩) fun u s1 ⟨v, H1, I1, r1, e1, e2⟩ => ?_)
  subst e1 e2
  obtain rfl : u = Value.ref f := r1
  refine PySem.W.callWith_K (h₀ := X.base) I.ok.mod.kin hk (thn (ha.run pos pins s1 σ _ _ I1 h) fun us s2 ⟨vs, H2, I2, r, q⟩ => ⟨I2.kIn, ?_⟩) (star1 n1) (star_any n2)
  exact go_fn (ks := []) (ws := []) (zs := []) F hr hgd hb hx rfl (by simpa using q.1) I2 r .nil (by rw [List.append_nil]; exact q.2)
/-- with keywords -/
def tGoK (sp : Sp) (perm : List Nat) (n : Nat) (E : XK) (t tk : TA) : TE := fun σ H Q => t σ H fun vs H1 => tk σ H1 fun zs H2 => n = zs.length ∧ vs.length + zs.length = perm.length ∧ sp (perm.filterMap fun i => (vs ++ zs)[i]?) H2 Q E
theorem call_kw0 (F : FnG X.prog X.w X.K X.mg X.base CX k f fd ps sp) (hr : Room k X.A) (hgd : X.A.guards = some []) (hg : Gl X x) (hm : X.mg x = some (.ref f)) (hk : PySem.W.keepIn X.K (.ref f) = true) (hb : Fits X.K fd ps ks perm) (hx : Passes CX X E)
    (hw : PK X kws tk) (kw : kwsOk ks kws [] = true) (hdb : (x == ("__debug__" : Str)) = false) : PE X (.Call (.Name x p) [] kws pos) (tGoK sp perm ks.length E tNil tk) := by
  refine ⟨fun pins s σ H Q I h => wpAny_Call_Name_kw (ld_glob I hg hm ?_ hdb)⟩
  obtain ⟨k1, k2, k3⟩ := kw_all (pos := pos) (env := X.env) kw
  refine PySem.W.callWith_KW0 (h₀ := X.base) I.ok.mod.kin hk k1 (thn (hw.run pos pins s σ H _ I h) fun ws s2 ⟨zs, H2, I2, rz, q1, q2, q3⟩ => ⟨I2.kIn, ?_⟩) (by rw [k3]; rfl)
  rw [k2]
  exact go_fn (us := []) (vs := []) F hr hgd hb hx q1 q2 I2 .nil rz q3
theorem call_kw (F : FnG X.prog X.w X.K X.mg X.base CX k f fd ps sp) (hr : Room k X.A) (hgd : X.A.guards = some []) (hg : Gl X x) (hm : X.mg x = some (.ref f)) (hk : PySem.W.keepIn X.K (.ref f) = true) (hb : Fits X.K fd ps ks perm) (hx : Passes CX X E)
    (ha : PA X (e :: es) t) (n1 : noStar e = true) (n2 : noStars es = true) (hw : PK X kws tk) (kw : kwsOk ks kws [] = true) (hdb : (x == ("__debug__" : Str)) = false) : PE X (.Call (.Name x p) (e :: es) kws pos) (tGoK sp perm ks.length E t tk) := by
  refine ⟨fun pins s σ H Q I h => wpAny_Call_Name_kw (ld_glob I hg hm ?_ hdb)⟩
  obtain ⟨k1, k2, k3⟩ := kw_all (pos := pos) (env := X.env) kw
  refine PySem.W.callWith_KW (h₀ := X.base) I.ok.mod.kin hk k1 (thn (ha.run pos pins s σ H _ I h) fun us s1 ⟨vs, H1, I1, r, q⟩ => ?_) (by rw [star1 n1, k3]; show ((false || (backTo pos (starEach es X.env)).any (·.1)) || false) = false; rw [star_any n2]; rfl) (star1 n1)
  refine thn (hw.run pos pins s1 σ H1 _ I1 q) fun ws s2 ⟨zs, H2, I2, rz, q1, q2, q3⟩ => ⟨I2.kIn, ?_⟩
  rw [k2]
  exact go_fn F hr hgd hb hx q1 q2 I2 r rz q3
end
end Ax
/-! A8: the checker read backwards. -/
namespace Ax
open PySem PySem.Spec PyProof.Rows L2
variable {fnm : Nat → Str} {kwt : List (Nat × List Str × List Nat)} {c : MC} {e : Expr}
theorem ok_non  (h : okE fnm kwt c .non e = true) : ∃ j p, e = .Constant .none j p := by
  unfold okE at h
  split at h <;> simp_all [and_assoc]
theorem ok_bl {b : Bool} (h : okE fnm kwt c (.bl b) e = true) : ∃ j p, e = .Constant (.bool b) j p := by
  unfold okE at h
  split at h <;> simp_all [and_assoc]
theorem ok_int {i : Int} (h : okE fnm kwt c (.int i) e = true) : ∃ j p, e = .Constant (.int i) j p := by
  unfold okE at h
  split at h <;> simp_all [and_assoc]
theorem ok_str {z : Str} (h : okE fnm kwt c (.str z) e = true) : ∃ j p, e = .Constant (.str z) j p := by
  unfold okE at h
  split at h <;> simp_all [and_assoc]
theorem ok_var {i : Nat} (h : okE fnm kwt c (.var i) e = true) : ∃ x p, e = .Name x p ∧ nameOk c i x = true := by
  unfold okE at h
  split at h <;> simp_all [and_assoc]
theorem ok_fnv {f : Nat} (h : okE fnm kwt c (.fnv f) e = true) : ∃ p, e = .Name (fnm f) p ∧ globOk c (fnm f) = true ∧ (f, [], []) ∈ kwt := by
  unfold okE at h
  split at h <;> simp_all [and_assoc]
theorem ok_frz {a : Ex} (h : okE fnm kwt c (.frz a) e = true) : okE fnm kwt c a e = true ∧ notFrz a = true := by
  unfold okE at h
  rw [Bool.and_eq_true] at h
  exact ⟨h.2, h.1⟩
theorem ok_dnew {b : Bool} (h : okE fnm kwt c (.dnew b) e = true) : ∃ p, e = .Dict [] [] p := by
  unfold okE at h
  split at h <;> simp_all [and_assoc]
theorem ok_dIn {neg : Bool} {a : Ex} {i : Nat} (h : okE fnm kwt c (.dIn neg a i) e = true) : ∃ l x q p, e = .Compare l [if neg = true then .NotIn else .In] [.Name x q] p ∧ nameOk c i x = true ∧ okE fnm kwt c a l = true := by
  unfold okE at h
  split at h <;> simp_all [and_assoc]
theorem ok_dGet {i : Nat} {a : Ex} (h : okE fnm kwt c (.dGet i a) e = true) : ∃ x q f p, e = .Subscript (.Name x q) f p ∧ nameOk c i x = true ∧ okE fnm kwt c a f = true ∧ notSlice f = true := by
  unfold okE at h
  split at h <;> simp_all [and_assoc]
theorem ok_dSrt {t : Ty} {i : Nat} (h : okE fnm kwt c (.dSrt t i) e = true) : ∃ q x q' p, e = .Call (.Name "sorted" q) [.Name x q'] [] p ∧ globOk c "sorted" = true ∧ nameOk c i x = true := by
  unfold okE at h
  split at h <;> simp_all [and_assoc]
theorem ok_bin {op : Operator} {a b : Ex} (h : okE fnm kwt c (.bin op a b) e = true) : ∃ l r p, e = .BinOp l op r p ∧ okE fnm kwt c a l = true ∧ okE fnm kwt c b r = true := by
  unfold okE at h
  split at h <;> simp_all [and_assoc]
theorem ok_cmp {op : CmpOp} {a b : Ex} (h : okE fnm kwt c (.cmp op a b) e = true) : ∃ l r p, e = .Compare l [op] [r] p ∧ okE fnm kwt c a l = true ∧ okE fnm kwt c b r = true ∧ notSet r = true := by
  unfold okE at h
  split at h <;> simp_all [and_assoc]
theorem ok_isN {neg : Bool} {a : Ex} (h : okE fnm kwt c (.isN neg a) e = true) : ∃ l j q p, e = .Compare l [if neg = true then .IsNot else .Is] [.Constant .none j q] p ∧ okE fnm kwt c a l = true := by
  unfold okE at h
  split at h <;> simp_all [and_assoc]
theorem ok_and {as : Xs} (h : okE fnm kwt c (.and as) e = true) : ∃ es p, e = .BoolOp .And es p ∧ okXs fnm kwt c as es = true ∧ tstsOk as es = true := by
  unfold okE at h
  split at h <;> simp_all [and_assoc]
theorem ok_or {as : Xs} (h : okE fnm kwt c (.or as) e = true) : ∃ es p, e = .BoolOp .Or es p ∧ okXs fnm kwt c as es = true ∧ tstsOk as es = true := by
  unfold okE at h
  split at h <;> simp_all [and_assoc]
theorem ok_not {a : Ex} (h : okE fnm kwt c (.not a) e = true) : ∃ l p, e = .UnaryOp .Not l p ∧ okE fnm kwt c a l = true ∧ tstOk a l = true := by
  unfold okE at h
  split at h <;> simp_all [and_assoc]
theorem ok_neg {a : Ex} (h : okE fnm kwt c (.neg a) e = true) : ∃ l p, e = .UnaryOp .USub l p ∧ okE fnm kwt c a l = true := by
  unfold okE at h
  split at h <;> simp_all [and_assoc]
theorem ok_ite {k a b : Ex} (h : okE fnm kwt c (.ite k a b) e = true) : ∃ q l r p, e = .IfExp q l r p ∧ okE fnm kwt c k q = true ∧ tstOk k q = true ∧ okE fnm kwt c a l = true ∧ okE fnm kwt c b r = true := by
  unfold okE at h
  split at h <;> simp_all [and_assoc]
theorem ok_tup {as : Xs} (h : okE fnm kwt c (.tup as) e = true) : ∃ es q p, e = .Tuple es q p ∧ okXs fnm kwt c as es = true := by
  unfold okE at h
  split at h <;> simp_all [and_assoc]
theorem ok_lst {as : Xs} (h : okE fnm kwt c (.lst as) e = true) : ∃ es p, e = .List es p ∧ okXs fnm kwt c as es = true := by
  unfold okE at h
  split at h <;> simp_all [and_assoc]
theorem ok_ix {a b : Ex} (h : okE fnm kwt c (.ix a b) e = true) : ∃ l r p, e = .Subscript l r p ∧ okE fnm kwt c a l = true ∧ okE fnm kwt c b r = true ∧ notSlice r = true := by
  unfold okE at h
  split at h <;> simp_all [and_assoc]
theorem ok_sl {a : Ex} {lo hi : Xo} (h : okE fnm kwt c (.sl a lo hi) e = true) : ∃ l q r p' p, e = .Subscript l (.Slice q r none p') p ∧ okE fnm kwt c a l = true ∧ okXo fnm kwt c lo q = true ∧ okXo fnm kwt c hi r = true := by
  unfold okE at h
  split at h <;> simp_all [and_assoc]
theorem ok_lc {own : List Nat} {t : T} {it : I} {ifs : Xo} {x : Ex} (h : okE fnm kwt c (.lc own t it ifs x) e = true) : ∃ elt tg iter ts scope p, e = .ListComp elt [⟨tg, iter, ts, 0⟩] scope p ∧ L2.blkC c.N c.sc scope (ownOf c.N own) = true ∧ tIn own t = true ∧ okI fnm kwt c it tg iter = true ∧ okT (blk c scope) t tg = true ∧ okIfs fnm kwt (blk c scope) ifs ts = true ∧ okE fnm kwt (blk c scope) x elt = true := by
  unfold okE at h
  split at h <;> simp_all [and_assoc]
theorem ok_lc2 {own own1 : List Nat} {t t1 : T} {it it1 : I} {ifs ifs1 : Xo} {x : Ex} (h : okE fnm kwt c (.lc2 own own1 t it ifs t1 it1 ifs1 x) e = true) : ∃ elt tg iter ts tg1 iter1 ts1 scope p, e = .ListComp elt [⟨tg, iter, ts, 0⟩, ⟨tg1, iter1, ts1, 0⟩] scope p ∧ L2.blkC c.N c.sc scope (ownOf c.N own) = true ∧ (own1.all (fun i => decide (i ∈ own))) = true ∧ tIn own t = true ∧ tIn own1 t1 = true ∧ okI fnm kwt c it tg iter = true ∧ okT (blk c scope) t tg = true ∧ okIfs fnm kwt (blk c scope) ifs ts = true ∧ okI fnm kwt (blk c scope) it1 tg1 iter1 = true ∧ okT (blk c scope) t1 tg1 = true ∧ okIfs fnm kwt (blk c scope) ifs1 ts1 = true ∧ okE fnm kwt (blk c scope) x elt = true := by
  unfold okE at h
  split at h <;> simp_all [and_assoc]
theorem ok_call {f : Nat} {as : Xs} (h : okE fnm kwt c (.call f as) e = true) : ∃ q es p, e = .Call (.Name (fnm f) q) es [] p ∧ globOk c (fnm f) = true ∧ okXs fnm kwt c as es = true := by
  unfold okE at h
  split at h <;> simp_all [and_assoc]
theorem ok_callK {f : Nat} {as bs : Xs} {ks : List Str} {perm : List Nat} (h : okE fnm kwt c (.callK f as ks bs perm) e = true) : ∃ q es kws p, e = .Call (.Name (fnm f) q) es kws p ∧ globOk c (fnm f) = true ∧ (f, ks, perm) ∈ kwt ∧ ks ≠ [] ∧ okXs fnm kwt c as es = true ∧ kwsOk ks kws [] = true ∧ okKs fnm kwt c bs kws = true ∧ as.len + bs.len = perm.length := by
  unfold okE at h
  split at h <;> simp_all [and_assoc]
theorem ok_callV {i : Nat} {as : Xs} (h : okE fnm kwt c (.callV i as) e = true) : ∃ x q e1 es p, e = .Call (.Name x q) (e1 :: es) [] p ∧ nameOk c i x = true ∧ okXs fnm kwt c as (e1 :: es) = true := by
  unfold okE at h
  split at h <;> simp_all [and_assoc]
theorem ok_bi {b : Bi} {as : Xs} (h : okE fnm kwt c (.bi b as) e = true) : ∃ q e1 es p, e = .Call (.Name (biN b) q) (e1 :: es) [] p ∧ globOk c (biN b) = true ∧ okXs fnm kwt c as (e1 :: es) = true := by
  unfold okE at h
  split at h <;> simp_all [and_assoc]
theorem ok_isi {t : String} {a : Ex} (h : okE fnm kwt c (.isi t a) e = true) : ∃ q e1 q' p, e = .Call (.Name "isinstance" q) [e1, .Name (Str.ofString t) q'] [] p ∧ globOk c "isinstance" = true ∧ globOk c (Str.ofString t) = true ∧ t ∈ isTs ∧ noStar e1 = true ∧ okE fnm kwt c a e1 = true := by
  unfold okE at h
  split at h <;> simp_all [and_assoc]
theorem ok_rng {b : Bool} {g : Rg} (h : okE fnm kwt c (.rng b g) e = true) : ∃ q q' es p p', e = .Call (.Name (if b = true then "tuple" else "list") q) [.Call (.Name "range" q') es [] p'] [] p ∧ globOk c (if b = true then "tuple" else "list") = true ∧ globOk c "range" = true ∧ okRg fnm kwt c g es = true := by
  unfold okE at h
  split at h <;> simp_all [and_assoc]
theorem ok_lenSet {a : Ex} (h : okE fnm kwt c (.lenSet a) e = true) : ∃ q q' e1 p p', e = .Call (.Name "len" q) [.Call (.Name "set" q') [e1] [] p'] [] p ∧ globOk c "len" = true ∧ globOk c "set" = true ∧ noStar e1 = true ∧ okE fnm kwt c a e1 = true := by
  unfold okE at h
  split at h <;> simp_all [and_assoc]
theorem ok_srt {t : Ty} {a : Ex} (h : okE fnm kwt c (.srt t a) e = true) : ∃ q e1 p, e = .Call (.Name "sorted" q) [e1] [] p ∧ globOk c "sorted" = true ∧ noStar e1 = true ∧ okE fnm kwt c a e1 = true := by
  unfold okE at h
  split at h <;> simp_all [and_assoc]
theorem ok_app {i : Nat} {a : Ex} (h : okE fnm kwt c (.app i a) e = true) : ∃ x p0 ap e1 cp, e = .Call (.Attribute (.Name x p0) "append" ap) [e1] [] cp ∧ nameOk c i x = true ∧ ap.endLine = cp.line ∧ noStar e1 = true ∧ okE fnm kwt c a e1 = true := by
  unfold okE at h
  split at h <;> simp_all [and_assoc]
theorem ok_ext {i : Nat} {a : Ex} (h : okE fnm kwt c (.ext i a) e = true) : ∃ x p0 ap e1 cp, e = .Call (.Attribute (.Name x p0) "extend" ap) [e1] [] cp ∧ nameOk c i x = true ∧ ap.endLine = cp.line ∧ noStar e1 = true ∧ okE fnm kwt c a e1 = true := by
  unfold okE at h
  split at h <;> simp_all [and_assoc]
theorem ok_popAt {i : Nat} {a : Ex} (h : okE fnm kwt c (.popAt i a) e = true) : ∃ x p0 ap e1 cp, e = .Call (.Attribute (.Name x p0) "pop" ap) [e1] [] cp ∧ nameOk c i x = true ∧ ap.endLine = cp.line ∧ noStar e1 = true ∧ okE fnm kwt c a e1 = true := by
  unfold okE at h
  split at h <;> simp_all [and_assoc]
theorem ok_pop {i : Nat} (h : okE fnm kwt c (.pop i) e = true) : ∃ x p0 ap cp, e = .Call (.Attribute (.Name x p0) "pop" ap) [] [] cp ∧ nameOk c i x = true ∧ ap.endLine = cp.line := by
  unfold okE at h
  split at h <;> simp_all [and_assoc]
theorem ok_nil {es : List Expr} (h : okXs fnm kwt c .nil es = true) : es = [] := by
  unfold okXs at h
  split at h <;> simp_all [and_assoc]
theorem ok_cons {a : Ex} {as : Xs} {es : List Expr} (h : okXs fnm kwt c (.cons a as) es = true) : ∃ e1 es', es = e1 :: es' ∧ noStar e1 = true ∧ okE fnm kwt c a e1 = true ∧ okXs fnm kwt c as es' = true := by
  unfold okXs at h
  split at h <;> simp_all [and_assoc]
theorem ok_knil {kws : List Keyword} (h : okKs fnm kwt c .nil kws = true) : kws = [] := by
  unfold okKs at h
  split at h <;> simp_all [and_assoc]
theorem ok_kcons {a : Ex} {as : Xs} {kws : List Keyword} (h : okKs fnm kwt c (.cons a as) kws = true) : ∃ n e1 p kws', kws = ⟨n, e1, p⟩ :: kws' ∧ okE fnm kwt c a e1 = true ∧ okKs fnm kwt c as kws' = true := by
  unfold okKs at h
  split at h <;> simp_all [and_assoc]
theorem ok_no {o : Option Expr} (h : okXo fnm kwt c .no o = true) : o = none := by
  unfold okXo at h
  split at h <;> simp_all [and_assoc]
theorem ok_so {a : Ex} {o : Option Expr} (h : okXo fnm kwt c (.so a) o = true) : ∃ e1, o = some e1 ∧ okE fnm kwt c a e1 = true := by
  unfold okXo at h
  split at h <;> simp_all [and_assoc]
theorem ok_ifno {ts : List Expr} (h : okIfs fnm kwt c .no ts = true) : ts = [] := by
  unfold okIfs at h
  split at h <;> simp_all [and_assoc]
theorem ok_ifso {a : Ex} {ts : List Expr} (h : okIfs fnm kwt c (.so a) ts = true) : ∃ e1, ts = [e1] ∧ okE fnm kwt c a e1 = true ∧ tstOk a e1 = true := by
  unfold okIfs at h
  split at h <;> simp_all [and_assoc]
theorem ok_r1 {hi : Ex} {es : List Expr} (h : okRg fnm kwt c (.r1 hi) es = true) : ∃ e1, es = [e1] ∧ noStar e1 = true ∧ okE fnm kwt c hi e1 = true := by
  unfold okRg at h
  split at h <;> simp_all [and_assoc]
theorem ok_r2 {lo hi : Ex} {es : List Expr} (h : okRg fnm kwt c (.r2 lo hi) es = true) : ∃ e1 e2, es = [e1, e2] ∧ noStar e1 = true ∧ noStar e2 = true ∧ okE fnm kwt c lo e1 = true ∧ okE fnm kwt c hi e2 = true := by
  unfold okRg at h
  split at h <;> simp_all [and_assoc]
theorem ok_iseq {a : Ex} {tg : Expr} (h : okI fnm kwt c (.seq a) tg e = true) : okE fnm kwt c a e = true ∧ notSet e = true := by
  unfold okI at h
  simpa using h
theorem ok_irng {g : Rg} {tg : Expr} (h : okI fnm kwt c (.rng g) tg e = true) : ∃ q es p, e = .Call (.Name "range" q) es [] p ∧ globOk c "range" = true ∧ okRg fnm kwt c g es = true := by
  unfold okI at h
  split at h <;> simp_all [and_assoc]
theorem ok_izip {a b : Ex} {tg : Expr} (h : okI fnm kwt c (.zip a b) tg e = true) : ∃ t1 t2 k q' e1 e2 q p, tg = .Tuple [t1, t2] k q' ∧ e = .Call (.Name "zip" q) [e1, e2] [] p ∧ globOk c "zip" = true ∧ noStar e1 = true ∧ noStar e2 = true ∧ okE fnm kwt c a e1 = true ∧ okE fnm kwt c b e2 = true := by
  unfold okI at h
  split at h <;> simp_all [and_assoc]
theorem ok_ienm {a : Ex} {tg : Expr} (h : okI fnm kwt c (.enm a) tg e = true) : ∃ t1 t2 k q' e1 q p, tg = .Tuple [t1, t2] k q' ∧ e = .Call (.Name "enumerate" q) [e1] [] p ∧ globOk c "enumerate" = true ∧ noStar e1 = true ∧ okE fnm kwt c a e1 = true := by
  unfold okI at h
  split at h <;> simp_all [and_assoc]
theorem ok_nm {i : Nat} {tg : Expr} (h : okT c (.nm i) tg = true) : ∃ x p, tg = .Name x p ∧ locOk c i x = true := by
  unfold okT at h
  split at h <;> simp_all
theorem ok_tp {ts : Ts} {tg : Expr} (h : okT c (.tp ts) tg = true) : ∃ es k p, tg = .Tuple es k p ∧ okTs c ts es = true := by
  unfold okT at h
  split at h <;> simp_all
theorem ok_tnil {es : List Expr} (h : okTs c .nil es = true) : es = [] := by
  unfold okTs at h
  split at h <;> simp_all
theorem ok_tcons {t : T} {ts : Ts} {es : List Expr} (h : okTs c (.cons t ts) es = true) : ∃ e1 es', es = e1 :: es' ∧ noStar e1 = true ∧ okT c t e1 = true ∧ okTs c ts es' = true := by
  unfold okTs at h
  split at h <;> simp_all [and_assoc]
theorem okXs_stars : ∀ {as : Xs} {es : List Expr}, okXs fnm kwt c as es = true → noStars es = true
  | .nil, es, h => by rw [ok_nil h]; rfl
  | .cons a as, es, h => by
    obtain ⟨e1, es', rfl, h1, _, h2⟩ := ok_cons h
    show (noStar e1 && noStars es') = true
    rw [h1, okXs_stars h2]; rfl
end Ax
/-! A9: what the texts do, as readings; the context; the simple expressions. -/
namespace Ax
open PySem PySem.Spec PyProof.Rows L2
/-- the run ends well, and so -/
def Good {σ α : Type} (P : α → σ → Prop) : R σ α → Prop
  | .ok a s => P a s
  | _ => False
theorem good_bind {σ α β : Type} {P : β → σ → Prop} {r : R σ α} {f : α → σ → R σ β} : Good P (r.bind f) ↔ Good (fun a s => Good P (f a s)) r := by
  cases r <;> exact Iff.rfl
theorem Good.mono {σ α : Type} {P Q : α → σ → Prop} {r : R σ α} (h : Good P r) (q : ∀ a s, P a s → Q a s) : Good Q r := by
  cases r with
  | ok a s => exact q a s h
  | exc c d s => exact h.elim
  | bad => exact h.elim
theorem Good.ofO {σ α : Type} {P : α → σ → Prop} {o : Option α} {s : σ} (h : Good P (ofO o s)) : ∃ a, o = some a ∧ P a s := by
  cases o with
  | none => exact h.elim
  | some a => exact ⟨a, rfl, h⟩
theorem Good.at {σ α : Type} {P : α → σ → Prop} {r : R σ α} (h : Good P r) : ∃ a s, r = .ok a s ∧ P a s := by
  cases r with
  | ok a s => exact ⟨a, s, rfl, h⟩
  | exc c d s => exact h.elim
  | bad => exact h.elim

section
variable (call : Nat → List Arg → List M → R (List M) M) (K : PySem.W.Frag) (ad : Nat → Addr) (κ : List Addr)
/-- from the world (F, s) over σ, H on, a run gives P of the result and the world behind -/
def Run {α : Type} (σ : L2.St) (H : Hp) (r : S → R S α) (P : α → Wd → Wd → Prop) : Prop :=
  ∃ F s, Rel K ad κ ⟨F, s, σ, H⟩ ∧ Good (fun a s' => ∀ F' H', Rel K ad κ ⟨F', s', σ, H'⟩ → Stp κ noT ⟨F, s, σ, H⟩ ⟨F', s', σ, H'⟩ → P a ⟨F, s, σ, H⟩ ⟨F', s', σ, H'⟩) (r s)
def tE (x : Ex) : TE := fun σ H Q => Run K ad κ σ H (evE call x) fun r w w' => ∀ v, RvOk K ad κ w' v r → Fresh w.H v r → Q v w'.H
def tT (x : Ex) : TT := fun σ H Q => Run K ad κ σ H (fun s => tst (evE call x s)) fun b w w' => Q b w'.H
def tXs (as : Xs) : TA := fun σ H Q => Run K ad κ σ H (evXs call as) fun rs w w' => ∀ vs, RvsOk K ad κ w' w.H vs rs → Q vs w'.H
def tAnds (as : Xs) : TT := fun σ H Q => Run K ad κ σ H (evAnd call as) fun b w w' => Q b w'.H
def tOrs (as : Xs) : TT := fun σ H Q => Run K ad κ σ H (evOr call as) fun b w w' => Q b w'.H
def tXo (o : Xo) : TO := fun σ H Q => Run K ad κ σ H (evXo call o) fun i w w' => Q i w'.H
def tRg (g : Rg) : L2.St → Hp → (Int → Int → Hp → Prop) → Prop := fun σ H Q => Run K ad κ σ H (evRg call g) fun p w w' => Q p.1 p.2 w'.H
end
/-- what a call of the def f promises -/
def spF (call : Nat → List Arg → List M → R (List M) M) (K : PySem.W.Frag) (ad : Nat → Addr) (f : Nat) : Sp := fun xs H Q _ =>
  ∃ F κ as u, Rel K ad κ (lw F u H) ∧ ArgsOk K ad F H κ xs as ∧ Good (fun v u' => ∀ F' H' x, Rel K ad κ (lw F' u' H') → Stp κ noT (lw F u H) (lw F' u' H') → RvOk K ad κ (lw F' u' H') x (.m v) → Fresh H x (.m v) → Q x H') (call f as u)
def CX0 : CXT := fun _ _ _ _ _ _ => False
theorem pass0 {X : Cx} {E : XK} : Passes CX0 X E := fun _ _ _ _ _ _ _ h => h.elim
structure FnAt (fnm : Nat → Str) (kwt : List (Nat × List Str × List Nat)) (call : Nat → List Arg → List M → R (List M) M) (ad : Nat → Addr) (X : Cx) (f : Nat) : Prop where
  ex : ∃ k fd ps, FnG X.prog X.w X.K X.mg X.base CX0 k (ad f) fd ps (spF call X.K ad f) ∧ Room k X.A ∧ X.mg (fnm f) = some (.ref (ad f)) ∧ PySem.W.keepIn X.K (.ref (ad f)) = true ∧ (∀ n, Fits X.K fd ps [] (List.range n)) ∧ ∀ ks perm, ks ≠ [] → (f, ks, perm) ∈ kwt → Fits X.K fd ps ks perm
def bltNames : List Str := ["len", "tuple", "list", "all", "any", "min", "max", "abs", "int", "repr", "isinstance", "range", "set", "sorted", "zip", "enumerate", "bool", "str", "dict"]
structure GX (fnm : Nat → Str) (kwt : List (Nat × List Str × List Nat)) (call : Nat → List Arg → List M → R (List M) M) (ad : Nat → Addr) (X : Cx) (c : MC) : Prop where
  N : X.N = c.N
  sc : X.env.scope = c.sc
  fn : ∀ x, fnB c x = true → X.fn x = true
  nd : X.N.Nodup
  calm : X.calm = true
  gd : X.A.guards = some []
  un : X.A.units + 64 < cLine
  blt : ∀ x ∈ bltNames, X.mg x = none
  fv : ∀ f, (f, [], []) ∈ kwt → X.mg (fnm f) = some (.ref (ad f))
  fns : ∀ f as u, call f as u ≠ .bad → FnAt fnm kwt call ad X f
theorem PE.imp {X : Cx} {e : Expr} {t t' : TE} (h : PE X e t) (q : ∀ σ H Q, t' σ H Q → t σ H Q) : PE X e t' := ⟨fun pins s σ H Q I z => h.run pins s σ H Q I (q σ H Q z)⟩
theorem PT.imp {X : Cx} {e : Expr} {t t' : TT} (h : PT X e t) (q : ∀ σ H Q, t' σ H Q → t σ H Q) : PT X e t' := ⟨fun pins s σ H Q I z => h.run pins s σ H Q I (q σ H Q z)⟩
theorem PW.imp {X : Cx} {e : Expr} {t t' : TT} (h : PW X e t) (q : ∀ σ H Q, t' σ H Q → t σ H Q) : PW X e t' := ⟨fun wh pins s σ H Q I z => h.run wh pins s σ H Q I (q σ H Q z)⟩
theorem PA.imp {X : Cx} {es : List Expr} {t t' : TA} (h : PA X es t) (q : ∀ σ H Q, t' σ H Q → t σ H Q) : PA X es t' := ⟨fun pos pins s σ H Q I z => h.run pos pins s σ H Q I (q σ H Q z)⟩
theorem PK.imp {X : Cx} {es : List Keyword} {t t' : TA} (h : PK X es t) (q : ∀ σ H Q, t' σ H Q → t σ H Q) : PK X es t' := ⟨fun pos pins s σ H Q I z => h.run pos pins s σ H Q I (q σ H Q z)⟩
theorem PO.imp {X : Cx} {e : Option Expr} {t t' : TO} (h : PO X e t) (q : ∀ σ H Q, t' σ H Q → t σ H Q) : PO X e t' := ⟨fun pins s σ H Q I z => h.run pins s σ H Q I (q σ H Q z)⟩

section
variable {call : Nat → List Arg → List M → R (List M) M} {K : PySem.W.Frag} {ad : Nat → Addr} {κ : List Addr} {σ : L2.St} {F H : Hp} {s : S} {w0 : Wd}
/-- the next part runs -/
theorem Run.step {α : Type} {f : S → R S α} {G : α → S → Prop} {P : α → Wd → Wd → Prop} (R : Rel K ad κ ⟨F, s, σ, H⟩) (st : Stp κ noT w0 ⟨F, s, σ, H⟩) (g : Good G (f s))
    (q : ∀ b s2 F2 H2, Rel K ad κ ⟨F2, s2, σ, H2⟩ → Stp κ noT ⟨F, s, σ, H⟩ ⟨F2, s2, σ, H2⟩ → Stp κ noT w0 ⟨F2, s2, σ, H2⟩ → G b s2 → P b ⟨F, s, σ, H⟩ ⟨F2, s2, σ, H2⟩) : Run K ad κ σ H f P :=
  ⟨F, s, R, g.mono fun b s2 g2 F2 H2 R2 st2 => q b s2 F2 H2 R2 st2 (st.tr st2) g2⟩
theorem tE.step {x : Ex} {G : Rv → S → Prop} {Q : VK} (R : Rel K ad κ ⟨F, s, σ, H⟩) (st : Stp κ noT w0 ⟨F, s, σ, H⟩) (g : Good G (evE call x s))
    (q : ∀ r s2 F2 H2, Rel K ad κ ⟨F2, s2, σ, H2⟩ → Stp κ noT ⟨F, s, σ, H⟩ ⟨F2, s2, σ, H2⟩ → Stp κ noT w0 ⟨F2, s2, σ, H2⟩ → G r s2 → ∀ v, RvOk K ad κ ⟨F2, s2, σ, H2⟩ v r → Fresh H v r → Q v H2) : tE call K ad κ x σ H Q :=
  Run.step R st g q
theorem tT.step {x : Ex} {G : Bool → S → Prop} {Q : Bool → Hp → Prop} (R : Rel K ad κ ⟨F, s, σ, H⟩) (st : Stp κ noT w0 ⟨F, s, σ, H⟩) (g : Good G (tst (evE call x s)))
    (q : ∀ b s2 F2 H2, Rel K ad κ ⟨F2, s2, σ, H2⟩ → Stp κ noT ⟨F, s, σ, H⟩ ⟨F2, s2, σ, H2⟩ → Stp κ noT w0 ⟨F2, s2, σ, H2⟩ → G b s2 → Q b H2) : tT call K ad κ x σ H Q :=
  Run.step R st g q
theorem tXs.step {x : Xs} {G : List Rv → S → Prop} {Q : List V → Hp → Prop} (R : Rel K ad κ ⟨F, s, σ, H⟩) (st : Stp κ noT w0 ⟨F, s, σ, H⟩) (g : Good G (evXs call x s))
    (q : ∀ r s2 F2 H2, Rel K ad κ ⟨F2, s2, σ, H2⟩ → Stp κ noT ⟨F, s, σ, H⟩ ⟨F2, s2, σ, H2⟩ → Stp κ noT w0 ⟨F2, s2, σ, H2⟩ → G r s2 → ∀ vs, RvsOk K ad κ ⟨F2, s2, σ, H2⟩ H vs r → Q vs H2) : tXs call K ad κ x σ H Q :=
  Run.step R st g q
theorem tXo.step {x : Xo} {G : Option Int → S → Prop} {Q : Option Int → Hp → Prop} (R : Rel K ad κ ⟨F, s, σ, H⟩) (st : Stp κ noT w0 ⟨F, s, σ, H⟩) (g : Good G (evXo call x s))
    (q : ∀ r s2 F2 H2, Rel K ad κ ⟨F2, s2, σ, H2⟩ → Stp κ noT ⟨F, s, σ, H⟩ ⟨F2, s2, σ, H2⟩ → Stp κ noT w0 ⟨F2, s2, σ, H2⟩ → G r s2 → Q r H2) : tXo call K ad κ x σ H Q :=
  Run.step R st g q
theorem tRg.step {x : Rg} {G : Int × Int → S → Prop} {Q : Int → Int → Hp → Prop} (R : Rel K ad κ ⟨F, s, σ, H⟩) (st : Stp κ noT w0 ⟨F, s, σ, H⟩) (g : Good G (evRg call x s))
    (q : ∀ r s2 F2 H2, Rel K ad κ ⟨F2, s2, σ, H2⟩ → Stp κ noT ⟨F, s, σ, H⟩ ⟨F2, s2, σ, H2⟩ → Stp κ noT w0 ⟨F2, s2, σ, H2⟩ → G r s2 → Q r.1 r.2 H2) : tRg call K ad κ x σ H Q :=
  Run.step R st g q
/-- what is wanted of a result -/
def Post (K : PySem.W.Frag) (ad : Nat → Addr) (κ : List Addr) (w0 : Wd) (Q : VK) (r : Rv) (s' : S) : Prop :=
  ∀ F' H', Rel K ad κ ⟨F', s', w0.σ, H'⟩ → Stp κ noT w0 ⟨F', s', w0.σ, H'⟩ → ∀ v, RvOk K ad κ ⟨F', s', w0.σ, H'⟩ v r → Fresh w0.H v r → Q v H'
variable {F0 H0 : Hp} {s0 : S} {x y : V} {r q : Rv} {Q : VK}
theorem noTmp {d : D} {a : Addr} : ¬ tmp x (.m (.fro d)) a := fun t => nomatch t.1
/-- a value that is no list of its own -/
theorem Post.fro {d : D} (R : Rel K ad κ ⟨F, s, σ, H⟩) (st : Stp κ noT ⟨F0, s0, σ, H0⟩ ⟨F, s, σ, H⟩) (p : Post K ad κ ⟨F0, s0, σ, H0⟩ Q (.m (.fro d)) s) (h : RepD K F x d) : Q x H :=
  p F H R st x ⟨h, fun a t => (noTmp t).elim⟩ fun a t => (noTmp t).elim
theorem Post.dlv {m : M} (R : Rel K ad κ ⟨F, s, σ, H⟩) (st : Stp κ noT ⟨F0, s0, σ, H0⟩ ⟨F, s, σ, H⟩) (p : Post K ad κ ⟨F0, s0, σ, H0⟩ Q (.m m) s) : Dlv K ad F H m Q :=
  Rel.deliver (w := ⟨F, s, σ, H⟩) R st fun F' H' v R' st' ok fr => p F' H' R' st' v ok fr
theorem kBin_ok {op : Operator} (R : Rel K ad κ ⟨F, s, σ, H⟩) (st : Stp κ noT ⟨F0, s0, σ, H0⟩ ⟨F, s, σ, H⟩) (h1 : RvOk K ad κ ⟨F, s, σ, H⟩ x r) (h2 : RvOk K ad κ ⟨F, s, σ, H⟩ y q)
    (g : Good (Post K ad κ ⟨F0, s0, σ, H0⟩ Q) (kBin op r q s)) : rBin K ad op x y H Q := by
  unfold kBin at g
  split at g
  · rename_i d e hd he
    obtain ⟨a, ha, p⟩ := g.ofO
    obtain ⟨m, hm, rfl⟩ := Option.map_eq_some_iff.mp ha
    exact ⟨F, d, e, m, R.fh, R.see h1 (view_S hd), R.see h2 (view_S he), fun ds e => by subst e; exact R.seeL h1 hd, fun ds e => by subst e; exact R.seeL h2 he, hm, p.dlv R st⟩
  · exact g.elim
theorem kCmp_ok {op : CmpOp} (R : Rel K ad κ ⟨F, s, σ, H⟩) (st : Stp κ noT ⟨F0, s0, σ, H0⟩ ⟨F, s, σ, H⟩) (h1 : RvOk K ad κ ⟨F, s, σ, H⟩ x r) (h2 : RvOk K ad κ ⟨F, s, σ, H⟩ y q)
    (g : Good (Post K ad κ ⟨F0, s0, σ, H0⟩ Q) (kCmp op r q s)) : rCmp K op x y H Q := by
  unfold kCmp at g
  split at g
  · rename_i d e hd he
    obtain ⟨a, ha, p⟩ := g.ofO
    obtain ⟨b, hb, rfl⟩ := Option.map_eq_some_iff.mp ha
    exact ⟨F, d, e, b, R.fh, R.see h1 hd, R.see h2 he, hb, p.fro R st (.bl b)⟩
  · exact g.elim
theorem kIx_ok (R : Rel K ad κ ⟨F, s, σ, H⟩) (st : Stp κ noT ⟨F0, s0, σ, H0⟩ ⟨F, s, σ, H⟩) (h1 : RvOk K ad κ ⟨F, s, σ, H⟩ x r) (h2 : RvOk K ad κ ⟨F, s, σ, H⟩ y q)
    (g : Good (Post K ad κ ⟨F0, s0, σ, H0⟩ Q) (kIx r q s)) : rItem K ad x y H Q := by
  unfold kIx at g
  split at g
  · rename_i d e hd he
    obtain ⟨a, ha, p⟩ := g.ofO
    obtain ⟨z, hz, rfl⟩ := Option.map_eq_some_iff.mp ha
    exact ⟨F, d, e, z, R.fh, R.see h1 hd, R.see h2 he, hz, p.dlv R st⟩
  · exact g.elim
theorem kSl_ok {lo hi : Option Int} (R : Rel K ad κ ⟨F, s, σ, H⟩) (st : Stp κ noT ⟨F0, s0, σ, H0⟩ ⟨F, s, σ, H⟩) (h1 : RvOk K ad κ ⟨F, s, σ, H⟩ x r)
    (g : Good (Post K ad κ ⟨F0, s0, σ, H0⟩ Q) (kSl r lo hi s)) : rCut K ad x lo hi H Q := by
  unfold kSl at g
  split at g
  · rename_i d hd
    obtain ⟨a, ha, p⟩ := g.ofO
    obtain ⟨m, hm, rfl⟩ := Option.map_eq_some_iff.mp ha
    exact ⟨F, d, m, R.fh, R.see h1 hd, hm, p.dlv R st⟩
  · exact g.elim
theorem views_ok {w : Wd} (R : Rel K ad κ w) : ∀ {xs : List V} {rs : List Rv} {ds : List D}, RvsOk K ad κ w H0 xs rs → views w.s rs = some ds → Views K w.F w.H xs ds
  | _, _, ds, .nil, h => by
    have h : some ([] : List D) = some ds := h
    cases h; exact trivial
  | _, _, ds, .cons (r := r) (rs := rs) h1 _ _ h4, h => by
    have h : (match viewS w.s r with
      | some d => (views w.s rs).map (d :: ·)
      | none => none) = some ds := h
    cases q : viewS w.s r with
    | none => rw [q] at h; cases h
    | some d =>
      rw [q] at h
      obtain ⟨ds1, e1, e2⟩ := Option.map_eq_some_iff.mp h
      subst e2
      exact ⟨R.see h1 q, views_ok R h4 e1⟩
theorem kBi_ok {b : Bi} {xs : List V} {rs : List Rv} (R : Rel K ad κ ⟨F, s, σ, H⟩) (st : Stp κ noT ⟨F0, s0, σ, H0⟩ ⟨F, s, σ, H⟩) (h1 : RvsOk K ad κ ⟨F, s, σ, H⟩ H0 xs rs)
    (g : Good (Post K ad κ ⟨F0, s0, σ, H0⟩ Q) (kBi b rs s)) : rBi K ad b xs H Q := by
  unfold kBi at g
  split at g
  · rename_i ds hd
    obtain ⟨a, ha, p⟩ := g.ofO
    obtain ⟨m, hm, rfl⟩ := Option.map_eq_some_iff.mp ha
    exact ⟨F, ds, m, R.fh, views_ok R h1 hd, hm, p.dlv R st⟩
  · exact g.elim
theorem kSrt_ok {t : Ty} (R : Rel K ad κ ⟨F, s, σ, H⟩) (st : Stp κ noT ⟨F0, s0, σ, H0⟩ ⟨F, s, σ, H⟩) (h1 : RvOk K ad κ ⟨F, s, σ, H⟩ x r)
    (g : Good (Post K ad κ ⟨F0, s0, σ, H0⟩ Q) (kSrt t r s)) : rSrt K ad t [x] H Q := by
  unfold kSrt at g
  split at g
  · rename_i ds hd
    obtain ⟨a, ha, p⟩ := g.ofO
    obtain ⟨m, hm, rfl⟩ := Option.map_eq_some_iff.mp ha
    exact ⟨F, x, ds, m, R.fh, rfl, R.see h1 hd, hm, p.dlv R st⟩
  · exact g.elim
theorem kIsi_ok {t : String} (R : Rel K ad κ ⟨F, s, σ, H⟩) (st : Stp κ noT ⟨F0, s0, σ, H0⟩ ⟨F, s, σ, H⟩) (h1 : RvOk K ad κ ⟨F, s, σ, H⟩ x r)
    (g : Good (Post K ad κ ⟨F0, s0, σ, H0⟩ Q) (kIsi t r s)) : rIsD K t [x, .ty t] H Q := by
  unfold kIsi at g
  split at g
  · rename_i d hd
    exact ⟨F, x, d, R.fh, rfl, R.see h1 hd, Post.fro R st g (.bl _)⟩
  · exact g.elim
theorem kTup_ok {xs : List V} {rs : List Rv} (R : Rel K ad κ ⟨F, s, σ, H⟩) (st : Stp κ noT ⟨F0, s0, σ, H0⟩ ⟨F, s, σ, H⟩) (h1 : RvsOk K ad κ ⟨F, s, σ, H⟩ H0 xs rs)
    (g : Good (Post K ad κ ⟨F0, s0, σ, H0⟩ Q) (kTup rs s)) : xs.length ≤ sizeLine ∧ ∀ p, H p = none → Q (.ref p) (upd H p (.tup xs)) := by
  unfold kTup at g
  split at g
  · rename_i ds s2 hd
    split at g
    · rename_i hl
      obtain ⟨F1, R1, st1, l1, rp⟩ := Rel.freezeAll (w := ⟨F, s, σ, H⟩) R st h1 hd
      exact ⟨by rw [rp.length, line_eq]; exact hl, fun p hp => (Post.dlv R1 st1 g).tup R1.fh rp p hp⟩
    · exact g.elim
  · exact g.elim
theorem kLst_ok {xs : List V} {rs : List Rv} (R : Rel K ad κ ⟨F, s, σ, H⟩) (st : Stp κ noT ⟨F0, s0, σ, H0⟩ ⟨F, s, σ, H⟩) (h1 : RvsOk K ad κ ⟨F, s, σ, H⟩ H0 xs rs)
    (g : Good (Post K ad κ ⟨F0, s0, σ, H0⟩ Q) (kLst rs s)) : xs.length ≤ sizeLine ∧ ∀ p, H p = none → Q (.ref p) (upd H p (.lst xs)) := by
  unfold kLst at g
  split at g
  · rename_i ds s2 hd
    split at g
    · rename_i hl
      obtain ⟨F1, R1, st1, l1, rp⟩ := Rel.freezeAll (w := ⟨F, s, σ, H⟩) R st h1 hd
      exact ⟨by rw [rp.length, line_eq]; exact hl, fun p hp => (Post.dlv R1 st1 g).lst R1.fh rp p hp⟩
    · exact g.elim
  · exact g.elim
end

/-! ### the simple expressions -/
section
variable {fnm : Nat → Str} {kwt : List (Nat × List Str × List Nat)} {call : Nat → List Arg → List M → R (List M) M} {ad : Nat → Addr} {κ : List Addr} {X : Cx} {c : MC} {e l r : Expr} {a b : Ex} {p : Pos} {es : List Expr} {as : Xs}
theorem snd_lit {v : V} {d : D} {x : Ex} (h : PE X e (tC v)) (hx : ∀ s, evE call x s = .ok (.m (.fro d)) s) (rp : ∀ F, RepD X.K F v d) : PE X e (tE call X.K ad κ x) := PE.imp h fun σ H Q ⟨F, s, R, g⟩ => by
  rw [hx s] at g
  exact g F H R Stp.refl v ⟨rp F, fun a t => (noTmp t).elim⟩ fun a t => (noTmp t).elim
end
end Ax
/-! A10: each form of expression. -/
namespace Ax
open PySem PySem.Spec PyProof.Rows L2
section
variable {fnm : Nat → Str} {kwt : List (Nat × List Str × List Nat)} {call : Nat → List Arg → List M → R (List M) M} {ad : Nat → Addr} {κ : List Addr} {X : Cx} {c : MC} {e l r : Expr} {a b k : Ex} {p q : Pos} {es : List Expr} {as bs : Xs}
theorem GX.name (g : GX fnm kwt call ad X c) {i : Nat} {x : Str} (h : nameOk c i x = true) : X.N[i]? = some x ∧ Vis X.env.scope x ∧ (x == ("__debug__" : Str)) = false ∧ (x == ("__classdict__" : Str)) = false := by
  unfold nameOk at h
  simp only [Bool.and_eq_true, decide_eq_true_eq, Bool.not_eq_true'] at h
  obtain ⟨⟨⟨h1, h2⟩, h3⟩, h4⟩ := h
  refine ⟨by rw [g.N]; exact h1, ?_, h3, h4⟩
  unfold visB at h2
  rw [g.sc]
  split at h2
  · rename_i q; exact .inl q
  · rename_i q; exact .inr (.inl q)
  · rename_i q; exact .inr (.inr q)
  · cases h2
theorem GX.glob (g : GX fnm kwt call ad X c) {x : Str} (h : globOk c x = true) : Gl X x ∧ (x == ("__debug__" : Str)) = false := by
  unfold globOk at h
  simp only [Bool.and_eq_true, decide_eq_true_eq, Bool.not_eq_true'] at h
  exact ⟨by show X.env.scope.names.lookup x = _; rw [g.sc]; exact h.1, h.2⟩
theorem GX.loc (g : GX fnm kwt call ad X c) {i : Nat} {x : Str} (h : locOk c i x = true) : X.N[i]? = some x ∧ L2.Loc X.env.scope x ∧ (X.fn x = true ∨ X.env.scope.names.lookup x = some .local) := by
  unfold locOk at h
  simp only [Bool.and_eq_true, decide_eq_true_eq] at h
  obtain ⟨h1, h2⟩ := h
  refine ⟨by rw [g.N]; exact h1, ?_⟩
  rw [g.sc]
  unfold L2.Loc
  split at h2
  · rename_i q; exact ⟨.inl q, .inr q⟩
  · rename_i q; exact ⟨.inr q, .inl (g.fn x h2)⟩
  · cases h2

theorem snd_var (g : GX fnm kwt call ad X c) {i : Nat} {x : Str} (h : nameOk c i x = true) : PE X (.Name x p) (tE call X.K ad κ (.var i)) := by
  obtain ⟨h1, h2, h3, h4⟩ := g.name h
  refine PE.imp (pe_var h1 h2 h3 h4) fun σ H Q ⟨F, s, R, gd⟩ => ?_
  have gd : Good _ (match s.at i with
    | some v => if v.own = true then Ax.R.ok (Rv.bor i) s else Ax.R.ok (Rv.m v) s
    | none => Ax.R.bad) := gd
  cases hv : s.at i with
  | none => rw [hv] at gd; exact gd.elim
  | some v =>
    rw [hv] at gd
    obtain ⟨y, hy, hm⟩ := R.at hv
    refine ⟨y, hy, ?_⟩
    cases ho : v.own with
    | true =>
      simp only [ho, if_true] at gd
      exact gd F H R Stp.refl y hy fun a t => t.elim
    | false =>
      simp only [ho] at gd
      exact gd F H R Stp.refl y ⟨hm, fun a t => by rw [t.1] at ho; cases ho⟩ fun a t => by rw [t.1] at ho; cases ho
theorem snd_bin {op : Operator} (ha : PE X l (tE call X.K ad κ a)) (hb : PE X r (tE call X.K ad κ b)) : PE X (.BinOp l op r p) (tE call X.K ad κ (.bin op a b)) := by
  refine PE.imp (pe_op (op_bin (ad := ad) op) ha hb) fun σ H Q ⟨F, s, R, g⟩ => ?_
  have g : Good _ ((evE call a s).bind fun x s1 => (evE call b s1).bind (kBin op x)) := g
  refine tE.step R Stp.refl (good_bind.mp g) fun x s1 F1 H1 R1 _ st1 g1 v1 ok1 fr1 => ?_
  exact tE.step R1 st1 (good_bind.mp g1) fun y s2 F2 H2 R2 st2 st2' g2 v2 ok2 fr2 => kBin_ok R2 st2' (ok1.step0 st2 rfl) ok2 g2
theorem tst_of {w0 : Wd} {F H : Hp} {s : S} {σ : L2.St} {Q : Bool → Hp → Prop} (h : Good (fun b s' => ∀ F' H', Rel X.K ad κ ⟨F', s', σ, H'⟩ → Stp κ noT w0 ⟨F', s', σ, H'⟩ → Q b H') (tst (evE call a s))) :
    Good (fun r s' => ∀ F' H', Rel X.K ad κ ⟨F', s', σ, H'⟩ → Stp κ noT w0 ⟨F', s', σ, H'⟩ → ∀ v, RvOk X.K ad κ ⟨F', s', σ, H'⟩ v r → ∃ b, v = .bl b ∧ Q b H') (evE call a s) := by
  cases e : evE call a s with
  | ok r s' =>
    rw [e] at h
    obtain ⟨b, hb, p⟩ := Good.ofO (show Good _ (ofO (truth r) s') from h)
    intro F' H' R st v ok
    unfold truth at hb
    split at hb
    · cases hb
      cases ok.1
      exact ⟨_, rfl, p F' H' R st⟩
    · cases hb
  | exc c d s' => rw [e] at h; exact h.elim
  | bad => rw [e] at h; exact h.elim
/-- as a test, as a value -/
theorem tT_tE {σ : L2.St} {H : Hp} {Q : Bool → Hp → Prop} (h : tT call X.K ad κ a σ H Q) : tE call X.K ad κ a σ H fun v H' => ∃ k, v = .bl k ∧ Q k H' := by
  obtain ⟨F, s, R, g⟩ := h
  exact ⟨F, s, R, (tst_of (F := F) (H := H) g).mono fun r s' p F' H' R' st' v ok fr => p F' H' R' st' v ok⟩
theorem rd_cmp {op : CmpOp} {σ : L2.St} {H : Hp} {Q : VK} (h : tE call X.K ad κ (.cmp op a b) σ H Q) : tOp (rCmp X.K op) (tE call X.K ad κ a) (tE call X.K ad κ b) σ H Q := by
  obtain ⟨F, s, R, g⟩ := h
  have g : Good _ ((evE call a s).bind fun x s1 => (evE call b s1).bind (kCmp op x)) := g
  refine tE.step R Stp.refl (good_bind.mp g) fun x s1 F1 H1 R1 _ st1 g1 v1 ok1 fr1 => ?_
  exact tE.step R1 st1 (good_bind.mp g1) fun y s2 F2 H2 R2 st2 st2' g2 v2 ok2 fr2 => kCmp_ok R2 st2' (ok1.step0 st2 rfl) ok2 g2
theorem behind_no {op : CmpOp} (hs : notSet r = true) : behindInMarks op r = false := by cases r <;> first | rfl | cases hs
theorem snd_cmp (g0 : GX fnm kwt call ad X c) {op : CmpOp} (ha : PE X l (tE call X.K ad κ a)) (hb : PE X r (tE call X.K ad κ b)) (hs : notSet r = true) : PE X (.Compare l [op] [r] p) (tE call X.K ad κ (.cmp op a b)) :=
  PE.imp (pe_cmpR (op_cmp g0.un op) ha hb (behind_no hs)) fun σ H Q h => rd_cmp h
theorem snd_cmpT (g0 : GX fnm kwt call ad X c) {op : CmpOp} (ha : PE X l (tE call X.K ad κ a)) (hb : PE X r (tE call X.K ad κ b)) (hs : notSet r = true) : PT X (.Compare l [op] [r] p) (tT call X.K ad κ (.cmp op a b)) :=
  PT.imp (pt_cmpR (op_cmp g0.un op) ha hb (behind_no hs)) fun σ H Q h => rd_cmp (tT_tE h)
theorem snd_ix (ha : PE X l (tE call X.K ad κ a)) (hb : PE X r (tE call X.K ad κ b)) (hs : PlainIx r) : PE X (.Subscript l r p) (tE call X.K ad κ (.ix a b)) := by
  refine PE.imp (pe_ix (ix_item (ad := ad)) ha hb hs) fun σ H Q ⟨F, s, R, g⟩ => ?_
  have g : Good _ ((evE call a s).bind fun x s1 => (evE call b s1).bind (kIx x)) := g
  refine tE.step R Stp.refl (good_bind.mp g) fun x s1 F1 H1 R1 _ st1 g1 v1 ok1 fr1 => ?_
  exact tE.step R1 st1 (good_bind.mp g1) fun y s2 F2 H2 R2 st2 st2' g2 v2 ok2 fr2 => kIx_ok R2 st2' (ok1.step0 st2 rfl) ok2 g2
theorem kIsN_ok {neg : Bool} {F0 H0 F H : Hp} {s0 s : S} {σ : L2.St} {x : V} {r : Rv} {Q : VK} (R : Rel X.K ad κ ⟨F, s, σ, H⟩) (st : Stp κ noT ⟨F0, s0, σ, H0⟩ ⟨F, s, σ, H⟩) (ok : RvOk X.K ad κ ⟨F, s, σ, H⟩ x r)
    (g : Good (Post X.K ad κ ⟨F0, s0, σ, H0⟩ Q) (kIsN neg r s)) : Q (.bl (if x = .non then !neg else neg)) H := by
  cases r with
  | m v =>
    by_cases hn : v = .fro .none
    · subst hn
      cases ok.1
      exact Post.fro (x := .bl (!neg)) R st g (.bl _)
    · have hx : x ≠ .non := fun e => by
        subst e
        cases v with
        | fro d =>
          have := ok.1
          cases this
          exact hn rfl
        | lst ds => obtain ⟨a, vs, h, _⟩ := ok.1; cases h
        | lock ds => obtain ⟨a, vs, h, _⟩ := ok.1; cases h
        | scr ns => obtain ⟨a, h, _⟩ := ok.1; cases h
        | fn n => cases (show V.non = V.ref (ad n) from ok.1)
        | dct bb kvs => obtain ⟨a, u, vs, h, _⟩ := ok.1; cases h
      rw [if_neg hx]
      have g' : Good (Post X.K ad κ ⟨F0, s0, σ, H0⟩ Q) (.ok (asBool neg) s) := by
        unfold kIsN at g
        split at g
        · rename_i e; cases e; exact (hn rfl).elim
        · exact g
        · rename_i e; cases e
      exact Post.fro (x := .bl neg) R st g' (.bl _)
  | bor i =>
    have g : Good (Post X.K ad κ ⟨F0, s0, σ, H0⟩ Q) (match s.at i with
      | some v => if v.own = true then .ok (asBool neg) s else .bad
      | none => .bad) := g
    cases hv : s.at i with
    | none => rw [hv] at g; exact g.elim
    | some v =>
      rw [hv] at g
      cases ho : v.own with
      | false => simp only [ho] at g; exact g.elim
      | true =>
        simp only [ho, if_true] at g
        obtain ⟨y, hy, hm⟩ := R.at hv
        rw [show σ[i]? = some (some x) from ok] at hy
        cases hy
        obtain ⟨a, vs, rfl, _⟩ := hm.own_at ho
        rw [if_neg (by simp)]
        exact Post.fro (x := .bl neg) R st g (.bl _)
theorem rd_isN0 {σ : L2.St} {H : Hp} {Q : VK} (h : tE call X.K ad κ (.isN false a) σ H Q) : tOp (fun x y H Q => y = .non ∧ Q (.bl (decide (x = .non))) H) (tE call X.K ad κ a) (tC .non) σ H Q := by
  obtain ⟨F, s, R, g⟩ := h
  have g : Good _ ((evE call a s).bind (kIsN false)) := g
  refine tE.step R Stp.refl (good_bind.mp g) fun x s1 F1 H1 R1 _ st1 g1 v1 ok1 fr1 => ⟨rfl, ?_⟩
  have := kIsN_ok R1 st1 ok1 g1
  by_cases e : v1 = .non
  · rw [if_pos e] at this; simpa [e] using this
  · rw [if_neg e] at this; simpa [e] using this
theorem rd_isN1 {σ : L2.St} {H : Hp} {Q : VK} (h : tE call X.K ad κ (.isN true a) σ H Q) : tOp (fun x y H Q => y = .non ∧ Q (.bl (!decide (x = .non))) H) (tE call X.K ad κ a) (tC .non) σ H Q := by
  obtain ⟨F, s, R, g⟩ := h
  have g : Good _ ((evE call a s).bind (kIsN true)) := g
  refine tE.step R Stp.refl (good_bind.mp g) fun x s1 F1 H1 R1 _ st1 g1 v1 ok1 fr1 => ⟨rfl, ?_⟩
  have := kIsN_ok R1 st1 ok1 g1
  by_cases e : v1 = .non
  · rw [if_pos e] at this; simpa [e] using this
  · rw [if_neg e] at this; simpa [e] using this
theorem snd_isN {neg : Bool} {j : Nat} (ha : PE X l (tE call X.K ad κ a)) : PE X (.Compare l [if neg = true then .IsNot else .Is] [.Constant .none j q] p) (tE call X.K ad κ (.isN neg a)) ∧
    PT X (.Compare l [if neg = true then .IsNot else .Is] [.Constant .none j q] p) (tT call X.K ad κ (.isN neg a)) := by
  cases neg with
  | false => exact ⟨PE.imp (pe_cmpR op_isN ha pe_non rfl) fun σ H Q h => rd_isN0 h, PT.imp (pt_cmpR op_isN ha pe_non rfl) fun σ H Q h => rd_isN0 (tT_tE h)⟩
  | true => exact ⟨PE.imp (pe_cmpR op_notN ha pe_non rfl) fun σ H Q h => rd_isN1 h, PT.imp (pt_cmpR op_notN ha pe_non rfl) fun σ H Q h => rd_isN1 (tT_tE h)⟩
theorem test_val {env : Env} (hn : notTest e = true) (whole : Sem Value) : isTrue e env whole = (do let v ← whole; standAt e.pos; holding [v] (truthy v)) := by
  cases e with
  | UnaryOp op x p => cases op <;> first | rfl | cases hn
  | _ => first | rfl | cases hn
theorem snd_val (ha : PE X e (tE call X.K ad κ a)) (hn : notTest e = true) : PT X e (tT call X.K ad κ a) := PT.imp (pt_val ha (test_val hn)) fun σ H Q h => tT_tE h
theorem snd_neg (ha : PE X l (tE call X.K ad κ a)) : PE X (.UnaryOp .USub l p) (tE call X.K ad κ (.neg a)) := by
  refine PE.imp (pe_un un_neg ha) fun σ H Q ⟨F, s, R, g⟩ => ?_
  have g : Good _ ((evE call a s).bind kNeg) := g
  refine tE.step R Stp.refl (good_bind.mp g) fun x s1 F1 H1 R1 _ st1 g1 v1 ok1 fr1 => ?_
  unfold kNeg at g1
  split at g1
  · cases ok1.1
    exact ⟨_, rfl, Post.fro (x := .int _) R1 st1 g1 (.int _)⟩
  · exact g1.elim
theorem snd_notV (ha : PE X l (tE call X.K ad κ a)) : PE X (.UnaryOp .Not l p) (tE call X.K ad κ (.not a)) := by
  refine PE.imp (pe_not ha) fun σ H Q ⟨F, s, R, g⟩ => ?_
  have g : Good _ ((tst (evE call a s)).bind fun b s1 => .ok (asBool (!b)) s1) := g
  have g := good_bind.mp g
  refine (show tE call X.K ad κ a σ H _ from tT_tE (Q := fun k H1 => Q (.bl (!k)) H1) ⟨F, s, R, g.mono fun b s1 p F1 H1 R1 st1 => Post.fro (x := .bl (!b)) R1 st1 p (.bl _)⟩)
theorem snd_notT (ha : PT X l (tT call X.K ad κ a)) : PT X (.UnaryOp .Not l p) (tT call X.K ad κ (.not a)) := by
  refine PT.imp (pt_not ha) fun σ H Q ⟨F, s, R, g⟩ => ?_
  have g : Good _ (tst ((tst (evE call a s)).bind fun b s1 => .ok (asBool (!b)) s1)) := g
  cases e : tst (evE call a s) with
  | ok b s1 =>
    rw [e] at g
    exact ⟨F, s, R, by show Good _ (tst (evE call a s)); rw [e]; exact g⟩
  | exc c d s1 => rw [e] at g; exact g.elim
  | bad => rw [e] at g; exact g.elim
theorem snd_ite {k : Ex} {t : Expr} (hk : PT X t (tT call X.K ad κ k)) (ha : PE X l (tE call X.K ad κ a)) (hb : PE X r (tE call X.K ad κ b)) : PE X (.IfExp t l r p) (tE call X.K ad κ (.ite k a b)) := by
  refine PE.imp (pe_ifExp hk ha hb) fun σ H Q ⟨F, s, R, g⟩ => ?_
  have g : Good _ ((tst (evE call k s)).bind fun z s1 => if z = true then evE call a s1 else evE call b s1) := g
  refine tT.step R Stp.refl (good_bind.mp g) fun z s1 F1 H1 R1 st st1 g1 => ?_
  cases z with
  | true => exact tE.step R1 st1 g1 fun r s2 F2 H2 R2 st2 st2' p v ok fr => p F2 H2 R2 st2' v ok (Fresh.back (w := ⟨F, s, σ, H⟩) (w' := ⟨F1, s1, σ, H1⟩) fr st)
  | false => exact tE.step R1 st1 g1 fun r s2 F2 H2 R2 st2 st2' p v ok fr => p F2 H2 R2 st2' v ok (Fresh.back (w := ⟨F, s, σ, H⟩) (w' := ⟨F1, s1, σ, H1⟩) fr st)
theorem snd_tup {z : Nat} (ha : PA X es (tXs call X.K ad κ as)) : PE X (.Tuple es z p) (tE call X.K ad κ (.tup as)) := by
  refine PE.imp (pe_tup ha) fun σ H Q ⟨F, s, R, g⟩ => ?_
  have g : Good _ ((evXs call as s).bind kTup) := g
  exact tXs.step R Stp.refl (good_bind.mp g) fun rs s1 F1 H1 R1 _ st1 g1 vs ok1 => kTup_ok R1 st1 ok1 g1
theorem snd_lst (ha : PA X es (tXs call X.K ad κ as)) : PE X (.List es p) (tE call X.K ad κ (.lst as)) := by
  refine PE.imp (pe_lst ha) fun σ H Q ⟨F, s, R, g⟩ => ?_
  have g : Good _ ((evXs call as s).bind kLst) := g
  exact tXs.step R Stp.refl (good_bind.mp g) fun rs s1 F1 H1 R1 _ st1 g1 vs ok1 => kLst_ok R1 st1 ok1 g1
theorem rd_frz {σ : L2.St} {H : Hp} {Q : VK} (h : tE call X.K ad κ (.frz a) σ H Q) : tE call X.K ad κ a σ H Q := by
  obtain ⟨F, s, R, g⟩ := h
  have g : Good _ ((evE call a s).bind kFrz) := g
  refine tE.step R Stp.refl (good_bind.mp g) fun x s1 F1 H1 R1 _ st1 g1 v1 ok1 fr1 => ?_
  unfold kFrz at g1
  split at g1
  · rename_i d s2 hd
    obtain ⟨F2, R2, st2, _, rp⟩ := Rel.freeze0 (w0 := ⟨F, s, σ, H⟩) (w := ⟨F1, s1, σ, H1⟩) R1 st1 ok1 fr1 hd
    exact Post.fro (x := v1) R2 st2 g1 rp
  · exact g1.elim
theorem snd_frz (ha : PE X e (tE call X.K ad κ a)) : PE X e (tE call X.K ad κ (.frz a)) := PE.imp ha fun σ H Q h => rd_frz h
theorem snd_nil : PA X [] (tXs call X.K ad κ .nil) := PA.imp pa_nil fun σ H Q ⟨F, s, R, g⟩ => by
  have g : Good _ (Ax.R.ok ([] : List Rv) s) := g
  exact g F H R Stp.refl [] .nil
theorem rd_cons {σ : L2.St} {H : Hp} {Q : List V → Hp → Prop} (h : tXs call X.K ad κ (.cons a as) σ H Q) : tCons (tE call X.K ad κ a) (tXs call X.K ad κ as) σ H Q := by
  obtain ⟨F, s, R, g⟩ := h
  have g : Good _ ((evE call a s).bind fun r s1 => (evXs call as s1).bind fun rs s2 => .ok (r :: rs) s2) := g
  refine tE.step R Stp.refl (good_bind.mp g) fun x s1 F1 H1 R1 st st1 g1 v1 ok1 fr1 => ?_
  exact tXs.step R1 st1 (good_bind.mp g1) fun rs s2 F2 H2 R2 st2 st2' g2 vs oks => g2 F2 H2 R2 st2' (v1 :: vs) (RvsOk.front (w0 := ⟨F, s, σ, H⟩) (w := ⟨F1, s1, σ, H1⟩) (w' := ⟨F2, s2, σ, H2⟩) ok1 fr1 st st2 rfl oks)
theorem snd_cons (n : noStar e = true) (ha : PE X e (tE call X.K ad κ a)) (hs : PA X es (tXs call X.K ad κ as)) : PA X (e :: es) (tXs call X.K ad κ (.cons a as)) := PA.imp (pa_cons ha hs (star1 n)) fun σ H Q h => rd_cons h
theorem snd_knil : PK X [] (tXs call X.K ad κ .nil) := PK.imp pk_nil fun σ H Q ⟨F, s, R, g⟩ => by
  have g : Good _ (Ax.R.ok ([] : List Rv) s) := g
  exact g F H R Stp.refl [] .nil
theorem snd_kcons {n : Option Str} {kws : List Keyword} (ha : PE X e (tE call X.K ad κ a)) (hs : PK X kws (tXs call X.K ad κ as)) : PK X (⟨n, e, p⟩ :: kws) (tXs call X.K ad κ (.cons a as)) := PK.imp (pk_cons ha hs) fun σ H Q h => rd_cons h
theorem snd_no : PO X none (tXo call X.K ad κ .no) := PO.imp po_none fun σ H Q ⟨F, s, R, g⟩ => by
  have g : Good _ (Ax.R.ok (none : Option Int) s) := g
  exact g F H R Stp.refl
theorem snd_so (ha : PE X e (tE call X.K ad κ a)) : PO X (some e) (tXo call X.K ad κ (.so a)) := PO.imp (po_some ha) fun σ H Q ⟨F, s, R, g⟩ => by
  have g : Good _ ((evE call a s).bind kInt) := g
  refine tE.step R Stp.refl (good_bind.mp g) fun x s1 F1 H1 R1 _ st1 g1 v1 ok1 fr1 => ?_
  unfold kInt at g1
  split at g1
  · cases ok1.1
    exact ⟨_, rfl, g1 F1 H1 R1 st1⟩
  · exact g1.elim
theorem snd_sl {lo hi : Xo} {le he : Option Expr} (ha : PE X l (tE call X.K ad κ a)) (h1 : PO X le (tXo call X.K ad κ lo)) (h2 : PO X he (tXo call X.K ad κ hi)) : PE X (.Subscript l (.Slice le he none q) p) (tE call X.K ad κ (.sl a lo hi)) := by
  refine PE.imp (pe_slice (sl_cut (ad := ad)) ha h1 h2) fun σ H Q ⟨F, s, R, g⟩ => ?_
  have g : Good _ ((evE call a s).bind fun x s1 => (evXo call lo s1).bind fun l s2 => (evXo call hi s2).bind (kSl x l)) := g
  refine tE.step R Stp.refl (good_bind.mp g) fun x s1 F1 H1 R1 _ st1 g1 v1 ok1 fr1 => ?_
  refine tXo.step R1 st1 (good_bind.mp g1) fun lo s2 F2 H2 R2 st2 st2' g2 => ?_
  exact tXo.step R2 st2' (good_bind.mp g2) fun hi s3 F3 H3 R3 st3 st3' g3 => kSl_ok R3 st3' ((ok1.step0 st2 rfl).step0 st3 rfl) g3
end
end Ax
/-! A11: and, or, calls, methods. -/
namespace Ax
open PySem PySem.Spec PyProof.Rows L2
section
variable {fnm : Nat → Str} {kwt : List (Nat × List Str × List Nat)} {call : Nat → List Arg → List M → R (List M) M} {ad : Nat → Addr} {κ : List Addr} {X : Cx} {c : MC} {e l r : Expr} {a b k : Ex} {p q p' q' : Pos} {es : List Expr} {as bs : Xs}
/-- each text of a list is sound, as a value and as a test -/
def Each (call : Nat → List Arg → List M → R (List M) M) (ad : Nat → Addr) (κ : List Addr) (X : Cx) : Xs → List Expr → Prop
  | .nil, [] => True
  | .cons a as, e :: es => (PE X e (tE call X.K ad κ a) ∧ (tstOk a e = true → PT X e (tT call X.K ad κ a))) ∧ Each call ad κ X as es
  | _, _ => False
theorem rd_and1 {σ : L2.St} {H : Hp} {Q : Bool → Hp → Prop} (h : tAnds call X.K ad κ (.cons a .nil) σ H Q) : tT call X.K ad κ a σ H Q := by
  obtain ⟨F, s, R, g⟩ := h
  have g : Good _ ((tst (evE call a s)).bind fun b s1 => if b = true then Ax.R.ok true s1 else .ok false s1) := g
  exact tT.step R Stp.refl (good_bind.mp g) fun b s1 F1 H1 R1 _ st1 g1 => by
    cases b with
    | true => exact g1 F1 H1 R1 st1
    | false => exact g1 F1 H1 R1 st1
theorem rd_and {σ : L2.St} {H : Hp} {Q : Bool → Hp → Prop} (h : tAnds call X.K ad κ (.cons a (.cons b as)) σ H Q) : tAnd (tT call X.K ad κ a) (tAnds call X.K ad κ (.cons b as)) σ H Q := by
  obtain ⟨F, s, R, g⟩ := h
  have g : Good _ ((tst (evE call a s)).bind fun z s1 => if z = true then evAnd call (.cons b as) s1 else .ok false s1) := g
  refine tT.step R Stp.refl (good_bind.mp g) fun z s1 F1 H1 R1 _ st1 g1 => ?_
  cases z with
  | true =>
    have g1 : Good _ (evAnd call (.cons b as) s1) := g1
    exact Run.step (f := evAnd call (.cons b as)) (P := fun b w w' => Q b w'.H) R1 st1 g1 fun z s2 F2 H2 R2 st2 st2' g2 => g2 F2 H2 R2 st2'
  | false => exact g1 F1 H1 R1 st1
theorem rd_or1 {σ : L2.St} {H : Hp} {Q : Bool → Hp → Prop} (h : tOrs call X.K ad κ (.cons a .nil) σ H Q) : tT call X.K ad κ a σ H Q := by
  obtain ⟨F, s, R, g⟩ := h
  have g : Good _ ((tst (evE call a s)).bind fun b s1 => if b = true then Ax.R.ok true s1 else .ok false s1) := g
  exact tT.step R Stp.refl (good_bind.mp g) fun b s1 F1 H1 R1 _ st1 g1 => by
    cases b with
    | true => exact g1 F1 H1 R1 st1
    | false => exact g1 F1 H1 R1 st1
theorem rd_or {σ : L2.St} {H : Hp} {Q : Bool → Hp → Prop} (h : tOrs call X.K ad κ (.cons a (.cons b as)) σ H Q) : tOr (tT call X.K ad κ a) (tOrs call X.K ad κ (.cons b as)) σ H Q := by
  obtain ⟨F, s, R, g⟩ := h
  have g : Good _ ((tst (evE call a s)).bind fun z s1 => if z = true then Ax.R.ok true s1 else evOr call (.cons b as) s1) := g
  refine tT.step R Stp.refl (good_bind.mp g) fun z s1 F1 H1 R1 _ st1 g1 => ?_
  cases z with
  | false =>
    have g1 : Good _ (evOr call (.cons b as) s1) := g1
    exact Run.step (f := evOr call (.cons b as)) (P := fun b w w' => Q b w'.H) R1 st1 g1 fun z s2 F2 H2 R2 st2 st2' g2 => g2 F2 H2 R2 st2'
  | true => exact g1 F1 H1 R1 st1
theorem snd_andW : ∀ {as : Xs} {es : List Expr} {a : Ex} {e : Expr}, tstsOk (.cons a as) (e :: es) = true → Each call ad κ X (.cons a as) (e :: es) → PW X (.BoolOp .And (e :: es) p) (tAnds call X.K ad κ (.cons a as))
  | .nil, [], a, e, ht, h => by
    have ht : (tstOk a e && true) = true := ht
    rw [Bool.and_true] at ht
    exact PW.imp (pw_and1 (h.1.2 ht)) fun σ H Q q => rd_and1 q
  | .cons b as, e2 :: es, a, e, ht, h => by
    have ht : (tstOk a e && tstsOk (.cons b as) (e2 :: es)) = true := ht
    rw [Bool.and_eq_true] at ht
    exact PW.imp (pw_and (h.1.2 ht.1) (snd_andW ht.2 h.2)) fun σ H Q q => rd_and q
  | .nil, _ :: _, _, _, _, h => h.2.elim
  | .cons _ _, [], _, _, _, h => h.2.elim
theorem snd_orW : ∀ {as : Xs} {es : List Expr} {a : Ex} {e : Expr}, tstsOk (.cons a as) (e :: es) = true → Each call ad κ X (.cons a as) (e :: es) → PW X (.BoolOp .Or (e :: es) p) (tOrs call X.K ad κ (.cons a as))
  | .nil, [], a, e, ht, h => by
    have ht : (tstOk a e && true) = true := ht
    rw [Bool.and_true] at ht
    exact PW.imp (pw_or1 (h.1.2 ht)) fun σ H Q q => rd_or1 q
  | .cons b as, e2 :: es, a, e, ht, h => by
    have ht : (tstOk a e && tstsOk (.cons b as) (e2 :: es)) = true := ht
    rw [Bool.and_eq_true] at ht
    exact PW.imp (pw_or (h.1.2 ht.1) (snd_orW ht.2 h.2)) fun σ H Q q => rd_or q
  | .nil, _ :: _, _, _, _, h => h.2.elim
  | .cons _ _, [], _, _, _, h => h.2.elim
/-- a reading of a test, as one of a value -/
theorem bool_val {σ : L2.St} {H : Hp} {f : S → Ax.R S Bool} {Q : VK} (h : Run X.K ad κ σ H (fun s => (f s).bind fun b s1 => .ok (asBool b) s1) fun r w w' => ∀ v, RvOk X.K ad κ w' v r → Fresh w.H v r → Q v w'.H) :
    Run X.K ad κ σ H f fun b w w' => Q (.bl b) w'.H := by
  obtain ⟨F, s, R, g⟩ := h
  exact ⟨F, s, R, (good_bind.mp g).mono fun b s1 p F1 H1 R1 st1 => Post.fro (x := .bl b) (F0 := F) (s0 := s) (H0 := H) R1 st1 p (.bl b)⟩
theorem snd_andE : ∀ {as : Xs} {es : List Expr} {a : Ex} {e : Expr}, Each call ad κ X (.cons a as) (e :: es) → PE X (.BoolOp .And (e :: es) p) (fun σ H Q => tAnds call X.K ad κ (.cons a as) σ H fun b H1 => Q (.bl b) H1)
  | .nil, [], a, e, h => PE.imp (pe_one h.1.1) fun σ H Q q => by
    obtain ⟨F, s, R, g⟩ := tT_tE (rd_and1 q)
    exact ⟨F, s, R, g.mono fun r s1 p F1 H1 R1 st1 v ok fr => by
      obtain ⟨b, rfl, z⟩ := p F1 H1 R1 st1 v ok fr
      exact z⟩
  | .cons b as, e2 :: es, a, e, h => PE.imp (pe_and h.1.1 (snd_andE h.2)) fun σ H Q q => by
    have := rd_and q
    obtain ⟨F, s, R, g⟩ := tT_tE this
    exact ⟨F, s, R, g.mono fun r s1 p F1 H1 R1 st1 v ok fr => p F1 H1 R1 st1 v ok fr⟩
  | .nil, _ :: _, _, _, h => h.2.elim
  | .cons _ _, [], _, _, h => h.2.elim
theorem snd_orE : ∀ {as : Xs} {es : List Expr} {a : Ex} {e : Expr}, Each call ad κ X (.cons a as) (e :: es) → PE X (.BoolOp .Or (e :: es) p) (fun σ H Q => tOrs call X.K ad κ (.cons a as) σ H fun b H1 => Q (.bl b) H1)
  | .nil, [], a, e, h => PE.imp (pe_one h.1.1) fun σ H Q q => by
    obtain ⟨F, s, R, g⟩ := tT_tE (rd_or1 q)
    exact ⟨F, s, R, g.mono fun r s1 p F1 H1 R1 st1 v ok fr => by
      obtain ⟨b, rfl, z⟩ := p F1 H1 R1 st1 v ok fr
      exact z⟩
  | .cons b as, e2 :: es, a, e, h => PE.imp (pe_or h.1.1 (snd_orE h.2)) fun σ H Q q => by
    have := rd_or q
    obtain ⟨F, s, R, g⟩ := tT_tE this
    exact ⟨F, s, R, g.mono fun r s1 p F1 H1 R1 st1 v ok fr => p F1 H1 R1 st1 v ok fr⟩
  | .nil, _ :: _, _, _, h => h.2.elim
  | .cons _ _, [], _, _, h => h.2.elim
theorem tst_bool {f : Ax.R S Bool} : tst (f.bind fun b s1 => .ok (asBool b) s1) = f := by cases f <;> rfl
theorem snd_and (ht : tstsOk as es = true) (h : Each call ad κ X as es) (hn : as ≠ .nil) : PE X (.BoolOp .And es p) (tE call X.K ad κ (.and as)) ∧ PT X (.BoolOp .And es p) (tT call X.K ad κ (.and as)) := by
  match as, es, h with
  | .cons a as, e :: es, h =>
    refine ⟨PE.imp (snd_andE h) fun σ H Q q => bool_val q, PT.imp (snd_andW ht h).pt fun σ H Q ⟨F, s, R, g⟩ => ⟨F, s, R, ?_⟩⟩
    have g : Good _ (tst ((evAnd call (.cons a as) s).bind fun b s1 => .ok (asBool b) s1)) := g
    rw [tst_bool] at g
    exact g
  | .nil, _, _ => exact (hn rfl).elim
theorem snd_or (ht : tstsOk as es = true) (h : Each call ad κ X as es) (hn : as ≠ .nil) : PE X (.BoolOp .Or es p) (tE call X.K ad κ (.or as)) ∧ PT X (.BoolOp .Or es p) (tT call X.K ad κ (.or as)) := by
  match as, es, h with
  | .cons a as, e :: es, h =>
    refine ⟨PE.imp (snd_orE h) fun σ H Q q => bool_val q, PT.imp (snd_orW ht h).pt fun σ H Q ⟨F, s, R, g⟩ => ⟨F, s, R, ?_⟩⟩
    have g : Good _ (tst ((evOr call (.cons a as) s).bind fun b s1 => .ok (asBool b) s1)) := g
    rw [tst_bool] at g
    exact g
  | .nil, _, _ => exact (hn rfl).elim

/-! ### built-in functions -/
theorem GX.bl (g : GX fnm kwt call ad X c) (x : Str) (h : x ∈ bltNames := by decide) : X.mg x = none := g.blt x h
theorem rd_bi {bf : Bi} {σ : L2.St} {H : Hp} {Q : VK} (h : tE call X.K ad κ (.bi bf as) σ H Q) : tCB (rBi X.K ad bf) (tXs call X.K ad κ as) σ H Q := by
  obtain ⟨F, s, R, g⟩ := h
  have g : Good _ ((evXs call as s).bind (kBi bf)) := g
  exact tXs.step R Stp.refl (good_bind.mp g) fun rs s1 F1 H1 R1 _ st1 g1 vs ok1 => kBi_ok R1 st1 ok1 g1
theorem snd_bi (g : GX fnm kwt call ad X c) {bf : Bi} (hg : globOk c (biN bf) = true) (n1 : noStar e = true) (n2 : noStars es = true) (ha : PA X (e :: es) (tXs call X.K ad κ as)) : PE X (.Call (.Name (biN bf) q) (e :: es) [] p) (tE call X.K ad κ (.bi bf as)) := by
  obtain ⟨h1, h2⟩ := g.glob hg
  have cr := cr_bi (ad := ad) g.calm g.un g.gd bf
  cases bf with
  | len => exact PE.imp (pe_callB cr h1 (g.bl "len") (by decide +kernel) ha (by decide) h2 (star1 n1) (star_any n2)) fun σ H Q h => rd_bi h
  | tuple => exact PE.imp (pe_callTy cr h1 (g.bl "tuple") (by decide +kernel) ha (by decide) h2 (star1 n1) (star_any n2)) fun σ H Q h => rd_bi h
  | list => exact PE.imp (pe_callTy cr h1 (g.bl "list") (by decide +kernel) ha (by decide) h2 (star1 n1) (star_any n2)) fun σ H Q h => rd_bi h
  | all => exact PE.imp (pe_callB cr h1 (g.bl "all") (by decide +kernel) ha (by decide) h2 (star1 n1) (star_any n2)) fun σ H Q h => rd_bi h
  | any => exact PE.imp (pe_callB cr h1 (g.bl "any") (by decide +kernel) ha (by decide) h2 (star1 n1) (star_any n2)) fun σ H Q h => rd_bi h
  | min2 => exact PE.imp (pe_callB cr h1 (g.bl "min") (by decide +kernel) ha (by decide) h2 (star1 n1) (star_any n2)) fun σ H Q h => rd_bi h
  | max2 => exact PE.imp (pe_callB cr h1 (g.bl "max") (by decide +kernel) ha (by decide) h2 (star1 n1) (star_any n2)) fun σ H Q h => rd_bi h
  | abs => exact PE.imp (pe_callB cr h1 (g.bl "abs") (by decide +kernel) ha (by decide) h2 (star1 n1) (star_any n2)) fun σ H Q h => rd_bi h
  | int => exact PE.imp (pe_callTy cr h1 (g.bl "int") (by decide +kernel) ha (by decide) h2 (star1 n1) (star_any n2)) fun σ H Q h => rd_bi h
  | repr => exact PE.imp (pe_callB cr h1 (g.bl "repr") (by decide +kernel) ha (by decide) h2 (star1 n1) (star_any n2)) fun σ H Q h => rd_bi h
theorem snd_srt (g : GX fnm kwt call ad X c) {t : Ty} (hg : globOk c "sorted" = true) (n1 : noStar e = true) (ha : PE X e (tE call X.K ad κ a)) : PE X (.Call (.Name "sorted" q) [e] [] p) (tE call X.K ad κ (.srt t a)) := by
  obtain ⟨h1, h2⟩ := g.glob hg
  refine PE.imp (pe_callB (cr_srt (ad := ad) g.un t) h1 (g.bl "sorted") (by decide +kernel) (pa_cons ha pa_nil (star1 n1)) (by decide) h2 (star1 n1) rfl) fun σ H Q ⟨F, s, R, gd⟩ => ?_
  have gd : Good _ ((evE call a s).bind (kSrt t)) := gd
  exact tE.step R Stp.refl (good_bind.mp gd) fun x s1 F1 H1 R1 _ st1 g1 v1 ok1 fr1 => kSrt_ok R1 st1 ok1 g1
theorem snd_isi (g : GX fnm kwt call ad X c) {t : String} (hg : globOk c "isinstance" = true) (hg2 : globOk c (Str.ofString t) = true) (ht : t ∈ isTs) (n1 : noStar e = true) (ha : PE X e (tE call X.K ad κ a)) :
    PE X (.Call (.Name "isinstance" q) [e, .Name (Str.ofString t) q'] [] p) (tE call X.K ad κ (.isi t a)) := by
  obtain ⟨h1, h2⟩ := g.glob hg
  obtain ⟨h3, h4⟩ := g.glob hg2
  have ty : PE X (.Name (Str.ofString t) q') (tC (.ty t)) := by
    simp only [isTs, List.mem_cons, List.not_mem_nil, or_false] at ht
    rcases ht with rfl | rfl | rfl | rfl | rfl | rfl
    · exact pe_bltn h3 (g.bl "int") (by decide +kernel) rfl (by decide) h4
    · exact pe_bltn h3 (g.bl "bool") (by decide +kernel) rfl (by decide) h4
    · exact pe_bltn h3 (g.bl "str") (by decide +kernel) rfl (by decide) h4
    · exact pe_bltn h3 (g.bl "list") (by decide +kernel) rfl (by decide) h4
    · exact pe_bltn h3 (g.bl "tuple") (by decide +kernel) rfl (by decide) h4
    · exact pe_bltn h3 (g.bl "dict") (by decide +kernel) rfl (by decide) h4
  refine PE.imp (pe_callB (cr_isD ht) h1 (g.bl "isinstance") (by decide +kernel) (pa_cons ha (pa_cons ty pa_nil) (star1 n1)) (by decide) h2 (star1 n1) rfl) fun σ H Q ⟨F, s, R, gd⟩ => ?_
  have gd : Good _ ((evE call a s).bind (kIsi t)) := gd
  exact tE.step R Stp.refl (good_bind.mp gd) fun x s1 F1 H1 R1 _ st1 g1 v1 ok1 fr1 => kIsi_ok R1 st1 ok1 g1
theorem snd_fnv (g : GX fnm kwt call ad X c) {f : Nat} (hg : globOk c (fnm f) = true) (hk : (f, [], []) ∈ kwt) : PE X (.Name (fnm f) p) (tE call X.K ad κ (.fnv f)) := by
  obtain ⟨h1, h2⟩ := g.glob hg
  refine PE.imp (pe_glob (v := .ref (ad f)) h1 (g.fv f hk) rfl h2) fun σ H Q ⟨F, s, R, gd⟩ => ?_
  have gd : Good _ (Ax.R.ok (Rv.m (.fn f)) s) := gd
  exact gd F H R Stp.refl _ ⟨rfl, fun a t => nomatch t.1⟩ fun a t => nomatch t.1

/-! ### ranges -/
theorem prg_of (g : GX fnm kwt call ad X c) (hg : globOk c "range" = true) {rg : Rg} {t : L2.St → Hp → (Int → Int → Hp → Prop) → Prop} (h : PRg X (.Call (.Name "range" q) es [] p) t) (hq : ∀ σ H Q, tRg call X.K ad κ rg σ H Q → t σ H Q) :
    PRg X (.Call (.Name "range" q) es [] p) (tRg call X.K ad κ rg) := fun pins s σ H Q I z => h pins s σ H Q I (hq σ H Q z)
theorem snd_r1 (g : GX fnm kwt call ad X c) (hg : globOk c "range" = true) (n1 : noStar e = true) (ha : PE X e (tE call X.K ad κ a)) : PRg X (.Call (.Name "range" q) [e] [] p) (tRg call X.K ad κ (.r1 a)) := by
  obtain ⟨h1, h2⟩ := g.glob hg
  refine prg_of g hg (prg_1 h1 (g.bl "range") ha (star1 n1)) fun σ H Q ⟨F, s, R, gd⟩ => ?_
  have gd : Good _ ((evE call a s).bind kR1) := gd
  refine tE.step R Stp.refl (good_bind.mp gd) fun x s1 F1 H1 R1 _ st1 g1 v1 ok1 fr1 => ?_
  unfold kR1 at g1
  split at g1
  · cases ok1.1
    exact ⟨_, rfl, g1 F1 H1 R1 st1⟩
  · exact g1.elim
theorem snd_r2 (g : GX fnm kwt call ad X c) (hg : globOk c "range" = true) (n1 : noStar l = true) (n2 : noStar r = true) (ha : PE X l (tE call X.K ad κ a)) (hb : PE X r (tE call X.K ad κ b)) :
    PRg X (.Call (.Name "range" q) [l, r] [] p) (tRg call X.K ad κ (.r2 a b)) := by
  obtain ⟨h1, h2⟩ := g.glob hg
  refine prg_of g hg (prg_2 h1 (g.bl "range") ha hb (star1 n1) (star1 n2) (by rw [star1 n2]; rfl)) fun σ H Q ⟨F, s, R, gd⟩ => ?_
  have gd : Good _ ((evE call a s).bind fun x s1 => (evE call b s1).bind (kR2 x)) := gd
  refine tE.step R Stp.refl (good_bind.mp gd) fun x s1 F1 H1 R1 _ st1 g1 v1 ok1 fr1 => ?_
  refine tE.step R1 st1 (good_bind.mp g1) fun y s2 F2 H2 R2 st2 st2' g2 v2 ok2 fr2 => ?_
  unfold kR2 at g2
  split at g2
  · cases ok1.1
    cases ok2.1
    exact ⟨_, _, rfl, rfl, g2 F2 H2 R2 st2'⟩
  · exact g2.elim
theorem rgV_rep {F : Hp} (lo hi : Int) : RepAll X.K F (rgV lo hi) (rgD lo hi) := by
  unfold rgV rgD
  generalize List.range (hi - lo).toNat = l
  induction l with
  | nil => exact .nil
  | cons i l ih => exact .cons (.int _) ih
theorem kRng_ok {tup : Bool} {F0 H0 F H : Hp} {s0 s : S} {σ : L2.St} {pr : Int × Int} {Q : VK} (R : Rel X.K ad κ ⟨F, s, σ, H⟩) (st : Stp κ noT ⟨F0, s0, σ, H0⟩ ⟨F, s, σ, H⟩) (g : Good (Post X.K ad κ ⟨F0, s0, σ, H0⟩ Q) (kRng tup pr s)) :
    RgOk pr.1 pr.2 ∧ ∀ z, H z = none → Q (.ref z) (upd H z (if tup = true then .tup (rgV pr.1 pr.2) else .lst (rgV pr.1 pr.2))) := by
  unfold kRng at g
  split at g
  · rename_i h
    obtain ⟨h1, h2⟩ := h
    unfold rgOk at h1
    simp only [Bool.and_eq_true, decide_eq_true_eq] at h1
    have h2 : (pr.2 - pr.1).toNat ≤ 16777216 := h2
    refine ⟨⟨by omega, by omega, by omega, by omega, by omega⟩, fun z hz => ?_⟩
    cases tup with
    | true => exact Dlv.tup (ad := ad) (Post.dlv R st g) R.fh (rgV_rep _ _) z hz
    | false => exact Dlv.lst (ad := ad) (Post.dlv R st g) R.fh (rgV_rep _ _) z hz
  · exact g.elim
theorem snd_rng (g : GX fnm kwt call ad X c) {tup : Bool} {rg : Rg} (hg : globOk c (if tup = true then "tuple" else "list") = true) (ha : PRg X (.Call (.Name "range" q') es [] p') (tRg call X.K ad κ rg)) :
    PE X (.Call (.Name (if tup = true then "tuple" else "list") q) [.Call (.Name "range" q') es [] p'] [] p) (tE call X.K ad κ (.rng tup rg)) := by
  obtain ⟨h1, h2⟩ := g.glob hg
  cases tup with
  | true =>
    refine PE.imp (pe_tupRg g.calm h1 (g.bl "tuple") ha rfl) fun σ H Q ⟨F, s, R, gd⟩ => ?_
    have gd : Good _ ((evRg call rg s).bind (kRng true)) := gd
    exact tRg.step R Stp.refl (good_bind.mp gd) fun x s1 F1 H1 R1 _ st1 g1 => kRng_ok R1 st1 g1
  | false =>
    refine PE.imp (pe_listRg g.calm h1 (g.bl "list") ha rfl) fun σ H Q ⟨F, s, R, gd⟩ => ?_
    have gd : Good _ ((evRg call rg s).bind (kRng false)) := gd
    exact tRg.step R Stp.refl (good_bind.mp gd) fun x s1 F1 H1 R1 _ st1 g1 => kRng_ok R1 st1 g1

/-! ### calls of defs -/
theorem evXs_len : ∀ {as : Xs} {s s' : S} {rs : List Rv}, evXs call as s = .ok rs s' → rs.length = as.len
  | .nil, s, s', rs, h => by
    have h : Ax.R.ok ([] : List Rv) s = .ok rs s' := h
    cases h; rfl
  | .cons a as, s, s', rs, h => by
    have h : ((evE call a s).bind fun r s1 => (evXs call as s1).bind fun rs s2 => .ok (r :: rs) s2) = .ok rs s' := h
    cases e : evE call a s with
    | ok r s1 =>
      rw [e] at h
      have h : ((evXs call as s1).bind fun rs s2 => Ax.R.ok (r :: rs) s2) = .ok rs s' := h
      cases e2 : evXs call as s1 with
      | ok rs2 s2 =>
        rw [e2] at h
        have h : Ax.R.ok (r :: rs2) s2 = .ok rs s' := h
        cases h
        show rs2.length + 1 = as.len + 1
        rw [evXs_len e2]
      | exc c d s2 => rw [e2] at h; cases h
      | bad => rw [e2] at h; cases h
    | exc c d s1 => rw [e] at h; cases h
    | bad => rw [e] at h; cases h
theorem fm_range {α : Type} : ∀ (l pre : List α), ((List.range' pre.length l.length).filterMap fun i => (pre ++ l)[i]?) = l
  | [], pre => rfl
  | x :: l, pre => by
    rw [List.length_cons, List.range'_succ, List.filterMap_cons]
    have e : (pre ++ x :: l)[pre.length]? = some x := by simp
    rw [e]
    have ih := fm_range l (pre ++ [x])
    simp only [List.append_assoc, List.length_append, List.length_singleton, List.singleton_append] at ih
    show x :: _ = _
    rw [ih]
theorem filterMap_range {α : Type} (l : List α) : ((List.range l.length).filterMap fun i => l[i]?) = l := by
  have := fm_range l []
  rw [List.range_eq_range']
  exact this
theorem ArgsOk.none {F H : Hp} {κ' : List Addr} : ∀ {vs : List V} {as : List Arg} {i : Nat}, ArgsOk X.K ad F H κ' vs as → vs[i]? = none → as[i]? = none := fun {vs as i} h e => by
  have := h.length
  have h2 := List.getElem?_eq_none_iff.mp e
  exact List.getElem?_eq_none_iff.mpr (by omega)
theorem ArgsOk.get {F H : Hp} {κ' : List Addr} : ∀ {vs : List V} {as : List Arg} {i : Nat} {v : V}, ArgsOk X.K ad F H κ' vs as → vs[i]? = some v → ∃ z, as[i]? = some z ∧ ∀ {vs' : List V} {as' : List Arg}, ArgsOk X.K ad F H κ' vs' as' → ArgsOk X.K ad F H κ' (v :: vs') (z :: as')
  | _, _, _, _, .nil, e => by simp at e
  | _, _, 0, _, .own h n r, e => by simp at e; subst e; exact ⟨_, rfl, fun q => .own h n q⟩
  | _, _, 0, _, .lent h r, e => by simp at e; subst e; exact ⟨_, rfl, fun q => .lent h q⟩
  | _, _, i + 1, _, .own h n r, e => by
    obtain ⟨z, h1, h2⟩ := ArgsOk.get r (i := i) (by simpa using e)
    exact ⟨z, by simpa using h1, h2⟩
  | _, _, i + 1, _, .lent h r, e => by
    obtain ⟨z, h1, h2⟩ := ArgsOk.get r (i := i) (by simpa using e)
    exact ⟨z, by simpa using h1, h2⟩
theorem ArgsOk.perm {F H : Hp} {κ' : List Addr} {vs : List V} {as : List Arg} (h : ArgsOk X.K ad F H κ' vs as) : ∀ perm : List Nat, ArgsOk X.K ad F H κ' (perm.filterMap fun i => vs[i]?) (perm.filterMap fun i => as[i]?)
  | [] => .nil
  | i :: perm => by
    rw [List.filterMap_cons, List.filterMap_cons]
    cases e : vs[i]? with
    | none =>
      rw [h.none e]
      exact h.perm perm
    | some v =>
      obtain ⟨z, h1, h2⟩ := h.get e
      rw [h1]
      exact h2 (h.perm perm)
theorem lnt_F' {F' : Hp} {w : Wd} : ∀ {l : List (Nat × M)} {as : List Addr}, Lnt κ w l as → Lnt κ ⟨F', w.s, w.σ, w.H⟩ l as
  | _, _, .nil => .nil
  | _, _, .cons q1 q2 q3 h => .cons q1 q2 q3 (lnt_F' h)
theorem temps_app {a : Addr} : ∀ {vs zs : List V} {rs qs : List Rv}, vs.length = rs.length → a ∈ temps (vs ++ zs) (rs ++ qs) → a ∈ temps vs rs ∨ a ∈ temps zs qs
  | [], _, [], _, _, m => .inr m
  | v :: vs, zs, r :: rs, qs, hl, m => by
    rcases temps_cons (x := v) (r := r) (xs := vs ++ zs) (rs := rs ++ qs) m with t | m
    · exact .inl (temps_head t)
    · exact (temps_app (by simpa using hl) m).imp temps_tail id
/-- a call, from the arguments on -/
theorem callWith_ok {f : Nat} {perm : List Nat} {F0 H0 F H : Hp} {s0 s : S} {σ : L2.St} {vs : List V} {rs : List Rv} {Q : VK} {E : XK} (R : Rel X.K ad κ ⟨F, s, σ, H⟩) (st : Stp κ noT ⟨F0, s0, σ, H0⟩ ⟨F, s, σ, H⟩) (h1 : RvsOk X.K ad κ ⟨F, s, σ, H⟩ H0 vs rs)
    (g : Good (Post X.K ad κ ⟨F0, s0, σ, H0⟩ Q) (callWith call f perm s rs)) : spF call X.K ad f (perm.filterMap fun i => vs[i]?) H Q E := by
  unfold callWith at g
  cases hl : lend s rs with
  | none => rw [hl] at g; exact g.elim
  | some pr =>
    obtain ⟨as, l⟩ := pr
    rw [hl] at g
    cases ha : apart s l with
    | false => simp only [ha] at g; exact g.elim
    | true =>
      simp only [ha, if_true] at g
      obtain ⟨F1, κ1, R1, st1, le, ln, ok⟩ := Rel.lending (w := ⟨F, s, σ, H⟩) R st h1 hl
      have ln1 : Lnt κ ⟨F1, s, σ, H⟩ l κ1 := lnt_F' ln
      have RL := Rel.lent (w := ⟨F1, s, σ, H⟩) R1 ln1 ha
      refine ⟨F1, κ1, _, _, RL, ok.perm perm, ?_⟩
      cases hc : call f (perm.filterMap fun i => as[i]?) (l.map (·.2)) with
      | bad => rw [hc] at g; exact g.elim
      | exc c d u => rw [hc] at g; exact g.elim
      | ok v u' =>
        rw [hc] at g
        intro F' H' x R' st' okx fr
        obtain ⟨R2, st2, tr⟩ := Rel.back (w := ⟨F1, s, σ, H⟩) R1 ln1 ha R' st'
        exact g F' H' R2 (st1.tr st2) x (tr okx fr) fun a t => st.dm a (fr a t)
theorem GX.at (g : GX fnm kwt call ad X c) {f : Nat} {perm : List Nat} {s : S} {rs : List Rv} {P : Rv → S → Prop} (h : Good P (callWith call f perm s rs)) : FnAt fnm kwt call ad X f := by
  unfold callWith at h
  cases hl : lend s rs with
  | none => rw [hl] at h; exact h.elim
  | some pr =>
    obtain ⟨as, l⟩ := pr
    rw [hl] at h
    cases ha : apart s l with
    | false => simp only [ha] at h; exact h.elim
    | true =>
      simp only [ha, if_true] at h
      exact g.fns f _ _ fun e => by rw [e] at h; exact h.elim
theorem rd_call {f : Nat} {σ : L2.St} {H : Hp} {Q : VK} {E : XK} (h : tE call X.K ad κ (.call f as) σ H Q) : tGo (spF call X.K ad f) (List.range as.len) E (tXs call X.K ad κ as) σ H Q := by
  obtain ⟨F, s, R, gd⟩ := h
  have gd : Good _ ((evXs call as s).bind fun rs s1 => callWith call f (List.range rs.length) s1 rs) := gd
  have gd := good_bind.mp gd
  have gd : Good (fun rs s1 => rs.length = as.len ∧ Good (Post X.K ad κ ⟨F, s, σ, H⟩ Q) (callWith call f (List.range rs.length) s1 rs)) (evXs call as s) := by
    cases e : evXs call as s with
    | ok rs s1 => rw [e] at gd; exact ⟨evXs_len e, gd⟩
    | exc c d s1 => rw [e] at gd; exact gd.elim
    | bad => rw [e] at gd; exact gd.elim
  refine tXs.step R Stp.refl gd fun rs s1 F1 H1 R1 _ st1 ⟨hl, g1⟩ vs ok1 => ⟨by rw [ok1.length, hl, List.length_range], ?_⟩
  have := callWith_ok (E := E) R1 st1 ok1 g1
  rw [hl] at this
  exact this
theorem GX.find (g : GX fnm kwt call ad X c) {f : Nat} {σ : L2.St} {H : Hp} {Q : VK} (h : tE call X.K ad κ (.call f as) σ H Q) : FnAt fnm kwt call ad X f := by
  obtain ⟨F, s, R, gd⟩ := h
  have gd : Good _ ((evXs call as s).bind fun rs s1 => callWith call f (List.range rs.length) s1 rs) := gd
  obtain ⟨rs, s1, e, h1⟩ := (good_bind.mp gd).at
  exact g.at h1
theorem snd_call (g : GX fnm kwt call ad X c) {f : Nat} (hg : globOk c (fnm f) = true) (ns : noStars es = true) (ha : PA X es (tXs call X.K ad κ as)) (hl : es.length = as.len) : PE X (.Call (.Name (fnm f) q) es [] p) (tE call X.K ad κ (.call f as)) := by
  obtain ⟨h1, h2⟩ := g.glob hg
  refine ⟨fun pins s σ H Q I h => ?_⟩
  obtain ⟨k, fd, ps, FN, hr, hm, hk, hb, _⟩ := (g.find h).ex
  match es, ns, ha, hl with
  | [], _, ha, hl =>
    cases as with
    | cons a as => cases hl
    | nil =>
      refine (call_pos0 (E := fun _ _ _ => False) FN hr g.gd h1 hm hk (hb 0) pass0 h2).run pins s σ H Q I ?_
      obtain ⟨F, s1, R, gd⟩ := rd_call (E := fun _ _ _ => False) h
      have gd : Good _ (Ax.R.ok ([] : List Rv) s1) := gd
      exact gd F H R Stp.refl [] .nil
  | e :: es, ns, ha, hl =>
    have ns : (noStar e && noStars es) = true := ns
    rw [Bool.and_eq_true] at ns
    exact (call_pos (E := fun _ _ _ => False) FN hr g.gd h1 hm hk (hb as.len) pass0 ha ns.1 ns.2 h2).run pins s σ H Q I (rd_call h)
theorem snd_callV (g : GX fnm kwt call ad X c) {i : Nat} {x : Str} (hn : nameOk c i x = true) (n1 : noStar e = true) (n2 : noStars es = true) (ha : PA X (e :: es) (tXs call X.K ad κ as)) : PE X (.Call (.Name x q) (e :: es) [] p) (tE call X.K ad κ (.callV i as)) := by
  obtain ⟨h1, h2, h3, h4⟩ := g.name hn
  refine ⟨fun pins s σ H Q I h => ?_⟩
  obtain ⟨F, s1, R, gd⟩ := h
  have gd : Good _ (match s1.at i with
      | some (.fn f) => (evXs call as s1).bind fun rs s1 => callWith call f (List.range rs.length) s1 rs
      | _ => .bad) := gd
  split at gd
  · rename_i f hf
    obtain ⟨y, hy, hm⟩ := R.at hf
    have hm : y = .ref (ad f) := hm
    subst hm
    have h : tE call X.K ad κ (.call f as) σ H Q := ⟨F, s1, R, gd⟩
    obtain ⟨k, fd, ps, FN, hr, hm, hk, hb, _⟩ := (g.find h).ex
    exact (call_slot (i := i) (E := fun _ _ _ => False) FN hr g.gd h1 h2 hk (hb as.len) pass0 ha n1 n2 h3 h4).run pins s σ H Q I ⟨hy, rd_call h⟩
  · exact gd.elim
theorem rvs_append {w : Wd} {H0 H1 : Hp} {vs zs : List V} {rs qs : List Rv} (h : RvsOk X.K ad κ w H0 vs rs) (hz : RvsOk X.K ad κ w H1 zs qs) (hd : ∀ a, H1 a = none → H0 a = none) (ht : ∀ a, a ∈ temps vs rs → H1 a ≠ none) : RvsOk X.K ad κ w H0 (vs ++ zs) (rs ++ qs) := by
  induction h with
  | nil => exact hz.back hd
  | cons h1 h2 h3 h4 ih =>
    rename_i x xs r rs
    refine .cons h1 h2 (fun a t m => ?_) (ih fun a m => ht a (temps_tail m))
    rcases temps_app h4.length m with m | m
    · exact h3 a t m
    · exact ht a (temps_head t) (hz.fresh a m)
theorem rvs_there {w : Wd} {H0 : Hp} : ∀ {vs : List V} {rs : List Rv}, RvsOk X.K ad κ w H0 vs rs → ∀ a, a ∈ temps vs rs → w.H a ≠ none
  | _, _, .nil, _, m => by cases m
  | _, _, .cons h1 h2 h3 h4, a, m => by
    rcases temps_cons m with t | m
    · obtain ⟨o, e⟩ := h1.there t
      rw [e]; exact fun z => nomatch z
    · exact rvs_there h4 a m
theorem rd_callK {f : Nat} {ks : List Str} {perm : List Nat} {σ : L2.St} {H : Hp} {Q : VK} {E : XK} (hk : ks.length = bs.len) (hp : as.len + bs.len = perm.length) (h : tE call X.K ad κ (.callK f as ks bs perm) σ H Q) :
    tGoK (spF call X.K ad f) perm ks.length E (tXs call X.K ad κ as) (tXs call X.K ad κ bs) σ H Q := by
  obtain ⟨F, s, R, gd⟩ := h
  have gd : Good _ ((evXs call as s).bind fun rs s1 => (evXs call bs s1).bind fun qs s2 => callWith call f perm s2 (rs ++ qs)) := gd
  have gd := good_bind.mp gd
  have gd : Good (fun rs s1 => rs.length = as.len ∧ Good (Post X.K ad κ ⟨F, s, σ, H⟩ Q) ((evXs call bs s1).bind fun qs s2 => callWith call f perm s2 (rs ++ qs))) (evXs call as s) := by
    cases e : evXs call as s with
    | ok rs s1 => rw [e] at gd; exact ⟨evXs_len e, gd⟩
    | exc c d s1 => rw [e] at gd; exact gd.elim
    | bad => rw [e] at gd; exact gd.elim
  refine tXs.step R Stp.refl gd fun rs s1 F1 H1 R1 st st1 ⟨hl, g1⟩ vs ok1 => ?_
  have g1 := good_bind.mp g1
  have g1 : Good (fun qs s2 => qs.length = bs.len ∧ Good (Post X.K ad κ ⟨F, s, σ, H⟩ Q) (callWith call f perm s2 (rs ++ qs))) (evXs call bs s1) := by
    cases e : evXs call bs s1 with
    | ok rs s1 => rw [e] at g1; exact ⟨evXs_len e, g1⟩
    | exc c d s1 => rw [e] at g1; exact g1.elim
    | bad => rw [e] at g1; exact g1.elim
  refine tXs.step R1 st1 g1 fun qs s2 F2 H2 R2 st2 st2' ⟨hl2, g2⟩ zs ok2 => ?_
  have ok1' : RvsOk X.K ad κ ⟨F2, s2, σ, H2⟩ H vs rs := ok1.step st2 rfl fun _ _ z => z
  have ok : RvsOk X.K ad κ ⟨F2, s2, σ, H2⟩ H (vs ++ zs) (rs ++ qs) := rvs_append ok1' ok2 (fun a e => st.dm a e) fun a m => rvs_there ok1 a m
  exact ⟨by rw [ok2.length, hl2, hk], by rw [ok1.length, ok2.length, hl, hl2, hp], callWith_ok R2 st2' ok g2⟩
theorem snd_callK (g : GX fnm kwt call ad X c) {f : Nat} {ks : List Str} {perm : List Nat} {kws : List Keyword} (hg : globOk c (fnm f) = true) (hkw : (f, ks, perm) ∈ kwt) (hne : ks ≠ []) (ns : noStars es = true) (ha : PA X es (tXs call X.K ad κ as)) (hl : es.length = as.len)
    (hw : PK X kws (tXs call X.K ad κ bs)) (kw : kwsOk ks kws [] = true) (hk : ks.length = bs.len) (hp : as.len + bs.len = perm.length) : PE X (.Call (.Name (fnm f) q) es kws p) (tE call X.K ad κ (.callK f as ks bs perm)) := by
  obtain ⟨h1, h2⟩ := g.glob hg
  refine ⟨fun pins s σ H Q I h => ?_⟩
  have fa : FnAt fnm kwt call ad X f := by
    obtain ⟨F, s, R, gd⟩ := h
    have gd : Good _ ((evXs call as s).bind fun rs s1 => (evXs call bs s1).bind fun qs s2 => callWith call f perm s2 (rs ++ qs)) := gd
    obtain ⟨rs, s1, e, h1⟩ := (good_bind.mp gd).at
    obtain ⟨qs, s2, e2, h2⟩ := (good_bind.mp h1).at
    exact g.at h2
  obtain ⟨k, fd, ps, FN, hr, hm, hkp, _, hb⟩ := fa.ex
  match es, ns, ha, hl with
  | [], _, ha, hl =>
    cases as with
    | cons a as => cases hl
    | nil =>
      refine (call_kw0 (E := fun _ _ _ => False) FN hr g.gd h1 hm hkp (hb ks perm hne hkw) pass0 hw kw h2).run pins s σ H Q I ?_
      obtain ⟨F, s1, R, gd⟩ := rd_callK (E := fun _ _ _ => False) hk hp h
      have gd : Good _ (Ax.R.ok ([] : List Rv) s1) := gd
      exact gd F H R Stp.refl [] .nil
  | e :: es, ns, ha, hl =>
    have ns : (noStar e && noStars es) = true := ns
    rw [Bool.and_eq_true] at ns
    exact (call_kw (E := fun _ _ _ => False) FN hr g.gd h1 hm hkp (hb ks perm hne hkw) pass0 ha ns.1 ns.2 hw kw h2).run pins s σ H Q I (rd_callK hk hp h)
end
end Ax
/-! A12: a list's methods; what is walked. -/
namespace Ax
open PySem PySem.Spec PyProof.Rows L2
section
variable {fnm : Nat → Str} {kwt : List (Nat × List Str × List Nat)} {call : Nat → List Arg → List M → R (List M) M} {K : PySem.W.Frag} {ad : Nat → Addr} {κ : List Addr} {X : Cx} {c : MC} {e l r : Expr} {a b k : Ex} {p q p' q' ap cp : Pos} {es : List Expr} {as bs : Xs}
variable {F H : Hp} {s : S} {σ : L2.St}
/-- a slot's list is written -/
theorem Rel.writeL {i : Nat} {ds : List D} (R : Rel K ad κ ⟨F, s, σ, H⟩) (h : s.at i = some (.lst ds)) : ∃ z vs, σ[i]? = some (some (.ref z)) ∧ H z = some (.lst vs) ∧ RepAll K F vs ds ∧
    ∀ ds' vs', RepAll K F vs' ds' → Rel K ad κ ⟨F, s.put i (.lst ds'), σ, upd H z (.lst vs')⟩ ∧ Stp κ noT ⟨F, s, σ, H⟩ ⟨F, s.put i (.lst ds'), σ, upd H z (.lst vs')⟩ := by
  obtain ⟨o, z, oa, hσ, hp⟩ := R.owner h rfl
  have hm := OwnAt.rel R oa
  obtain ⟨z', vs, e, h2, h3, h4⟩ := hm
  cases e
  refine ⟨z, vs, hσ, h2, h4, fun ds' vs' rp => ?_⟩
  have keep : ∀ b u, b ≠ z → H b = some u → upd H z (.lst vs') b = some u := fun b u n e => by rw [upd_ne n]; exact e
  rw [hp]
  refine ⟨R.upO oa (Le.refl _) (fun b u e => ?_) ⟨z, vs', rfl, upd_same, h3, rp⟩ keep fun b u _ _ e => e, Stp.upO oa (Le.refl _) (fun k => k) keep (.inr ⟨rfl, fun e => ?_⟩) fun b u _ e => e⟩
  · by_cases n : b = z
    · subst n
      have e : F b = some u := e
      have h3 : F b = none := h3
      rw [h3] at e; cases e
    · exact keep b u n (R.fh b u e)
  · have e : upd H z (.lst vs') z = none := e
    rw [upd_same] at e; cases e
theorem ownS_at (R : Rel K ad κ ⟨F, s, σ, H⟩) {i : Nat} (h : ownS s i = true) : ∃ z vs, σ[i]? = some (some (.ref z)) ∧ H z = some (.lst vs) := by
  unfold ownS at h
  cases q : s.at i with
  | none => rw [q] at h; cases h
  | some v =>
    rw [q] at h
    obtain ⟨y, hy, hm⟩ := R.at q
    cases v with
    | lst ds => obtain ⟨z, vs, rfl, h2, _⟩ := hm; exact ⟨z, vs, hy, h2⟩
    | lock ds => obtain ⟨z, vs, rfl, h2, _⟩ := hm; exact ⟨z, vs, hy, h2⟩
    | _ => cases h
theorem few1 {env : Env} {pos : Pos} {e : Expr} (n : noStar e = true) : ((backTo pos (starEach [e] env)).all (fun x => !x.1) && (backToKw pos (keywordEach [] env)).all (fun x => x.1.isSome) && decide (([e] : List Expr).length + ([] : List Keyword).length + (if ([] : List Keyword).isEmpty then 0 else 1) < 30)) = true := by
  rw [star1 n]; rfl
theorem snd_app (g : GX fnm kwt call ad X c) {i : Nat} {x : Str} (hn : nameOk c i x = true) (hl : ap.endLine = cp.line) (n1 : noStar e = true) (ha : PE X e (tE call X.K ad κ a)) : PE X (.Call (.Attribute (.Name x q) "append" ap) [e] [] cp) (tE call X.K ad κ (.app i a)) := by
  obtain ⟨h1, h2, h3, h4⟩ := g.name hn
  refine PE.imp (pe_bm PySem.F.plainAttrs_list PySem.F.slot_list_append PySem.F.type_list_append mt_append (pe_var h1 h2 h3 h4) (pa_cons ha pa_nil (star1 n1)) rfl (few1 n1) (by simp [hl]) (star1 n1) rfl) fun σ H Q ⟨F, s, R, gd⟩ => ?_
  have gd : Good _ (if ownS s i = true then (evE call a s).bind (kApp i) else .bad) := gd
  split at gd
  · rename_i ho
    obtain ⟨z, vs, hz, hv⟩ := ownS_at R ho
    refine ⟨_, hz, .inl ⟨rfl, vs, SqL.of hv⟩, ?_⟩
    refine tE.step R Stp.refl (good_bind.mp gd) fun y s1 F1 H1 R1 _ st1 g1 v1 ok1 fr1 => ?_
    unfold kApp at g1
    split at g1
    · rename_i d s2 hd
      obtain ⟨F2, R2, st2, _, rp⟩ := Rel.freeze0 (w0 := ⟨F, s, σ, H⟩) (w := ⟨F1, s1, σ, H1⟩) R1 st1 ok1 fr1 hd
      split at g1
      · rename_i ds hs
        split at g1
        · rename_i hlen
          obtain ⟨z2, vs2, e1, e2, e3, wr⟩ := Rel.writeL R2 hs
          have e1 : σ[i]? = _ := e1
          rw [hz] at e1; cases e1
          obtain ⟨R3, st3⟩ := wr (ds ++ [d]) (vs2 ++ [v1]) (e3.append (.one rp))
          exact ⟨z, vs2, v1, rfl, rfl, e2, by rw [e3.length, line_eq]; exact hlen, Post.fro (x := .non) R3 (st2.tr st3) g1 .non⟩
        · exact g1.elim
      · exact g1.elim
    · exact g1.elim
  · exact gd.elim
theorem snd_ext (g : GX fnm kwt call ad X c) {i : Nat} {x : Str} (hn : nameOk c i x = true) (hl : ap.endLine = cp.line) (n1 : noStar e = true) (ha : PE X e (tE call X.K ad κ a)) : PE X (.Call (.Attribute (.Name x q) "extend" ap) [e] [] cp) (tE call X.K ad κ (.ext i a)) := by
  obtain ⟨h1, h2, h3, h4⟩ := g.name hn
  refine PE.imp (pe_bm PySem.F.plainAttrs_list PySem.F.slot_list_extend PySem.F.type_list_extend mt_extend (pe_var h1 h2 h3 h4) (pa_cons ha pa_nil (star1 n1)) rfl (few1 n1) (by simp [hl]) (star1 n1) rfl) fun σ H Q ⟨F, s, R, gd⟩ => ?_
  have gd : Good _ (if ownS s i = true then (evE call a s).bind (kExt i) else .bad) := gd
  split at gd
  · rename_i ho
    obtain ⟨z, vs, hz, hv⟩ := ownS_at R ho
    refine ⟨_, hz, .inl ⟨rfl, vs, SqL.of hv⟩, ?_⟩
    refine tE.step R Stp.refl (good_bind.mp gd) fun y s1 F1 H1 R1 _ st1 g1 v1 ok1 fr1 => ?_
    unfold kExt at g1
    split at g1
    · rename_i es2 hd
      obtain ⟨b1, zs, rfl, hb1, hb2⟩ := R1.seeL ok1 hd
      split at g1
      · rename_i ds hs
        split at g1
        · rename_i hlen
          obtain ⟨z2, vs2, e1, e2, e3, wr⟩ := Rel.writeL R1 hs
          have e1 : σ[i]? = _ := e1
          rw [hz] at e1; cases e1
          obtain ⟨R3, st3⟩ := wr (ds ++ es2) (vs2 ++ zs) (e3.append hb2)
          exact ⟨z, b1, vs2, zs, rfl, rfl, e2, hb1, by rw [e3.length, hb2.length, line_eq]; exact hlen, Post.fro (x := .non) R3 (st1.tr st3) g1 .non⟩
        · exact g1.elim
      · exact g1.elim
    · exact g1.elim
  · exact gd.elim
theorem RepAll.dropLast {vs : List V} {ds : List D} (h : RepAll K F vs ds) : RepAll K F vs.dropLast ds.dropLast := by
  rw [List.dropLast_eq_take, List.dropLast_eq_take, h.length]
  exact h.take _
theorem snd_pop (g : GX fnm kwt call ad X c) {i : Nat} {x : Str} (hn : nameOk c i x = true) (hl : ap.endLine = cp.line) : PE X (.Call (.Attribute (.Name x q) "pop" ap) [] [] cp) (tE call X.K ad κ (.pop i)) := by
  obtain ⟨h1, h2, h3, h4⟩ := g.name hn
  refine PE.imp (pe_bm0 PySem.F.plainAttrs_list PySem.F.slot_list_pop PySem.F.type_list_pop mt_pop (pe_var h1 h2 h3 h4) rfl (by simp [hl])) fun σ H Q ⟨F, s, R, gd⟩ => ?_
  have gd : Good _ (kPop i s) := gd
  unfold kPop at gd
  split at gd
  · rename_i ds hs
    split at gd
    · rename_i d rr hd
      unfold popD at hd
      split at hd
      · cases hd
      · rename_i d' hd'
        cases hd
        obtain ⟨z, vs, e1, e2, e3, wr⟩ := Rel.writeL R hs
        obtain ⟨y, hy, ry⟩ := e3.get hd'
        obtain ⟨R3, st3⟩ := wr _ _ e3.dropLast
        refine ⟨_, e1, .inl ⟨rfl, vs, SqL.of e2⟩, z, vs, y, rfl, rfl, e2, by rw [e3.length]; exact hy, Post.fro R3 st3 gd ry⟩
    · exact gd.elim
  · exact gd.elim
theorem snd_popAt (g : GX fnm kwt call ad X c) {i : Nat} {x : Str} (hn : nameOk c i x = true) (hl : ap.endLine = cp.line) (n1 : noStar e = true) (ha : PE X e (tE call X.K ad κ a)) : PE X (.Call (.Attribute (.Name x q) "pop" ap) [e] [] cp) (tE call X.K ad κ (.popAt i a)) := by
  obtain ⟨h1, h2, h3, h4⟩ := g.name hn
  refine PE.imp (pe_bm PySem.F.plainAttrs_list PySem.F.slot_list_pop PySem.F.type_list_pop mt_popAt (pe_var h1 h2 h3 h4) (pa_cons ha pa_nil (star1 n1)) rfl (few1 n1) (by simp [hl]) (star1 n1) rfl) fun σ H Q ⟨F, s, R, gd⟩ => ?_
  have gd : Good _ (if ownS s i = true then (evE call a s).bind (kPopAt i) else .bad) := gd
  split at gd
  · rename_i ho
    obtain ⟨z, vs, hz, hv⟩ := ownS_at R ho
    refine ⟨_, hz, .inl ⟨rfl, vs, SqL.of hv⟩, ?_⟩
    refine tE.step R Stp.refl (good_bind.mp gd) fun y s1 F1 H1 R1 _ st1 g1 v1 ok1 fr1 => ?_
    unfold kPopAt at g1
    split at g1
    · rename_i j
      cases ok1.1
      split at g1
      · rename_i ds hs
        split at g1
        · rename_i d rr hd
          unfold popAtD at hd
          split at hd
          · rename_i hj
            obtain ⟨d', hd', e⟩ := Option.map_eq_some_iff.mp hd
            cases e
            obtain ⟨z2, vs2, e1, e2, e3, wr⟩ := Rel.writeL R1 hs
            have e1 : σ[i]? = _ := e1
            rw [hz] at e1; cases e1
            obtain ⟨y, hy, ry⟩ := e3.get hd'
            obtain ⟨R3, st3⟩ := wr _ _ (e3.erase j.toNat)
            have hjl : j.toNat < vs2.length := (List.getElem?_eq_some_iff.mp hy).1
            have ix : ixN vs2.length j = some j.toNat := by
              unfold ixN
              rw [if_pos hj.1, if_pos (by omega)]
            exact ⟨z, vs2, j, j.toNat, y, rfl, rfl, e2, by omega, by omega, (ixN_seq ix).1, hy, Post.fro R3 (st1.tr st3) g1 ry⟩
          · cases hd
        · exact g1.elim
      · exact g1.elim
    · exact g1.elim
  · exact gd.elim

/-! ### locks -/
theorem Rel.locked {w : Wd} (R : Rel K ad κ w) (rv : Rv) : Rel K ad κ ⟨w.F, lockS w.s rv, w.σ, w.H⟩ ∧ Stp κ noT w ⟨w.F, lockS w.s rv, w.σ, w.H⟩ := by
  cases rv with
  | m v => exact ⟨R, Stp.refl⟩
  | bor i =>
    show Rel K ad κ ⟨w.F, (match w.s.at i with
      | some (.lst ds) => w.s.put i (.lock ds)
      | _ => w.s), w.σ, w.H⟩ ∧ Stp κ noT w ⟨w.F, (match w.s.at i with
      | some (.lst ds) => w.s.put i (.lock ds)
      | _ => w.s), w.σ, w.H⟩
    split
    · rename_i ds hs
      obtain ⟨o, z, oa, hσ, hp⟩ := R.owner hs rfl
      rw [hp]
      have hm := OwnAt.rel R oa
      obtain ⟨_, vs, _, h2, _⟩ := id hm
      refine ⟨R.upO oa (Le.refl _) R.fh hm.label (fun b u _ e => e) fun b u _ _ e => e, Stp.upO oa (Le.refl _) (fun k => by cases k) (fun b u _ e => e) (.inr ⟨rfl, fun e => ?_⟩) fun b u _ e => e⟩
      obtain ⟨b, vs, e1, e2, _⟩ := hm
      cases e1
      rw [e2] at e; cases e
    · exact ⟨R, Stp.refl⟩
theorem Rel.unlocked {w w2 : Wd} (R : Rel K ad κ w) (R2 : Rel K ad κ w2) (rv : Rv) (st : Stp κ noT ⟨w.F, lockS w.s rv, w.σ, w.H⟩ w2) : Rel K ad κ ⟨w2.F, unlockS w.s w2.s rv, w2.σ, w2.H⟩ ∧ Stp κ noT w ⟨w2.F, unlockS w.s w2.s rv, w2.σ, w2.H⟩ := by
  obtain ⟨Rl, stl⟩ := R.locked rv
  have all := stl.tr st
  cases rv with
  | m v => exact ⟨R2, all⟩
  | bor i =>
    show Rel K ad κ ⟨w2.F, unlockO w.s w2.s i (ownerOf w.s i), w2.σ, w2.H⟩ ∧ Stp κ noT w ⟨w2.F, unlockO w.s w2.s i (ownerOf w.s i), w2.σ, w2.H⟩
    cases ho : ownerOf w.s i with
    | none => exact ⟨R2, all⟩
    | some o =>
      unfold unlockO
      show Rel K ad κ ⟨w2.F, (match w.s.at i, w2.s.get o with
        | some (.lst _), some (.lock ds) => w2.s.upO o (.lst ds)
        | _, _ => w2.s), w2.σ, w2.H⟩ ∧ Stp κ noT w ⟨w2.F, (match w.s.at i, w2.s.get o with
        | some (.lst _), some (.lock ds) => w2.s.upO o (.lst ds)
        | _, _ => w2.s), w2.σ, w2.H⟩
      split
      · rename_i d0 ds h1 h2
        obtain ⟨o', z, oa, hσ, hp⟩ := R.owner h1 rfl
        have eo : o' = o := by
          have e1 := at_owner ho
          have q := own_iff.mp oa
          unfold ownerOf at ho
          cases q2 : w.s.r[i]? with
          | none => rw [q2] at ho; cases ho
          | some sl =>
            rw [q2] at ho
            have p1 := hp (.fro .none)
            unfold S.put at p1
            rw [q2] at p1
            cases sl with
            | un => cases ho
            | m v =>
              cases ho
              cases o' with
              | inl j =>
                by_cases e : j = i
                · rw [e]
                · exfalso
                  have := congrArg (fun s : S => s.r[i]?) p1
                  have h3 : (w.s.r.set i (.m (.fro .none)))[i]? = (w.s.r.set j (.m (.fro .none)))[i]? := this
                  rw [List.getElem?_set_self (List.getElem?_eq_some_iff.mp q2).1, List.getElem?_set_ne e, q2] at h3
                  cases h3
                  have h4 := get_inl.mpr q2
                  have e1 : w.s.at i = some (.fro .none) := by rw [e1, h4]
                  rw [e1] at h1; cases h1
              | inr j =>
                exfalso
                have := congrArg (fun s : S => s.r[i]?) p1
                have h3 : (w.s.r.set i (.m (.fro .none)))[i]? = w.s.r[i]? := this
                rw [List.getElem?_set_self (List.getElem?_eq_some_iff.mp q2).1, q2] at h3
                cases h3
                have h4 := get_inl.mpr q2
                have e1 : w.s.at i = some (.fro .none) := by rw [e1, h4]
                rw [e1] at h1; cases h1
            | ref j0 =>
              cases ho
              cases o' with
              | inl j =>
                exfalso
                have := congrArg (fun s : S => s.r[j]?) p1
                have h3 : w.s.r[j]? = (w.s.r.set j (.m (.fro .none)))[j]? := this
                have q1 := get_inl.mp q.1
                rw [List.getElem?_set_self (List.getElem?_eq_some_iff.mp q1).1, q1] at h3
                cases h3
              | inr j =>
                by_cases e : j = j0
                · rw [e]
                · exfalso
                  have := congrArg (fun s : S => s.u[j]?) p1
                  have h3 : (w.s.u.set j0 (.fro .none))[j]? = (w.s.u.set j (.fro .none))[j]? := this
                  have q1 : w.s.u[j]? = _ := q.1
                  rw [List.getElem?_set_ne (fun z => e z.symm), List.getElem?_set_self (List.getElem?_eq_some_iff.mp q1).1, q1] at h3
                  cases h3
        subst eo
        have ha2 : ∃ a2, adr κ w2.σ o' = some a2 ∧ OwnAt κ w2 o' a2 (.lock ds) := by
          cases o' with
          | inl j =>
            obtain ⟨x, hx, hm⟩ := R2.sl j _ (get_inl.mp h2)
            obtain ⟨a2, vs, rfl, _⟩ := hm
            exact ⟨a2, adr_inl.mpr hx, get_inl.mp h2, rfl, hx⟩
          | inr j =>
            have h2 : w2.s.u[j]? = some (.lock ds) := h2
            have hj : j < κ.length := by rw [R2.ul]; exact (List.getElem?_eq_some_iff.mp h2).1
            exact ⟨κ[j], List.getElem?_eq_getElem hj, h2, rfl, List.getElem?_eq_getElem hj⟩
        obtain ⟨a2, _, oa2⟩ := ha2
        have hm2 := OwnAt.rel R2 oa2
        obtain ⟨b, vs, e1, e2, e3, e4⟩ := id hm2
        cases e1
        refine ⟨R2.upO oa2 (Le.refl _) R2.fh ⟨a2, vs, rfl, e2, e3, e4⟩ (fun b u _ e => e) fun b u _ _ e => e, ⟨all.ff, all.dm, all.hk, all.fn, fun o2 b v q => ?_⟩⟩
        rcases own_upO oa2 q with ⟨r1, r2, r3⟩ | ⟨_, q1⟩
        · subst r1 r2 r3
          rcases st.ow _ _ _ oa2 with ⟨v0, z0, _⟩ | z0 | z0
          · have z1 : OwnAt κ w o2 b (.lst d0) := by
              have q1 := own_iff.mp oa
              have q0 := own_iff.mp z0
              exact own_iff.mpr ⟨q1.1, rfl, q0.2.2⟩
            exact .inl ⟨_, z1, fun _ => rfl⟩
          · exact z0.elim
          · exact .inr (.inr z0)
        · exact all.ow _ _ _ q1
      · exact ⟨R2, all⟩
end
end Ax
/-! E2: dicts. -/
namespace Ax
open PySem PySem.Spec PyProof.Rows L2
section
variable {K : PySem.W.Frag} {F G H : Hp}
theorem leafK_kV {x : V} {d : D} {k : L2.Key} (h : RepD K F x d) (e : leafK d = some k) : x = kV k := by
  cases h <;> simp [leafK] at e <;> subst e <;> rfl
theorem leafsK_kV : ∀ {vs : List V} {ds : List D} {ks : List L2.Key}, RepAll K F vs ds → leafsK ds = some ks → vs = ks.map kV
  | _, _, ks, .nil, e => by simp [leafsK] at e; subst e; rfl
  | _, _, ks, .cons h r, e => by
    rename_i v vs d ds
    simp only [leafsK] at e
    split at e
    · rename_i k ks' e1 e2
      cases e
      rw [List.map_cons, ← leafK_kV h e1, ← leafsK_kV r e2]
    · cases e
theorem valV_sing (kvs : List (L2.Key × V)) (k : L2.Key) : valV (kvs.map fun p => ([p.1], p.2)) [k] = valV kvs k := by
  induction kvs with
  | nil => rfl
  | cons p kvs ih =>
    rw [List.map_cons]
    by_cases e : p.1 = k
    · rw [valV_pos (by simp [e]), valV_pos e]
    · rw [valV_neg (by simpa using e), valV_neg e, ih]
theorem putV_sing (kvs : List (L2.Key × V)) (k : L2.Key) (v : V) : L2.putK (kvs.map fun p => ([p.1], p.2)) [k] v = (L2.putK kvs k v).map fun p => ([p.1], p.2) := by
  unfold L2.putK
  have e : ((kvs.map fun p => ([p.1], p.2)).any fun kv => decide (kv.1 = [k])) = kvs.any fun kv => decide (kv.1 = k) := by
    rw [List.any_map]; congr 1; funext p; simp
  rw [e]
  split
  · rw [List.map_map, List.map_map]
    congr 1
    funext p
    by_cases h : p.1 = k <;> simp [h]
  · simp
theorem DAll.get {vs : List (List L2.Key × V)} {ds : List (List L2.Key × D)} (h : DAll K F vs ds) (k : List L2.Key) : (valV vs k = none ∧ getK ds k = none) ∨ ∃ v d, valV vs k = some v ∧ getK ds k = some d ∧ RepD K F v d := by
  induction h with
  | nil => exact .inl ⟨rfl, rfl⟩
  | @cons k' v d vs ds h1 h2 ih =>
    by_cases e : k' = k
    · exact .inr ⟨v, d, valV_pos e, by simp [getK, List.find?_cons, e], h1⟩
    · rcases ih with ⟨a, b⟩ | ⟨v', d', a, b, c⟩
      · exact .inl ⟨by rw [valV_neg e]; exact a, by simp only [getK, List.find?_cons, e, decide_false]; exact b⟩
      · exact .inr ⟨v', d', by rw [valV_neg e]; exact a, by simp only [getK, List.find?_cons, e, decide_false]; exact b, c⟩
theorem DAll.any {vs : List (List L2.Key × V)} {ds : List (List L2.Key × D)} (h : DAll K F vs ds) (k : List L2.Key) : (vs.any fun kv => decide (kv.1 = k)) = ds.any fun kv => decide (kv.1 = k) := by
  induction h with
  | nil => rfl
  | cons h1 h2 ih => rw [List.any_cons, List.any_cons, ih]
theorem DAll.append {vs : List (List L2.Key × V)} {ds : List (List L2.Key × D)} (h : DAll K F vs ds) {k : List L2.Key} {v : V} {d : D} (r : RepD K F v d) : DAll K F (vs ++ [(k, v)]) (ds ++ [(k, d)]) := by
  induction h with
  | nil => exact .cons r .nil
  | cons h1 h2 ih => exact .cons h1 ih
theorem DAll.repl {vs : List (List L2.Key × V)} {ds : List (List L2.Key × D)} (h : DAll K F vs ds) (k : List L2.Key) {v : V} {d : D} (r : RepD K F v d) : DAll K F (vs.map fun kv => if kv.1 = k then (kv.1, v) else kv) (ds.map fun kv => if kv.1 = k then (kv.1, d) else kv) := by
  induction h with
  | nil => exact .nil
  | @cons k' v' d' vs ds h1 h2 ih =>
    rw [List.map_cons, List.map_cons]
    by_cases e : k' = k
    · simp only [e, if_true]; exact .cons r ih
    · simp only [e, if_false]; exact .cons h1 ih
theorem DAll.put {vs : List (List L2.Key × V)} {ds : List (List L2.Key × D)} (h : DAll K F vs ds) (k : List L2.Key) {v : V} {d : D} (r : RepD K F v d) : DAll K F (L2.putK vs k v) (Ax.putK ds k d) := by
  unfold L2.putK Ax.putK
  rw [h.any k]
  split
  · exact h.repl k r
  · exact h.append r
theorem DAll.length {vs : List (List L2.Key × V)} {ds : List (List L2.Key × D)} (h : DAll K F vs ds) : vs.length = ds.length := by
  induction h with
  | nil => rfl
  | cons _ _ ih => rw [List.length_cons, List.length_cons, ih]
theorem DAll.keys {vs : List (List L2.Key × V)} {ds : List (List L2.Key × D)} (h : DAll K F vs ds) : vs.map (·.1) = ds.map (·.1) := by
  induction h with
  | nil => rfl
  | cons _ _ ih => rw [List.map_cons, List.map_cons, ih]
theorem DObj.len {b : Bool} {vs : List (List L2.Key × V)} {u : HO} (o : DObj b vs u) : (∃ kvs, u = .dK kvs ∧ kvs.length = vs.length) ∨ ∃ kvs, u = .dT kvs ∧ kvs.length = vs.length := by
  rcases o with ⟨kvs⟩ | ⟨kvs⟩
  · exact .inl ⟨kvs, rfl, by simp⟩
  · exact .inr ⟨_, rfl, rfl⟩
/-- a look at the dict -/
theorem dct_get {a : Addr} {b : Bool} {u : HO} {vs : List (List L2.Key × V)} {y : V} {d : D} {k : List L2.Key} (l : Le F H) (ha : H a = some u) (o : DObj b vs u) (ry : RepD K F y d) (e : keyD b d = some k) : DGet H a y (valV vs k) := by
  rcases o with ⟨kvs⟩ | ⟨kvs⟩
  · obtain ⟨k0, h1, rfl⟩ := Option.map_eq_some_iff.mp (show (leafK d).map (fun k => [k]) = some k from e)
    rw [valV_sing, leafK_kV ry h1]
    exact .k ha
  · cases ry with
    | tup h1 h2 =>
      have e : leafsK _ = some k := e
      have q := leafsK_kV h2 e
      subst q
      exact .t ha (l _ _ h1)
    | _ => simp [keyD] at e
theorem dct_put {a : Addr} {b : Bool} {u : HO} {vs : List (List L2.Key × V)} {y v : V} {d : D} {k : List L2.Key} (l : Le F H) (ha : H a = some u) (o : DObj b vs u) (ry : RepD K F y d) (e : keyD b d = some k) (hl : vs.length < sizeLine) :
    ∃ u', DObj b (L2.putK vs k v) u' ∧ DPut H a y v (upd H a u') := by
  rcases o with ⟨kvs⟩ | ⟨kvs⟩
  · obtain ⟨k0, h1, rfl⟩ := Option.map_eq_some_iff.mp (show (leafK d).map (fun k => [k]) = some k from e)
    rw [leafK_kV ry h1]
    exact ⟨.dK (L2.putK kvs k0 v), by rw [putV_sing]; exact .k _, .k ha (by simpa using hl)⟩
  · cases ry with
    | tup h1 h2 =>
      have e : leafsK _ = some k := e
      have q := leafsK_kV h2 e
      subst q
      exact ⟨.dT _, .t _, .t ha (l _ _ h1) hl⟩
    | _ => simp [keyD] at e
end
section
variable {fnm : Nat → Str} {kwt : List (Nat × List Str × List Nat)} {call : Nat → List Arg → List M → R (List M) M} {K : PySem.W.Frag} {ad : Nat → Addr} {κ : List Addr} {X : Cx} {c : MC} {e l r : Expr} {a b k : Ex} {p q p' q' ap cp : Pos} {es : List Expr} {as bs : Xs}
variable {F H : Hp} {s : S} {σ : L2.St}
/-- a slot's dict -/
theorem Rel.dct {i : Nat} {bb : Bool} {kvs : List (List L2.Key × D)} (R : Rel K ad κ ⟨F, s, σ, H⟩) (h : s.at i = some (.dct bb kvs)) : ∃ z u vs, σ[i]? = some (some (.ref z)) ∧ H z = some u ∧ DObj bb vs u ∧ DAll K F vs kvs ∧
    ∀ kvs' vs' u', DObj bb vs' u' → DAll K F vs' kvs' → Rel K ad κ ⟨F, s.put i (.dct bb kvs'), σ, upd H z u'⟩ ∧ Stp κ noT ⟨F, s, σ, H⟩ ⟨F, s.put i (.dct bb kvs'), σ, upd H z u'⟩ := by
  obtain ⟨o, z, oa, hσ, hp⟩ := R.owner h rfl
  have hm := OwnAt.rel R oa
  obtain ⟨z', u, vs, e, h2, h3, h4, h5⟩ := hm
  cases e
  refine ⟨z, u, vs, hσ, h2, h4, h5, fun kvs' vs' u' q1 q2 => ?_⟩
  have keep : ∀ b w, b ≠ z → H b = some w → upd H z u' b = some w := fun b w n e => by rw [upd_ne n]; exact e
  rw [hp]
  refine ⟨R.upO oa (Le.refl _) (fun b u e => ?_) ⟨z, u', vs', rfl, upd_same, h3, q1, q2⟩ keep fun b u _ _ e => e, Stp.upO oa (Le.refl _) (fun k => k) keep (.inr ⟨rfl, fun e => ?_⟩) fun b u _ e => e⟩
  · by_cases n : b = z
    · subst n
      have e : F b = some u := e
      have h3 : F b = none := h3
      rw [h3] at e; cases e
    · exact keep b u n (R.fh b u e)
  · have e : upd H z u' z = none := e
    rw [upd_same] at e; cases e
theorem dctS_at (R : Rel K ad κ ⟨F, s, σ, H⟩) {i : Nat} (h : dctS s i = true) : ∃ z, σ[i]? = some (some (.ref z)) := by
  unfold dctS at h
  cases q : s.at i with
  | none => rw [q] at h; cases h
  | some v =>
    rw [q] at h
    obtain ⟨y, hy, hm⟩ := R.at q
    cases v with
    | dct bb kvs =>
      obtain ⟨z, u, vs, rfl, _⟩ := hm
      exact ⟨z, hy⟩
    | _ => cases h
theorem snd_dnew {bb : Bool} : PE X (.Dict [] [] p) (tE call X.K ad κ (.dnew bb)) := by
  have go : ∀ {σ : L2.St} {H : Hp} {Q : VK} (u : HO), DObj bb [] u → tE call X.K ad κ (.dnew bb) σ H Q → ∀ p, H p = none → Q (.ref p) (upd H p u) := fun {σ H Q} u o ⟨F, s, R, g⟩ p hp => by
    have g : Good _ (Ax.R.ok (Rv.m (.dct bb [])) s) := g
    have d : Dlv X.K ad F H (.dct bb []) Q := Post.dlv (s0 := s) (F0 := F) (H0 := H) R Stp.refl g
    exact (d.2 p u hp).2 rfl ⟨p, u, [], rfl, upd_same, R.nof (w := ⟨F, s, σ, H⟩) hp, o, .nil⟩
  cases bb with
  | false => exact PE.imp pe_dnewK fun σ H Q h => go _ (DObj.k []) h
  | true => exact PE.imp pe_dnewT fun σ H Q h => go _ (DObj.t []) h
theorem rd_dIn {neg : Bool} {i : Nat} {H : Hp} {σ : L2.St} {Q : VK} (h : tE call X.K ad κ (.dIn neg a i) σ H Q) : tE call X.K ad κ a σ H fun y H1 => ∃ x, σ[i]? = some (some x) ∧ ∃ z o, x = .ref z ∧ DGet H1 z y o ∧ Q (.bl (if neg = true then !o.isSome else o.isSome)) H1 := by
  obtain ⟨F, s, R, g⟩ := h
  have g : Good _ ((evE call a s).bind (kDIn neg i)) := g
  refine tE.step R Stp.refl (good_bind.mp g) fun x s1 F1 H1 R1 _ st1 g1 v1 ok1 fr1 => ?_
  unfold kDIn at g1
  split at g1
  · rename_i d bb kvs hs
    split at g1
    · rename_i k hk
      obtain ⟨z, u, vs, h1, h2, h3, h4, _⟩ := Rel.dct R1 hs
      have ry : RepD X.K F1 v1 d := ok1.1
      refine ⟨_, h1, z, _, rfl, dct_get R1.fh h2 h3 ry hk, ?_⟩
      have e : (valV vs k).isSome = (getK kvs k).isSome := by
        rcases h4.get k with ⟨a, b⟩ | ⟨v, d, a, b, _⟩ <;> rw [a, b] <;> rfl
      rw [e]
      exact Post.fro (x := .bl _) R1 st1 g1 (.bl _)
    · exact g1.elim
  · exact g1.elim
theorem tE_mono {x : Ex} {Q Q' : VK} (h : tE call K ad κ x σ H Q) (q : ∀ v H', Q v H' → Q' v H') : tE call K ad κ x σ H Q' := by
  obtain ⟨F, s, R, g⟩ := h
  exact ⟨F, s, R, g.mono fun r s' p F' H' R' st' v ok fr => q _ _ (p F' H' R' st' v ok fr)⟩
theorem snd_dIn (g : GX fnm kwt call ad X c) {neg : Bool} {i : Nat} {x : Str} (hn : nameOk c i x = true) (ha : PE X l (tE call X.K ad κ a)) : PE X (.Compare l [if neg = true then .NotIn else .In] [.Name x q] p) (tE call X.K ad κ (.dIn neg a i)) ∧ PT X (.Compare l [if neg = true then .NotIn else .In] [.Name x q] p) (tT call X.K ad κ (.dIn neg a i)) := by
  obtain ⟨h1, h2, h3, h4⟩ := g.name hn
  have hu : X.A.units + 1 < cLine := by have := g.un; omega
  have hv : PE X (.Name x q) (tVar i) := pe_var h1 h2 h3 h4
  cases neg with
  | false =>
    refine ⟨PE.imp (pe_cmp (pc_din hu ha hv)) fun σ H Q h => ?_, PT.imp (pt_cmp (pc_din hu ha hv)) fun σ H Q h => ?_⟩
    · exact rd_dIn h
    · exact rd_dIn (tT_tE h)
  | true =>
    refine ⟨PE.imp (pe_cmp (pc_dnotin hu ha hv)) fun σ H Q h => ?_, PT.imp (pt_cmp (pc_dnotin hu ha hv)) fun σ H Q h => ?_⟩
    · exact rd_dIn h
    · exact rd_dIn (tT_tE h)
theorem snd_dGet (g : GX fnm kwt call ad X c) {i : Nat} {x : Str} (hn : nameOk c i x = true) (ha : PE X e (tE call X.K ad κ a)) (hs : NoSl e) : PE X (.Subscript (.Name x q) e p) (tE call X.K ad κ (.dGet i a)) := by
  obtain ⟨h1, h2, h3, h4⟩ := g.name hn
  have hu : X.A.units + 1 < cLine := by have := g.un; omega
  refine PE.imp (pe_dget hu (pe_var h1 h2 h3 h4) ha hs) fun σ H Q ⟨F, s, R, gd⟩ => ?_
  have gd : Good _ (if dctS s i = true then (evE call a s).bind (kDGet i) else .bad) := gd
  split at gd
  · rename_i hd
    obtain ⟨z, hz⟩ := dctS_at R hd
    refine ⟨_, hz, ?_⟩
    refine tE.step R Stp.refl (good_bind.mp gd) fun y s1 F1 H1 R1 _ st1 g1 v1 ok1 fr1 => ?_
    unfold kDGet at g1
    split at g1
    · rename_i d bb kvs hs1
      split at g1
      · rename_i k hk
        obtain ⟨z2, u, vs, q1, q2, q3, q4, _⟩ := Rel.dct R1 hs1
        have q1 : σ[i]? = _ := q1
        rw [hz] at q1; cases q1
        have ry : RepD X.K F1 v1 d := ok1.1
        obtain ⟨r, hr, pr⟩ := g1.ofO
        obtain ⟨dd, hdd, rfl⟩ := Option.map_eq_some_iff.mp hr
        rcases q4.get k with ⟨_, b⟩ | ⟨v, d', a', b', rp⟩
        · rw [b] at hdd; cases hdd
        · rw [b'] at hdd; cases hdd
          refine ⟨z, v, rfl, ?_, Post.fro (x := v) R1 st1 pr rp⟩
          rw [← a']
          exact dct_get R1.fh q2 q3 ry hk
      · exact g1.elim
    · exact g1.elim
  · exact gd.elim
/-- what a key stands for -/
def KeyAt (H : Hp) (y : V) : D → Prop
  | .int i => y = .int i
  | .str z => y = .str z
  | .tuple ds => ∃ (c : Addr) (ks : List L2.Key), y = .ref c ∧ H c = some (.tup (ks.map kV)) ∧ ds = ks.map kD
  | _ => False
theorem dp_keys {K : PySem.W.Frag} : ∀ ks : List L2.Key, DpAll K H (ks.map kV) (ks.map kD)
  | [] => .nil
  | .inl i :: ks => .cons (.int i) (dp_keys ks)
  | .inr z :: ks => .cons (.str z) (dp_keys ks)
theorem KeyAt.dp {K : PySem.W.Frag} {y : V} {d : D} (h : KeyAt H y d) : Dp K H y d := by
  cases d with
  | int i => cases h; exact .int i
  | str z => cases h; exact .str z
  | tuple ds =>
    obtain ⟨c, ks, rfl, h1, rfl⟩ := h
    exact .tup (SqT.of h1) (dp_keys ks)
  | _ => exact h.elim
theorem eachK {H : Hp} : ∀ {us : List Value} {ds : List D}, PySem.W.EachIs (fun u d => ∃ y, RelV y u ∧ KeyAt H y d) us ds → ∃ ys, Vals ys us ∧ PySem.W.EachIs (KeyAt H) ys ds
  | _, _, .nil => ⟨[], .nil, .nil⟩
  | _, _, .cons ⟨y, r, h⟩ t => let ⟨ys, a, b⟩ := eachK t; ⟨y :: ys, .cons r a, .cons h b⟩
/-- sorted(..) of what is collected -/
theorem sorted_col {pins : List (Addr × Obj)} {s : Shared} {a : Addr} {ds out : List D} {t : Ty} {Q : VK} (hu : X.A.units + 64 < cLine) (ho : srtD t ds = some out)
    (col : ∀ (R : List Value → Shared → Prop), (∀ (h' : Heap) (tk : Nat) (us : List Value), Inv X pins σ H { s with heap := h', toks := tk } → (∀ b o, s.heap.get? b = some o → h'.get? b = some o) → PySem.W.EachIs (fun u d => ∃ y, RelV y u ∧ KeyAt H y d) us ds → R us { s with heap := h', toks := tk }) →
      ∀ E, wpAny (model X.prog X.w) X.A.in1 (collect (.ref a)) R E s)
    (q : ∀ p ys, H p = none → PySem.W.EachIs (KeyAt H) ys out → Q (.ref p) (upd H p (.lst ys))) :
    wpAny (model X.prog X.w) X.A (PySem.call (.builtin "sorted") [.ref a]) (EP X pins σ Q) X.xe s := by
  unfold srtD at ho
  split at ho
  · rename_i hd
    cases ho
    have ty : ∀ d ∈ ds, hasTy t d = true := fun d hm => by
      have := List.all_eq_true.mp hd.2.2 d hm
      rw [Bool.and_eq_true] at this; exact this.1
    have hz : ds.length ≤ sizeLine := by rw [line_eq]; exact hd.1
    refine Calls.call_function_entry PyProof.Rows.kind_sorted PyProof.Rows.plain_sorted PyProof.Rows.entry_sorted (PyProof.Rows.args_sorted1 _) ?_
    unfold Builtin.«sorted»
    refine wpAny_bind (m := checkCount "sorted" 1 1 _) (wpAny_pure ?_)
    refine wpAny_bind (col _ (fun h' tk us I1 old er => ?_) _)
    have hl : us.length ≤ sizeLine := by rw [er.length]; exact hz
    refine wpAny_bind (wpAny_newList ?_ hl)
    have hoL : (h'.push (seqObj "list" us.toArray 0)).get? h'.objs.size = some (seqObj "list" us.toArray 0) := Heap.get?_push_size _ rfl
    show wpAny _ _ _ _ _ { s with heap := h'.push (seqObj "list" us.toArray 0), toks := tk }
    have keep : ∀ b o, h'.get? b = some o → (PySem.W.sortingHeap (h'.push (seqObj "list" us.toArray 0)) h'.objs.size us).get? b = some o := fun b o e =>
      PySem.W.sortingHeap_old (Nat.ne_of_lt (Heap.lt_size e)) (Heap.get?_push_of_some _ e)
    have er1 : PySem.W.EachIs (fun u d => ∃ as, Reads (PySem.W.sortingHeap (h'.push (seqObj "list" us.toArray 0)) h'.objs.size us) u d as) us ds := er.mono fun u d ⟨y, r, k⟩ => by
      obtain ⟨as, rd⟩ := Dp.reads I1 d y u k.dp r
      exact ⟨as, PyProof.Rows.Reads.keeps keep rd⟩
    have al : PySem.W.AllAlike ds := fun d h1 d' h2 => ty_alike (ty d h1) (ty d' h2)
    refine wpAny_bind (wpAny_holding (wpAny_call_entry PyProof.Rows.slot_list_sort ⟨_, hoL, rfl⟩ PyProof.Rows.entry_list_sort
      (PySem.W.list_sort_vals (s := { s with heap := h'.push (seqObj "list" us.toArray 0), toks := tk }) (κ := PySem.W.dataKind (PySem.W.sortingHeap (h'.push (seqObj "list" us.toArray 0)) h'.objs.size us) ds) hoL
        (PySem.W.SortsAt.data (s := { s with heap := PySem.W.sortingHeap (h'.push (seqObj "list" us.toArray 0)) h'.objs.size us, toks := tk }) er1 al (ty_sortable hd.2.2) fun d hm => ?_) hl ⟨_, rfl, ?_⟩) (PyProof.Rows.args_list_sort _)))
    · have h1 := ty_depth (ty d hm)
      have h2 := hd.2.1
      show X.A.in1.in1.units + _ < _
      have e : X.A.in1.in1.units = X.A.units + 2 := rfl
      rw [e]
      omega
    · have sd := PySem.W.sortVals_data (enc := fun d : D => d) false er er1 (by rw [List.map_id']; exact al)
      rw [List.map_id'] at sd
      obtain ⟨ys, ry, rr⟩ := eachK sd
      obtain ⟨e', he'⟩ := PyProof.Rows.sortedHeap_at (vs := us) (out := (PySem.W.sortVals (PySem.W.dataKind (PySem.W.sortingHeap (h'.push (seqObj "list" us.toArray 0)) h'.objs.size us) ds) false us us).toArray) hoL
      have hlen : ys.length ≤ sizeLine := by
        rw [ry.length, PySem.W.sortVals_length false rfl]; exact hl
      refine wpAny_pure ⟨_, rfl, .ref h'.objs.size, upd H h'.objs.size (.lst ys), I1.laid (t' := tk) (fun b u e => ?_) (Nat.le_refl _)
        (show ObjOk X.prog X.w _ _ _ (.lst ys) from ⟨hlen, _, e', ry, he'⟩), rfl, q _ ys (I1.hok.fresh (Nat.le_refl _)) rr⟩
      have hb : b < h'.objs.size := Heap.lt_size e
      rw [PyProof.Rows.sortedHeap_old (Nat.ne_of_lt hb) (by rw [size_push']; exact Nat.lt_succ_of_lt hb)]
      exact Heap.get?_push_of_some _ e
  · cases ho
theorem each_ix {α β : Type} {R : α → β → Prop} : ∀ {us : List α} {ds : List β}, us.length = ds.length → (∀ (j : Nat) (u : α) (d : β), us[j]? = some u → ds[j]? = some d → R u d) → PySem.W.EachIs R us ds
  | [], [], _, _ => .nil
  | u :: us, d :: ds, hl, h => .cons (h 0 u d rfl rfl) (each_ix (by simpa using hl) fun j u d e1 e2 => h (j + 1) u d (by simpa using e1) (by simpa using e2))
theorem paired_at {α β : Type} {R : α → β → Prop} : ∀ {us : List α} {ds : List β}, Paired R us ds → ∀ (j : Nat) {u : α} {d : β}, us[j]? = some u → ds[j]? = some d → R u d
  | _, _, .nil, j, _, _, e1, _ => by simp at e1
  | _, _, .cons h t, 0, _, _, e1, e2 => by simp at e1 e2; subst e1; subst e2; exact h
  | _, _, .cons h t, j + 1, _, _, e1, e2 => paired_at t j (by simpa using e1) (by simpa using e2)
theorem rep_leafs {K : PySem.W.Frag} {F : Hp} : ∀ ks : List L2.Key, RepAll K F (ks.map kV) (ks.map kD)
  | [] => .nil
  | .inl i :: ks => .cons (.int i) (rep_leafs ks)
  | .inr z :: ks => .cons (.str z) (rep_leafs ks)
/-- keys are frozen -/
theorem Rel.keys : ∀ {ys : List V} {ds : List D} {w : Wd}, Rel K ad κ w → PySem.W.EachIs (KeyAt w.H) ys ds → ∃ F', Rel K ad κ ⟨F', w.s, w.σ, w.H⟩ ∧ Stp κ noT w ⟨F', w.s, w.σ, w.H⟩ ∧ RepAll K F' ys ds
  | _, _, w, R, .nil => ⟨w.F, R, Stp.refl, .nil⟩
  | _, _, w, R, .cons (b := d) h t => by
    obtain ⟨F1, R1, st1, r1⟩ := Rel.keys R t
    cases d with
    | int i => cases h; exact ⟨F1, R1, st1, .cons (.int i) r1⟩
    | str z => cases h; exact ⟨F1, R1, st1, .cons (.str z) r1⟩
    | tuple ds =>
      obtain ⟨c, ks, rfl, h1, rfl⟩ := h
      cases hf : F1 c with
      | some u =>
        have := R1.fh c u hf
        have h1' : w.H c = some _ := h1
        rw [show w.H c = some u from this] at h1'
        cases h1'
        exact ⟨F1, R1, st1, .cons (.tup hf (rep_leafs ks)) r1⟩
      | none =>
        have no : ∀ o v, ¬ OwnAt κ ⟨F1, w.s, w.σ, w.H⟩ o c v := fun o v q =>
          (OwnAt.rel R1 q).own_nt (own_iff.mp q).2.1 rfl h1 _ rfl
        have R2 := R1.fz (u := .tup (ks.map kV)) h1 hf no
        have s2 : Stp κ noT ⟨F1, w.s, w.σ, w.H⟩ ⟨upd F1 c (.tup (ks.map kV)), w.s, w.σ, w.H⟩ := ⟨le_upd hf, fun _ e => e, fun _ _ e _ => e, fun b z e => by
          have e : upd F1 c (.tup (ks.map kV)) b = some z := e
          by_cases k : b = c
          · subst k; exact .inr (.inr (.inr (.inr ⟨_, h1⟩)))
          · rw [upd_ne k] at e; exact .inl e, fun _ _ v e => .inl ⟨v, e, id⟩⟩
        exact ⟨_, R2, st1.tr s2, .cons (.tup upd_same (rep_leafs ks)) (r1.mono (le_upd hf))⟩
    | _ => exact h.elim
theorem cr_srtD (hc : X.calm = true) (hu : X.A.units + 64 < cLine) (t : Ty) : CallR X (.builtin "sorted") (fun xs H Q => ∃ (z : Addr) (u : HO) (b : Bool) (vs : List (List L2.Key × V)) (out : List D), xs = [.ref z] ∧ H z = some u ∧ DObj b vs u ∧ srtD t (vs.map fun p => dKey b p.1) = some out ∧
    ∀ p ys, H p = none → PySem.W.EachIs (KeyAt H) ys out → Q (.ref p) (upd H p (.lst ys))) := by
  intro pins s σ H xs us Q I r h
  obtain ⟨z, u, b, vs, out, rfl, hz, o, ho, q⟩ := h
  rw [Vals.ref1 r]
  refine sorted_col hu ho (fun R hR E => ?_) q
  rcases o with ⟨kvs⟩ | ⟨kvs⟩
  · obtain ⟨hl, lo, xs, rel, dd⟩ := dk_rd I.hok (.inl hz)
    obtain ⟨ep, hat⟩ := dd.dictAt
    have hlen : kvs.length = xs.length := rel.length
    refine PySem.W.kdu_collect (A := X.A.in1) (PySem.W.kdl_dict (knd := mixKind X.prog X.w) (kvs := xs) (ep := ep) lo) (I.ok.hd hc) hat (by omega) fun h' tk acc hk hacc => ?_
    refine hR h' tk acc.toList (I.kept hk) hk (each_ix (by rw [Array.length_toList, hacc.1, List.length_map, List.length_map, hlen]) fun j u d e1 e2 => ?_)
    obtain ⟨k, x, g1, g2⟩ := hacc.2 j u (by rw [← Array.getElem?_toList]; exact e1)
    have e3 : (xs.map (·.1))[j]? = some k := by rw [List.getElem?_map, g1]; rfl
    rw [← rel.keys, List.getElem?_map] at e3
    rw [List.map_map, List.getElem?_map] at e2
    cases e4 : kvs[j]? with
    | none => rw [e4] at e3; cases e3
    | some y =>
      rw [e4] at e3 e2
      cases e3; cases e2
      rcases keyIs_shape (show keyIs y.1 u = true from g2) with ⟨i, tk, ek, ev⟩ | ⟨zz, tk, ek, ev⟩
      · refine ⟨.int i, ⟨tk, ev⟩, ?_⟩
        show KeyAt H _ (dKey false [y.1])
        rw [ek]
        rfl
      · refine ⟨.str zz, ⟨tk, ev⟩, ?_⟩
        show KeyAt H _ (dKey false [y.1])
        rw [ek]
        rfl
  · obtain ⟨hl, hs, ks, pr, ob, es, ep, ho1, hx, hdt, he, hn⟩ := (show ObjOk X.prog X.w H s.heap z (.dT vs) from (show Rd H z (.dT vs) from .inl hz).ok I.hok)
    have l1 : es.size = ks.length := size_of_entries he
    have l2 : vs.length = ks.length := Paired.length pr
    refine PySem.W.kdu_collect (A := X.A.in1) (kdl_raw hs hx hdt) (I.ok.hd hc) ho1 (by omega) fun h' tk acc hk hacc => ?_
    refine hR h' tk acc.toList (I.kept hk) hk (each_ix (by rw [Array.length_toList, hacc.1, List.length_map]; omega) fun j u d e1 e2 => ?_)
    obtain ⟨en, hen, hv⟩ := hacc.2 j u (by rw [← Array.getElem?_toList]; exact e1)
    have qe := entry_at he j
    rw [hen] at qe
    rw [List.getElem?_map] at e2
    cases hb : ks[j]? with
    | none => rw [hb] at qe; exact nomatch (show some en = none from qe)
    | some x =>
      rw [hb] at qe
      have e5 : en = entryOfKey (tupleKind (mixKind X.prog X.w)) x := Option.some.inj qe
      cases e4 : vs[j]? with
      | none => rw [e4] at e2; cases e2
      | some p =>
        rw [e4] at e2
        cases e2
        obtain ⟨k1, k2, k3⟩ := paired_at pr j e4 hb
        refine ⟨.ref x.2.1, ?_, x.2.1, p.1, rfl, k2, rfl⟩
        rw [hv, e5]
        rfl
theorem snd_dSrt (g : GX fnm kwt call ad X c) {t : Ty} {i : Nat} {x : Str} (hg : globOk c "sorted" = true) (hn : nameOk c i x = true) : PE X (.Call (.Name "sorted" q) [.Name x q'] [] p) (tE call X.K ad κ (.dSrt t i)) := by
  obtain ⟨h1, h2⟩ := g.glob hg
  obtain ⟨n1, n2, n3, n4⟩ := g.name hn
  refine PE.imp (pe_callB (cr_srtD g.calm g.un t) h1 (g.bl "sorted") (by decide +kernel) (pa_cons (pe_var n1 n2 n3 n4) pa_nil rfl) (by decide) h2 rfl rfl) fun σ H Q ⟨F, s, R, gd⟩ => ?_
  have gd : Good _ (kDSrt t i s) := gd
  unfold kDSrt at gd
  split at gd
  · rename_i b kvs hs
    obtain ⟨z, u, vs, e1, e2, e3, e4, _⟩ := Rel.dct R hs
    obtain ⟨r, hr, pr⟩ := gd.ofO
    obtain ⟨out, ho, rfl⟩ := Option.map_eq_some_iff.mp hr
    refine ⟨_, e1, z, u, b, vs, out, rfl, e2, e3, ?_, fun p ys hp hk => ?_⟩
    · have : (vs.map fun p => dKey b p.1) = kvs.map fun p => dKey b p.1 := by
        have := congrArg (List.map (dKey b)) e4.keys
        rw [List.map_map, List.map_map] at this
        exact this
      rw [this]; exact ho
    · obtain ⟨F', R', st', rp⟩ := Rel.keys (w := ⟨F, s, σ, H⟩) R hk
      have d : Dlv X.K ad F' H (.lst out) Q := Post.dlv R' st' pr
      exact d.lst R'.fh rp p hp
  · exact gd.elim
end
end Ax
/-! A13: what is walked. -/
namespace Ax
open PySem PySem.Spec PyProof.Rows L2
section
variable {fnm : Nat → Str} {kwt : List (Nat × List Str × List Nat)} {call : Nat → List Arg → List M → R (List M) M} {K : PySem.W.Frag} {ad : Nat → Addr} {κ : List Addr} {X : Cx} {c : MC} {e l r tg : Expr} {a b k : Ex} {p q p' q' ap cp : Pos} {es : List Expr} {as bs : Xs}
variable {F H : Hp} {s : S} {σ : L2.St}
/-- wb is wl, but for things that were there ahead (in H0) and that no one owns -/
structure Hid (κ : List Addr) (H0 : Hp) (wl wb : Wd) : Prop where
  f : wb.F = wl.F
  s : wb.s = wl.s
  σ : wb.σ = wl.σ
  h : ∀ z u, wl.H z = some u → (H0 z = none ∨ ∃ o v, OwnAt κ wl o z v) → wb.H z = some u
theorem Hid.refl {H0 : Hp} {w : Wd} : Hid κ H0 w w := ⟨rfl, rfl, rfl, fun _ _ e _ => e⟩
theorem Hid.own {H0 : Hp} {wl wb : Wd} (h : Hid κ H0 wl wb) {o : Own} {z : Addr} {v : M} : OwnAt κ wb o z v ↔ OwnAt κ wl o z v := by
  obtain ⟨F1, s1, σ1, H1⟩ := wl
  obtain ⟨F2, s2, σ2, H2⟩ := wb
  obtain ⟨h1, h2, h3, _⟩ := h
  cases h1; cases h2; cases h3
  cases o <;> exact Iff.rfl
/-- the iterator J yields ds in every world that may come behind w -/
def Walk (K : PySem.W.Frag) (ad : Nat → Addr) (κ : List Addr) (H0 : Hp) (w : Wd) (J : It) (ds : List D) : Prop :=
  ∀ wb, Hid κ H0 w wb → ∀ w2, Rel K ad κ w2 → Stp κ noT wb w2 → (∀ i d, ds[i]? = some d → J.go i w2.H ∧ ∀ x H', J.yld i w2.H x H' → (H' = w2.H ∧ RepD K w2.F x d) ∨ ∃ z u, w2.H z = none ∧ H' = upd w2.H z u ∧ RepD K (upd w2.F z u) x d) ∧
    J.stop ds.length w2.H
theorem walk_list {H0 : Hp} {w : Wd} {z : Addr} {vs : List V} {ds : List D} (h : RepAll K w.F vs ds) (hs : ∀ wb, Hid κ H0 w wb → ∀ w2, Rel K ad κ w2 → Stp κ noT wb w2 → SqL K w2.H z vs) : Walk K ad κ H0 w (Itl K z) ds :=
  fun wb hb w2 R2 st2 => by
    have q := hs wb hb w2 R2 st2
    refine ⟨fun i d hd => ?_, ⟨vs, q, by rw [h.length]; exact Nat.le_refl _⟩⟩
    obtain ⟨v, hv, rv⟩ := h.get hd
    refine ⟨⟨vs, v, q, hv⟩, fun x H' y => .inl ⟨y.1, ?_⟩⟩
    have := y.2 vs q
    rw [hv] at this; cases this
    rw [← hb.f] at rv
    exact rv.mono st2.ff
theorem walk_tup {H0 : Hp} {w : Wd} {z : Addr} {vs : List V} {ds : List D} (h : RepAll K w.F vs ds) (hs : w.F z = some (.tup vs)) : Walk K ad κ H0 w (Itt K z) ds :=
  fun wb hb w2 R2 st2 => by
    rw [← hb.f] at hs h
    have q : SqT K w2.H z vs := R2.fh.tupT (st2.ff _ _ hs)
    refine ⟨fun i d hd => ?_, ⟨vs, q, by rw [h.length]; exact Nat.le_refl _⟩⟩
    obtain ⟨v, hv, rv⟩ := h.get hd
    refine ⟨⟨vs, v, q, hv⟩, fun x H' y => .inl ⟨y.1, ?_⟩⟩
    have := y.2 vs q
    rw [hv] at this; cases this
    exact rv.mono st2.ff
theorem walk_rng {H0 : Hp} {w : Wd} {lo hi : Int} : Walk K ad κ H0 w (Itr lo (hi - lo).toNat) (rgD lo hi) := fun wb hb w2 R2 st2 => by
  have hl : (rgD lo hi).length = (hi - lo).toNat := by unfold rgD; rw [List.length_map, List.length_range]
  refine ⟨fun i d hd => ?_, by show _ ≤ _; omega⟩
  have hi : i < (rgD lo hi).length := (List.getElem?_eq_some_iff.mp hd).1
  refine ⟨by show i < _; omega, fun x H' y => .inl ⟨y.1, ?_⟩⟩
  unfold rgD at hd
  rw [List.getElem?_map, List.getElem?_range (by omega)] at hd
  cases hd
  rw [y.2]
  exact .int _
/-- what a text yields when it is walked -/
def tI (call : Nat → List Arg → List M → R (List M) M) (K : PySem.W.Frag) (ad : Nat → Addr) (κ : List Addr) (it : I) : TI := fun σ H Rr =>
  Run K ad κ σ H (evI call it) fun pr w w' => ∀ J, Walk K ad κ w.H ⟨w'.F, lockS w'.s pr.1, w'.σ, w'.H⟩ J pr.2 → Rr J w'.H
theorem tI.step {it : I} {w0 : Wd} {G : Rv × List D → S → Prop} {Rr : It → Hp → Prop} (R : Rel K ad κ ⟨F, s, σ, H⟩) (st : Stp κ noT w0 ⟨F, s, σ, H⟩) (g : Good G (evI call it s))
    (q : ∀ pr s2 F2 H2, Rel K ad κ ⟨F2, s2, σ, H2⟩ → Stp κ noT ⟨F, s, σ, H⟩ ⟨F2, s2, σ, H2⟩ → Stp κ noT w0 ⟨F2, s2, σ, H2⟩ → G pr s2 → ∀ J, Walk K ad κ H ⟨F2, lockS s2 pr.1, σ, H2⟩ J pr.2 → Rr J H2) : tI call K ad κ it σ H Rr :=
  Run.step R st g q
/-- a list or a tuple, as it comes -/
theorem pi_both {t : TE} (h : PE X l t) : PI X tg l (fun σ H Rr => t σ H fun x H1 => (∀ {z : Addr} {xs vs : List V}, SqL X.K H1 z vs → SqL X.K H1 z xs → xs = vs) → (∃ z, x = .ref z ∧ (∃ xs, SqL X.K H1 z xs) ∧ Rr (Itl X.K z) H1) ∨ ∃ z, x = .ref z ∧ (∃ xs, SqT X.K H1 z xs) ∧ Rr (Itt X.K z) H1) := by
  refine ⟨fun pins s σ H Rr J hw => thn (h.run pins s σ H _ J hw) fun u s1 hq => ?_⟩
  obtain ⟨x, H1, J1, rx, hq⟩ := hq
  rcases hq (fun {z xs vs} h1 h2 => J1.list_inj h2 h1) with ⟨z, rfl, ⟨xs, hs⟩, q⟩ | ⟨z, rfl, ⟨xs, hs⟩, q⟩
  · obtain rfl : u = Value.ref z := rx
    obtain ⟨vals, _, pl, _⟩ := J1.list hs
    exact wpAny_pyIter_list pl.isList (pi_one (tk := s1.toks) J1 _ (turn_list z _) ⟨_, Heap.get?_push_size _ rfl, rfl, rfl⟩ q)
  · obtain rfl : u = Value.ref z := rx
    obtain ⟨vals, _, pl, _⟩ := J1.tuple hs
    exact wpAny_pyIter_tuple (show s1.heap.IsTuple z vals.toArray from pl) (pi_one (tk := s1.toks) J1 _ (turn_tuple z _) ⟨_, Heap.get?_push_size _ rfl, rfl, rfl⟩ q)
theorem kSeq_ok {F0 H0 : Hp} {s0 : S} {x : V} {rv : Rv} {Rr : It → Hp → Prop} (R : Rel K ad κ ⟨F, s, σ, H⟩) (st : Stp κ noT ⟨F0, s0, σ, H0⟩ ⟨F, s, σ, H⟩) (ok : RvOk K ad κ ⟨F, s, σ, H⟩ x rv) (fr : Fresh H0 x rv) (inj : ∀ {z : Addr} {xs vs : List V}, SqL K H z vs → SqL K H z xs → xs = vs)
    (g : Good (fun pr s' => ∀ F' H', Rel K ad κ ⟨F', s', σ, H'⟩ → Stp κ noT ⟨F0, s0, σ, H0⟩ ⟨F', s', σ, H'⟩ → ∀ J, Walk K ad κ H0 ⟨F', lockS s' pr.1, σ, H'⟩ J pr.2 → Rr J H') (kSeq rv s)) :
    (∃ z, x = .ref z ∧ (∃ xs, SqL K H z xs) ∧ Rr (Itl K z) H) ∨ ∃ z, x = .ref z ∧ (∃ xs, SqT K H z xs) ∧ Rr (Itt K z) H := by
  unfold kSeq at g
  split at g
  · rename_i ds hd
    have g := g F H R st
    cases hv : viewS s rv with
    | none => rw [hv] at hd; cases hd
    | some d =>
      rw [hv] at hd
      have vw := R.see ok hv
      cases d with
      | tuple ds' =>
        cases hd
        obtain ⟨z, vs, rfl, h1, h2⟩ := vw
        exact .inr ⟨z, rfl, ⟨vs, R.fh.tupT h1⟩, g _ (walk_tup h2 h1)⟩
      | list ds' =>
        cases hd
        obtain ⟨z, vs, rfl, h1, h2⟩ := vw
        refine .inl ⟨z, rfl, ⟨vs, h1⟩, g _ (walk_list (w := ⟨F, lockS s rv, σ, H⟩) h2 (fun wb hb w2 R2 st2 => ?_))⟩
        obtain ⟨Rl, stl⟩ := Rel.locked R rv
        -- a thing that no one may write stays
        have stay : ∀ vs', H z = some (.lst vs') → (H0 z = none ∨ ∃ o v, OwnAt κ ⟨F, lockS s rv, σ, H⟩ o z v) → ¬ Mu κ ⟨F, lockS s rv, σ, H⟩ z → SqL K w2.H z vs := fun vs' e fo nm => by
          have e2 := st2.hk z _ (hb.h z _ e fo) fun ⟨o, v, q1, q2⟩ => nm ⟨o, v, hb.own.mp q1, q2⟩
          have : vs' = vs := (inj h1 (SqL.of e))
          subst this
          exact SqL.of e2
        rcases R.rvM ok with ⟨v, rfl, hm⟩ | ⟨i, rfl, hm⟩
        · cases v with
          | fro d =>
            cases hm with
            | lst hf _ => 
              have : _ = vs := inj h1 (SqL.of (R.fh _ _ hf))
              subst this
              exact SqL.of (R2.fh _ _ (st2.ff _ _ (by rw [hb.f]; exact hf)))
            | tup _ _ => cases hv
          | scr ns =>
            obtain ⟨z', e, hs⟩ := hm
            cases e
            have : _ = vs := inj h1 (R.fh.sqL hs)
            subst this
            exact R2.fh.sqL (st2.ff.sqL (by rw [hb.f]; exact hs))
          | fn n => cases hv
          | dct bb kvs => cases hv
          | lst ds2 =>
            obtain ⟨z', vs', e, h3, _⟩ := hm
            cases e
            exact stay vs' h3 (.inl (fr z ⟨rfl, rfl⟩)) (Stp.noMu (ok.2 z ⟨rfl, rfl⟩))
          | lock ds2 =>
            obtain ⟨z', vs', e, h3, _⟩ := hm
            cases e
            exact stay vs' h3 (.inl (fr z ⟨rfl, rfl⟩)) (Stp.noMu (ok.2 z ⟨rfl, rfl⟩))
        · have hv' : (s.at i).bind M.contS = some (.list ds) := hv
          cases hi : s.at i with
          | none => rw [hi] at hv'; cases hv'
          | some v =>
            have hm := hm v hi
            rw [hi] at hv'
            cases v with
            | fro d =>
              cases hm with
              | lst hf _ =>
                have : _ = vs := inj h1 (SqL.of (R.fh _ _ hf))
                subst this
                exact SqL.of (R2.fh _ _ (st2.ff _ _ (by rw [hb.f]; exact hf)))
              | tup _ _ => cases hv'
            | scr ns =>
              obtain ⟨z', e, hs⟩ := hm
              cases e
              have : _ = vs := inj h1 (R.fh.sqL hs)
              subst this
              exact R2.fh.sqL (st2.ff.sqL (by rw [hb.f]; exact hs))
            | fn n => cases hv'
            | dct bb kvs => cases hv'
            | lst ds2 =>
              obtain ⟨o, z1, oa, hσ, hp⟩ := R.owner hi rfl
              have ok' : σ[i]? = some (some (.ref z)) := ok
              have hσ : σ[i]? = _ := hσ
              rw [ok'] at hσ; cases hσ
              obtain ⟨z', vs', e, h3, _⟩ := hm
              cases e
              have el : lockS s (.bor i) = s.put i (.lock ds2) := by
                show (match s.at i with
                  | some (.lst ds) => s.put i (.lock ds)
                  | _ => s) = _
                rw [hi]
              refine stay vs' h3 (.inr ⟨o, .lock ds2, ?_⟩) fun ⟨o2, v2, q2, m2⟩ => ?_
              · rw [el, hp]
                have q1 := own_iff.mp oa
                exact own_iff.mpr ⟨upO_get q1.1, rfl, q1.2.2⟩
              rw [el, hp] at q2
              rcases own_upO (w := ⟨F, s, σ, H⟩) oa q2 with ⟨_, _, e3⟩ | ⟨n2, q3⟩
              · rw [e3] at m2; cases m2
              · exact n2 (R.ap _ _ _ _ _ q3 oa)
            | lock ds2 =>
              obtain ⟨o, z1, oa, hσ, hp⟩ := R.owner hi rfl
              have ok' : σ[i]? = some (some (.ref z)) := ok
              have hσ : σ[i]? = _ := hσ
              rw [ok'] at hσ; cases hσ
              obtain ⟨z', vs', e, h3, _⟩ := hm
              cases e
              have el : lockS s (.bor i) = s := by
                show (match s.at i with
                  | some (.lst ds) => s.put i (.lock ds)
                  | _ => s) = _
                rw [hi]
              refine stay vs' h3 (.inr ⟨o, .lock ds2, by rw [el]; exact oa⟩) fun ⟨o2, v2, q2, m2⟩ => ?_
              rw [el] at q2
              have := R.ap _ _ _ _ _ q2 oa
              subst this
              obtain ⟨_, e4⟩ := OwnAt.inj q2 oa
              rw [e4] at m2; cases m2
      | none => cases hd
      | bool _ => cases hd
      | int _ => cases hd
      | str _ => cases hd
      | dict _ => cases hd
  · exact g.elim

theorem PI.imp {t t' : TI} (h : PI X tg l t) (q : ∀ σ H Rr, t' σ H Rr → t σ H Rr) : PI X tg l t' := ⟨fun pins s σ H Rr I z => h.run pins s σ H Rr I (q σ H Rr z)⟩
theorem snd_seq (ha : PE X l (tE call X.K ad κ a)) : PI X tg l (tI call X.K ad κ (.seq a)) := by
  refine PI.imp (pi_both ha) fun σ H Rr ⟨F, s, R, gd⟩ => ?_
  have gd : Good _ ((evE call a s).bind kSeq) := gd
  exact tE.step R Stp.refl (good_bind.mp gd) fun x s1 F1 H1 R1 _ st1 g1 v1 ok1 fr1 inj => kSeq_ok R1 st1 ok1 fr1 inj g1
theorem kRgI_ok {F0 H0 : Hp} {s0 : S} {pr : Int × Int} {Rr : It → Hp → Prop} (R : Rel K ad κ ⟨F, s, σ, H⟩) (st : Stp κ noT ⟨F0, s0, σ, H0⟩ ⟨F, s, σ, H⟩)
    (g : Good (fun pr s' => ∀ F' H', Rel K ad κ ⟨F', s', σ, H'⟩ → Stp κ noT ⟨F0, s0, σ, H0⟩ ⟨F', s', σ, H'⟩ → ∀ J, Walk K ad κ H0 ⟨F', lockS s' pr.1, σ, H'⟩ J pr.2 → Rr J H') (kRgI pr s)) :
    (-(2 ^ 62) ≤ pr.1 ∧ pr.1 < 2 ^ 62 ∧ -(2 ^ 62) ≤ pr.2 ∧ pr.2 < 2 ^ 62) ∧ Rr (Itr pr.1 (pr.2 - pr.1).toNat) H := by
  unfold kRgI at g
  split at g
  · rename_i h
    unfold rgOk at h
    simp only [Bool.and_eq_true, decide_eq_true_eq] at h
    exact ⟨⟨by omega, by omega, by omega, by omega⟩, g F H R st _ walk_rng⟩
  · exact g.elim
theorem snd_irng1 (g : GX fnm kwt call ad X c) (hg : globOk c "range" = true) (n1 : noStar e = true) (ha : PE X e (tE call X.K ad κ a)) : PI X tg (.Call (.Name "range" q) [e] [] p) (tI call X.K ad κ (.rng (.r1 a))) := by
  obtain ⟨h1, h2⟩ := g.glob hg
  refine PI.imp (pi_range1 h1 (g.bl "range") (pa_cons ha pa_nil (star1 n1)) (star1 n1)) fun σ H Rr ⟨F, s, R, gd⟩ => ?_
  have gd : Good _ (((evE call a s).bind kR1).bind kRgI) := gd
  refine tE.step R Stp.refl (good_bind.mp (good_bind.mp gd)) fun x s1 F1 H1 R1 _ st1 g1 v1 ok1 fr1 => ?_
  unfold kR1 at g1
  split at g1
  · cases ok1.1
    obtain ⟨hb, z⟩ := kRgI_ok R1 st1 g1
    exact ⟨_, rfl, hb.2.2.1, hb.2.2.2, by simpa using z⟩
  · exact g1.elim
theorem snd_irng2 (g : GX fnm kwt call ad X c) (hg : globOk c "range" = true) (n1 : noStar l = true) (n2 : noStar r = true) (ha : PE X l (tE call X.K ad κ a)) (hb : PE X r (tE call X.K ad κ b)) :
    PI X tg (.Call (.Name "range" q) [l, r] [] p) (tI call X.K ad κ (.rng (.r2 a b))) := by
  obtain ⟨h1, h2⟩ := g.glob hg
  have e2 : starEach [r] X.env = [(false, eval r X.env)] := star1 n2
  have e1 : starEach [l, r] X.env = [(false, eval l X.env), (false, eval r X.env)] := by rw [star1 n1, e2]
  refine PI.imp (pi_range2 h1 (g.bl "range") (pa_cons ha (pa_cons hb pa_nil (star1 n2)) (star1 n1)) e1 e2) fun σ H Rr ⟨F, s, R, gd⟩ => ?_
  have gd : Good _ (((evE call a s).bind fun x s1 => (evE call b s1).bind (kR2 x)).bind kRgI) := gd
  show tE call X.K ad κ a σ H (fun x H1 => tE call X.K ad κ b σ H1 (fun y H2 => ∃ i j : Int, [x, y] = [.int i, .int j] ∧ (-(2 ^ 62) ≤ i ∧ i < 2 ^ 62 ∧ -(2 ^ 62) ≤ j ∧ j < 2 ^ 62) ∧ Rr (Itr i (j - i).toNat) H2))
  have gd := good_bind.mp (good_bind.mp gd)
  refine tE.step R Stp.refl gd fun x s1 F1 H1 R1 _ st1 g1 v1 ok1 fr1 => ?_
  refine tE.step R1 st1 (good_bind.mp g1) fun y s2 F2 H2 R2 st2 st2' g2 v2 ok2 fr2 => ?_
  unfold kR2 at g2
  split at g2
  · cases ok1.1
    cases ok2.1
    obtain ⟨hb, z⟩ := kRgI_ok R2 st2' g2
    exact ⟨_, _, rfl, hb, z⟩
  · exact g2.elim
/-- two tuples, side by side -/
theorem snd_zip (g : GX fnm kwt call ad X c) {t1 t2 : Expr} {kk : Nat} {tp : Pos} (hg : globOk c "zip" = true) (n1 : noStar l = true) (n2 : noStar r = true) (ha : PE X l (tE call X.K ad κ a)) (hb : PE X r (tE call X.K ad κ b)) :
    PI X (.Tuple [t1, t2] kk tp) (.Call (.Name "zip" q) [l, r] [] p) (tI call X.K ad κ (.zip a b)) := by
  obtain ⟨h1, h2⟩ := g.glob hg
  refine PI.imp (RZ.pi_zipA h1 (g.bl "zip") (pa_cons ha (pa_cons hb pa_nil (star1 n2)) (star1 n1)) (star1 n1) (by rw [star1 n2]; rfl)) fun σ H Rr ⟨F, s, R, gd⟩ => ?_
  have gd : Good _ ((evE call a s).bind fun x s1 => (evE call b s1).bind (kZip x)) := gd
  show tE call X.K ad κ a σ H (fun x H1 => tE call X.K ad κ b σ H1 (fun y H2 => ∃ z z' xs ys, [x, y] = [V.ref z, V.ref z'] ∧ ((SqL X.K H2 z xs ∧ SqL X.K H2 z' ys ∧ Rr (Itz X.K z z') H2) ∨ (SqT X.K H2 z xs ∧ SqT X.K H2 z' ys ∧ Rr (RZ.ItzT X.K z z') H2))))
  refine tE.step R Stp.refl (good_bind.mp gd) fun x s1 F1 H1 R1 _ st1 g1 v1 ok1 fr1 => ?_
  refine tE.step R1 st1 (good_bind.mp g1) fun y s2 F2 H2 R2 st2 st2' g2 v2 ok2 fr2 => ?_
  have ok1' := ok1.step0 st2 rfl
  unfold kZip at g2
  split at g2
  · rename_i ds es
    cases ok1'.1 with
    | tup hs hr =>
      cases ok2.1 with
      | tup hs2 hr2 =>
        rename_i z xs z2 ys
        refine ⟨z, z2, xs, ys, rfl, .inr ⟨R2.fh.tupT hs, R2.fh.tupT hs2, g2 F2 H2 R2 st2' _ fun wb hb w3 R3 st3 => ?_⟩⟩
        have st3f : Le F2 w3.F := by have := st3.ff; rw [hb.f] at this; exact this
        have q1 : SqT X.K w3.H z xs := R3.fh.tupT (st3f _ _ hs)
        have q2 : SqT X.K w3.H z2 ys := R3.fh.tupT (st3f _ _ hs2)
        refine ⟨fun i d hd => ?_, ?_⟩
        · have hd : ((ds.zip es).map fun p => PyData.tuple [p.1, p.2])[i]? = some d := hd
          rw [List.getElem?_map] at hd
          obtain ⟨pr, hp, rfl⟩ := Option.map_eq_some_iff.mp hd
          obtain ⟨e1, e2⟩ := List.getElem?_zip_eq_some.mp hp
          obtain ⟨v, hv, rv⟩ := hr.get e1
          obtain ⟨v', hv', rv'⟩ := hr2.get e2
          refine ⟨⟨xs, ys, v, v', q1, q2, hv, hv'⟩, fun x H' y => .inr ?_⟩
          obtain ⟨T, x1, y1, rfl, hT, rfl, y2, y3⟩ := y
          have f1 := y2 xs q1
          have f2 := y3 ys q2
          rw [hv] at f1; cases f1
          rw [hv'] at f2; cases f2
          have le : Le w3.F (upd w3.F T (.tup [v, v'])) := le_upd (R3.nof hT)
          exact ⟨T, _, hT, rfl, .tup upd_same (.cons ((rv.mono st3f).mono le) (.cons ((rv'.mono st3f).mono le) .nil))⟩
        · refine ⟨xs, ys, q1, q2, ?_⟩
          have e1 := hr.length
          have e2 := hr2.length
          show xs.length ≤ ((ds.zip es).map fun p => PyData.tuple [p.1, p.2]).length ∨ ys.length ≤ ((ds.zip es).map fun p => PyData.tuple [p.1, p.2]).length
          rw [List.length_map, List.length_zip]
          omega
  · exact g2.elim
end
end Ax
/-! A14: targets; blocks. -/
namespace Ax
open PySem PySem.Spec PyProof.Rows L2
section
variable {fnm : Nat → Str} {kwt : List (Nat × List Str × List Nat)} {call : Nat → List Arg → List M → R (List M) M} {K : PySem.W.Frag} {ad : Nat → Addr} {κ : List Addr} {X : Cx} {c : MC} {e l r tg : Expr} {a b k : Ex} {p q p' q' ap cp : Pos} {es : List Expr} {as bs : Xs}
variable {F H : Hp} {s : S} {σ : L2.St}
/-- the same outside own -/
def Agree (own : List Nat) (σ σ' : L2.St) : Prop := σ.length = σ'.length ∧ ∀ i, i ∉ own → σ[i]? = σ'[i]?
theorem Agree.refl {own : List Nat} : Agree own σ σ := ⟨rfl, fun _ _ => rfl⟩
theorem Agree.trans {own : List Nat} {σ1 σ2 σ3 : L2.St} (h : Agree own σ1 σ2) (h' : Agree own σ2 σ3) : Agree own σ1 σ3 := ⟨h.1.trans h'.1, fun i n => (h.2 i n).trans (h'.2 i n)⟩
theorem wipe_in {i : Nat} : ∀ {vs : List Nat} {σ : L2.St}, i ∈ vs → i < σ.length → (wipe σ vs)[i]? = some none
  | v :: vs, σ, h, hl => by
    show ((wipe σ vs).set v none)[i]? = _
    by_cases e : v = i
    · subst e
      rw [List.getElem?_set_self (by rw [wipe_length]; exact hl)]
    · rw [List.getElem?_set_ne e]
      exact wipe_in ((List.mem_cons.mp h).resolve_left fun z => e z.symm) hl
theorem Agree.wipe {own : List Nat} {σ' : L2.St} (h : Agree own σ σ') : L2.wipe σ own = L2.wipe σ' own := by
  apply List.ext_getElem?
  intro i
  by_cases m : i ∈ own
  · by_cases hl : i < σ.length
    · rw [wipe_in m hl, wipe_in m (by rw [← h.1]; exact hl)]
    · rw [List.getElem?_eq_none (by rw [wipe_length]; omega), List.getElem?_eq_none (by rw [wipe_length, ← h.1]; omega)]
  · rw [wipe_out m, wipe_out m]
    exact h.2 i m
theorem agree_wipe {own : List Nat} : Agree own σ (L2.wipe σ own) := ⟨(wipe_length σ own).symm, fun i n => (wipe_out n).symm⟩

/-! ### targets -/
/-- frozen data go to the target -/
def tTg (K : PySem.W.Frag) (ad : Nat → Addr) (κ : List Addr) (t : T) : TG := fun v σ H Q => ∃ F s d s', Rel K ad κ ⟨F, s, σ, H⟩ ∧ RepD K F v d ∧ bindT t d s = some s' ∧
  ∀ σ', Rel K ad κ ⟨F, s', σ', H⟩ → Stp κ noT ⟨F, s, σ, H⟩ ⟨F, s', σ', H⟩ → (∀ own, tIn own t = true → Agree own σ σ') → Q σ' H
def tTgs (K : PySem.W.Frag) (ad : Nat → Addr) (κ : List Addr) (ts : Ts) : TGs := fun vs σ H Q => ∃ F s ds s', Rel K ad κ ⟨F, s, σ, H⟩ ∧ RepAll K F vs ds ∧ bindTs ts ds s = some s' ∧
  ∀ σ', Rel K ad κ ⟨F, s', σ', H⟩ → Stp κ noT ⟨F, s, σ, H⟩ ⟨F, s', σ', H⟩ → (∀ own, tsIn own ts = true → Agree own σ σ') → Q σ' H
theorem PG.imp {t t' : TG} (h : PG X tg t) (q : ∀ v σ H Q, t' v σ H Q → t v σ H Q) : PG X tg t' := ⟨fun pins s σ H v u Q I r z => h.run pins s σ H v u Q I r (q v σ H Q z)⟩
theorem PGs.imp {t t' : TGs} (h : PGs X es t) (q : ∀ v σ H Q, t' v σ H Q → t v σ H Q) : PGs X es t' := ⟨fun pins s σ H v u Q I r z => h.run pins s σ H v u Q I r (q v σ H Q z)⟩
theorem okTs_len {env : Env} : ∀ {ts : Ts} {es : List Expr}, okTs c ts es = true → ∃ n, (assignEach es env).length = n ∧ (∀ {ds : List D} {s s' : S}, bindTs ts ds s = some s' → ds.length = n) ∧ (assignEach es env).findIdx? (·.1) = none
  | .nil, es, h => by
    rw [ok_tnil h]
    refine ⟨0, rfl, fun {ds s s'} hb => ?_, rfl⟩
    cases ds with
    | nil => rfl
    | cons d ds => cases hb
  | .cons t ts, es, h => by
    obtain ⟨e1, es', rfl, n1, h1, h2⟩ := ok_tcons h
    obtain ⟨n, hn, hb, ha⟩ := okTs_len (env := env) h2
    refine ⟨n + 1, by rw [assign1 n1, List.length_cons, hn], fun {ds s s'} q => ?_, by rw [assign1 n1, List.findIdx?_cons]; simp [ha]⟩
    cases ds with
    | nil => cases q
    | cons d ds =>
      have q : (match bindT t d s with
        | some s1 => bindTs ts ds s1
        | none => none) = some s' := q
      cases e : bindT t d s with
      | none => rw [e] at q; cases q
      | some s1 => rw [e] at q; rw [List.length_cons, hb q]

mutual
theorem snd_tg (g : GX fnm kwt call ad X c) : ∀ {t : T} {tg : Expr}, okT c t tg = true → PG X tg (tTg X.K ad κ t)
  | .nm i, tg, h => by
    obtain ⟨x, p, rfl, h⟩ := ok_nm h
    obtain ⟨h1, h2, h3⟩ := g.loc h
    refine PG.imp (pg_name g.nd h1 h2 h3) fun v σ H Q ⟨F, s, d, s', R, rp, hb, q⟩ => ?_
    have hb : some (s.set i (.fro d)) = some s' := hb
    cases hb
    obtain ⟨R1, st1⟩ := R.setd (i := i) rp
    refine q _ R1 st1 fun own ho => ⟨by rw [List.length_set], fun j n => ?_⟩
    have ho : i ∈ own := of_decide_eq_true ho
    rw [List.getElem?_set_ne fun e => n (by rw [← e]; exact ho)]
  | .tp ts, tg, h => by
    obtain ⟨es, kk, p, rfl, h⟩ := ok_tp h
    obtain ⟨n, h1, h2, h3⟩ := okTs_len (env := X.env) h
    refine PG.imp (pg_tup g.calm (snd_tgs g h) h1 h3) fun v σ H Q ⟨F, s, d, s', R, rp, hb, q⟩ => ?_
    cases d with
    | tuple ds =>
      cases rp with
      | tup hs hr =>
        have hb : bindTs ts ds s = some s' := hb
        exact ⟨_, _, rfl, R.fh.tupT hs, by rw [hr.length]; exact h2 hb, F, s, ds, s', R, hr, hb, fun σ' R' st' ag => q σ' R' st' fun own ho => ag own ho⟩
    | _ => cases hb
theorem snd_tgs (g : GX fnm kwt call ad X c) : ∀ {ts : Ts} {es : List Expr}, okTs c ts es = true → PGs X es (tTgs X.K ad κ ts)
  | .nil, es, h => by
    rw [ok_tnil h]
    refine PGs.imp pgs_nil fun v σ H Q ⟨F, s, ds, s', R, rp, hb, q⟩ => ?_
    cases rp with
    | nil =>
      have hb : some s = some s' := hb
      cases hb
      exact ⟨rfl, q σ R Stp.refl fun own _ => Agree.refl⟩
    | cons _ _ => cases hb
  | .cons t ts, es, h => by
    obtain ⟨e1, es', rfl, n1, h1, h2⟩ := ok_tcons h
    refine PGs.imp (pgs_cons (snd_tg g h1) (snd_tgs g h2) (by rw [assign1 n1]; rfl)) fun v σ H Q ⟨F, s, ds, s', R, rp, hb, q⟩ => ?_
    cases rp with
    | nil => cases hb
    | @cons v vs d ds hv hr =>
      have hb : (match bindT t d s with
        | some s1 => bindTs ts ds s1
        | none => none) = some s' := hb
      cases e : bindT t d s with
      | none => rw [e] at hb; cases hb
      | some s1 =>
        rw [e] at hb
        refine ⟨v, vs, rfl, F, s, d, s1, R, hv, e, fun σ1 R1 st1 ag1 => ⟨F, s1, ds, s', R1, hr, hb, fun σ2 R2 st2 ag2 => q σ2 R2 (st1.tr st2) fun own ho => ?_⟩⟩
        have ho : (tIn own t && tsIn own ts) = true := ho
        rw [Bool.and_eq_true] at ho
        exact (ag1 own ho.1).trans (ag2 own ho.2)
end

/-! ### slots out of sight -/
theorem fold_un {own : List Nat} : ∀ {own : List Nat} {rs : List Sl} {i : Nat}, (own.foldl (fun rs i => rs.set i .un) rs).length = rs.length ∧ (own.foldl (fun rs i => rs.set i .un) rs)[i]? = if i ∈ own then (rs[i]?).map (fun _ => .un) else rs[i]?
  | [], rs, i => ⟨rfl, by simp⟩
  | j :: own, rs, i => by
    obtain ⟨h1, h2⟩ := fold_un (own := own) (rs := rs.set j .un) (i := i)
    refine ⟨by rw [List.foldl_cons, h1, List.length_set], ?_⟩
    rw [List.foldl_cons, h2]
    by_cases e : j = i
    · subst e
      by_cases m : j ∈ own
      · rw [if_pos m, if_pos (List.mem_cons_self)]
        by_cases hl : j < rs.length
        · rw [List.getElem?_set_self hl, List.getElem?_eq_getElem hl]; rfl
        · rw [List.getElem?_eq_none (by rw [List.length_set]; omega), List.getElem?_eq_none (by omega)]
      · rw [if_neg m, if_pos (List.mem_cons_self)]
        by_cases hl : j < rs.length
        · rw [List.getElem?_set_self hl, List.getElem?_eq_getElem hl]; rfl
        · rw [List.getElem?_eq_none (by rw [List.length_set]; omega), List.getElem?_eq_none (by omega)]; rfl
    · rw [List.getElem?_set_ne e]
      by_cases m : i ∈ own
      · rw [if_pos m, if_pos (List.mem_cons_of_mem _ m)]
      · rw [if_neg m, if_neg (fun z => (List.mem_cons.mp z).elim (fun z => e z.symm) m)]
theorem fold_re {f : Nat → Sl} : ∀ {own : List Nat} {rs : List Sl} {i : Nat}, (own.foldl (fun rs i => rs.set i (f i)) rs).length = rs.length ∧ (own.foldl (fun rs i => rs.set i (f i)) rs)[i]? = if i ∈ own then (rs[i]?).map (fun _ => f i) else rs[i]?
  | [], rs, i => ⟨rfl, by simp⟩
  | j :: own, rs, i => by
    obtain ⟨h1, h2⟩ := fold_re (f := f) (own := own) (rs := rs.set j (f j)) (i := i)
    refine ⟨by rw [List.foldl_cons, h1, List.length_set], ?_⟩
    rw [List.foldl_cons, h2]
    by_cases e : j = i
    · subst e
      by_cases m : j ∈ own
      · rw [if_pos m, if_pos (List.mem_cons_self)]
        by_cases hl : j < rs.length
        · rw [List.getElem?_set_self hl, List.getElem?_eq_getElem hl]; rfl
        · rw [List.getElem?_eq_none (by rw [List.length_set]; omega), List.getElem?_eq_none (by omega)]
      · rw [if_neg m, if_pos (List.mem_cons_self)]
        by_cases hl : j < rs.length
        · rw [List.getElem?_set_self hl, List.getElem?_eq_getElem hl]; rfl
        · rw [List.getElem?_eq_none (by rw [List.length_set]; omega), List.getElem?_eq_none (by omega)]; rfl
    · rw [List.getElem?_set_ne e]
      by_cases m : i ∈ own
      · rw [if_pos m, if_pos (List.mem_cons_of_mem _ m)]
      · rw [if_neg m, if_neg (fun z => (List.mem_cons.mp z).elim (fun z => e z.symm) m)]
/-- a slot of the wiped state -/
theorem wiped_get {own : List Nat} {i : Nat} {sl : Sl} (h : (wipeS s own).r[i]? = some sl) (hn : sl ≠ .un) : i ∉ own ∧ s.r[i]? = some sl := by
  have h : (own.foldl (fun rs i => rs.set i .un) s.r)[i]? = some sl := h
  rw [(fold_un (own := own) (rs := s.r)).2] at h
  by_cases m : i ∈ own
  · rw [if_pos m] at h
    obtain ⟨_, _, e⟩ := Option.map_eq_some_iff.mp h
    exact (hn e.symm).elim
  · rw [if_neg m] at h
    exact ⟨m, h⟩
theorem own_wipe {w : Wd} {own : List Nat} {o : Own} {z : Addr} {v : M} (h : OwnAt κ ⟨w.F, wipeS w.s own, L2.wipe w.σ own, w.H⟩ o z v) : (∀ i, o = .inl i → i ∉ own) ∧ OwnAt κ w o z v := by
  cases o with
  | inl i =>
    obtain ⟨h1, h2, h3⟩ := h
    obtain ⟨m, h4⟩ := wiped_get h1 (by simp)
    have h3 : (L2.wipe w.σ own)[i]? = _ := h3
    rw [wipe_out m] at h3
    exact ⟨fun j e => by cases e; exact m, h4, h2, h3⟩
  | inr j => exact ⟨(fun i e => nomatch e), h⟩
theorem Rel.wiped {w : Wd} (R : Rel K ad κ w) (own : List Nat) : Rel K ad κ ⟨w.F, wipeS w.s own, L2.wipe w.σ own, w.H⟩ ∧ Stp κ noT w ⟨w.F, wipeS w.s own, L2.wipe w.σ own, w.H⟩ := by
  refine ⟨⟨R.fh, ?_, R.ul, fun i v h => ?_, fun i j h => ?_, R.uo, fun o o' z v v' q q' => R.ap _ _ _ _ _ (own_wipe q).2 (own_wipe q').2⟩, ⟨Le.refl _, fun _ e => e, fun _ _ e _ => e, fun _ _ e => .inl e, fun o z v q => .inl ⟨v, (own_wipe q).2, id⟩⟩⟩
  · show (own.foldl (fun rs i => rs.set i .un) w.s.r).length = (L2.wipe w.σ own).length
    rw [(fold_un (own := own) (rs := w.s.r) (i := 0)).1, wipe_length]; exact R.len
  · obtain ⟨m, h4⟩ := wiped_get h (by simp)
    obtain ⟨x, hx, hm⟩ := R.sl i v h4
    exact ⟨x, by show (L2.wipe w.σ own)[i]? = _; rw [wipe_out m]; exact hx, hm⟩
  · obtain ⟨m, h4⟩ := wiped_get h (by simp)
    obtain ⟨x, hx, hm⟩ := R.rf i j h4
    exact ⟨x, by show (L2.wipe w.σ own)[i]? = _; rw [wipe_out m]; exact hx, hm⟩
/-- behind a block -/
theorem unwipe_get {s1 : S} {own : List Nat} {i : Nat} (hl : s.r.length = s1.r.length) : (unwipe s s1 own).r[i]? = if i ∈ own then s.r[i]? else s1.r[i]? := by
  show (own.foldl (fun rs i => rs.set i (s.r.getD i .un)) s1.r)[i]? = _
  rw [(fold_re (f := fun i => s.r.getD i .un) (own := own) (rs := s1.r)).2]
  by_cases m : i ∈ own
  · rw [if_pos m, if_pos m]
    by_cases h : i < s.r.length
    · rw [List.getElem?_eq_getElem h, List.getElem?_eq_getElem (by omega)]
      simp [List.getD_eq_getElem?_getD, h]
    · rw [List.getElem?_eq_none (by omega), List.getElem?_eq_none (by omega)]; rfl
  · rw [if_neg m, if_neg m]
theorem Rel.unwiped {w : Wd} {own : List Nat} (R : Rel K ad κ w) (R2 : Rel K ad κ ⟨F, s, L2.wipe w.σ own, H⟩) (st : Stp κ noT ⟨w.F, wipeS w.s own, L2.wipe w.σ own, w.H⟩ ⟨F, s, L2.wipe w.σ own, H⟩) :
    Rel K ad κ ⟨F, unwipe w.s s own, w.σ, H⟩ ∧ Stp κ noT w ⟨F, unwipe w.s s own, w.σ, H⟩ ∧
    ∀ o z v, OwnAt κ ⟨F, unwipe w.s s own, w.σ, H⟩ o z v → OwnAt κ w o z v ∨ OwnAt κ ⟨F, s, L2.wipe w.σ own, H⟩ o z v := by
  have hl : w.s.r.length = s.r.length := by
    have e1 := R.len
    have e2 : s.r.length = (L2.wipe w.σ own).length := R2.len
    rw [wipe_length] at e2
    omega
  have who : ∀ o z v, OwnAt κ ⟨F, unwipe w.s s own, w.σ, H⟩ o z v → (∃ i, o = .inl i ∧ i ∈ own ∧ OwnAt κ w o z v) ∨ ((∀ i, o = .inl i → i ∉ own) ∧ OwnAt κ ⟨F, s, L2.wipe w.σ own, H⟩ o z v) := fun o z v q => by
    cases o with
    | inl i =>
      obtain ⟨h1, h2, h3⟩ := q
      have h1 : (unwipe w.s s own).r[i]? = some (.m v) := h1
      rw [unwipe_get hl] at h1
      by_cases m : i ∈ own
      · rw [if_pos m] at h1
        exact .inl ⟨i, rfl, m, h1, h2, h3⟩
      · rw [if_neg m] at h1
        refine .inr ⟨fun j e => by cases e; exact m, h1, h2, ?_⟩
        show (L2.wipe w.σ own)[i]? = _
        rw [wipe_out m]; exact h3
    | inr j => exact .inr ⟨(fun i e => nomatch e), q⟩
  -- what a wiped slot owns, no one else has
  have lone : ∀ {i : Nat} {z : Addr} {v : M}, i ∈ own → OwnAt κ w (.inl i) z v → ∀ o v', ¬ OwnAt κ ⟨w.F, wipeS w.s own, L2.wipe w.σ own, w.H⟩ o z v' := fun {i z v} m q o v' q' => by
    obtain ⟨h1, h2⟩ := own_wipe q'
    have := R.ap _ _ _ _ _ h2 q
    exact h1 i this m
  have stay : ∀ {i : Nat} {x : V} {v : M}, i ∈ own → w.s.r[i]? = some (.m v) → w.σ[i]? = some (some x) → RelM K ad w.F w.H x v → RelM K ad F H x v := fun {i x v} m h1 h2 hm => hm.stay st.ff fun vo z vs e hz fz => by
    subst e
    have no := lone m (v := v) ⟨h1, vo, h2⟩
    exact ⟨st.hk z _ hz (Stp.noMu no), st.noF (w := ⟨w.F, wipeS w.s own, L2.wipe w.σ own, w.H⟩) hz fz no (fun z => z) (hm.own_nt vo rfl hz)⟩
  have back : ∀ {o : Own} {z : Addr} {v : M}, OwnAt κ ⟨F, s, L2.wipe w.σ own, H⟩ o z v → (∃ v0, OwnAt κ ⟨w.F, wipeS w.s own, L2.wipe w.σ own, w.H⟩ o z v0 ∧ (v.mut = true → v0.mut = true)) ∨ w.H z = none := fun {o z v} q => by
    rcases st.ow o z v q with q | q | q
    · exact .inl q
    · exact q.elim
    · exact .inr q
  have mixed : ∀ {i : Nat} {o : Own} {z : Addr} {v v' : M}, i ∈ own → OwnAt κ w (.inl i) z v → ¬ OwnAt κ ⟨F, s, L2.wipe w.σ own, H⟩ o z v' := fun {i o z v v'} m q q' => by
    rcases back q' with ⟨v0, h1, _⟩ | h1
    · exact lone m q _ _ h1
    · obtain ⟨b, vs, e1, e2, _⟩ := (OwnAt.rel R q).own_at (own_iff.mp q).2.1
      cases e1; rw [h1] at e2; cases e2
  refine ⟨⟨R2.fh, ?_, ?_, fun i v h => ?_, fun i j h => ?_, R2.uo, fun o o' z v v' q q' => ?_⟩, ⟨st.ff, st.dm, fun z u hz nm => st.hk z u hz fun ⟨o, v, h1, h2⟩ => nm ⟨o, v, (own_wipe h1).2, h2⟩, fun z u hz => ?_, fun o z v q => ?_⟩, fun o z v q => ?_⟩
  · show (own.foldl (fun rs i => rs.set i (w.s.r.getD i .un)) s.r).length = w.σ.length
    rw [(fold_re (f := fun i => w.s.r.getD i .un) (own := own) (rs := s.r) (i := 0)).1, ← hl]; exact R.len
  · exact R2.ul
  · have h : (unwipe w.s s own).r[i]? = some (.m v) := h
    rw [unwipe_get hl] at h
    by_cases m : i ∈ own
    · rw [if_pos m] at h
      obtain ⟨x, hx, hm⟩ := R.sl i v h
      exact ⟨x, hx, stay m h hx hm⟩
    · rw [if_neg m] at h
      obtain ⟨x, hx, hm⟩ := R2.sl i v h
      have hx : (L2.wipe w.σ own)[i]? = _ := hx
      rw [wipe_out m] at hx
      exact ⟨x, hx, hm⟩
  · have h : (unwipe w.s s own).r[i]? = some (.ref j) := h
    rw [unwipe_get hl] at h
    by_cases m : i ∈ own
    · rw [if_pos m] at h
      exact R.rf i j h
    · rw [if_neg m] at h
      obtain ⟨x, hx, hm⟩ := R2.rf i j h
      have hx : (L2.wipe w.σ own)[i]? = _ := hx
      rw [wipe_out m] at hx
      exact ⟨x, hx, hm⟩
  · rcases who _ _ _ q with ⟨i, rfl, m, q1⟩ | ⟨n, q1⟩
    · rcases who _ _ _ q' with ⟨i', rfl, m', q1'⟩ | ⟨n', q1'⟩
      · exact R.ap _ _ _ _ _ q1 q1'
      · exact (mixed m q1 q1').elim
    · rcases who _ _ _ q' with ⟨i', rfl, m', q1'⟩ | ⟨n', q1'⟩
      · exact (mixed m' q1' q1).elim
      · exact R2.ap _ _ _ _ _ q1 q1'
  · rcases st.fn z u hz with h | ⟨o, v, h⟩ | h | h
    · exact .inl h
    · exact .inr (.inl ⟨o, v, (own_wipe h).2⟩)
    · exact h.elim
    · exact .inr (.inr (.inr h))
  · rcases who _ _ _ q with ⟨i, rfl, m, q1⟩ | ⟨n, q1⟩
    · exact .inl ⟨v, q1, id⟩
    · rcases back q1 with ⟨v0, h1, h2⟩ | h1
      · exact .inl ⟨v0, (own_wipe h1).2, h2⟩
      · exact .inr (.inr h1)
  · rcases who _ _ _ q with ⟨i, rfl, m, q1⟩ | ⟨n, q1⟩
    · exact .inl q1
    · exact .inr q1
/-- the new list is drawn on: no one else's -/
theorem Rel.draw {w : Wd} {z : Addr} {u u0 : HO} (R : Rel K ad κ w) (no : ∀ o v, ¬ OwnAt κ w o z v) (hF : w.F z = none) (hH : w.H z = some u0) : Rel K ad κ { w with H := upd w.H z u } := by
  have keep : ∀ b v, b ≠ z → w.H b = some v → upd w.H z u b = some v := fun b v n e => by rw [upd_ne n]; exact e
  have st : ∀ {x : V} {v : M}, (v.own = true → ∀ b, x = .ref b → b ≠ z) → RelM K ad w.F w.H x v → RelM K ad w.F (upd w.H z u) x v := fun ho hm => hm.stay (Le.refl _) fun vo b vs e hb fb => ⟨keep b _ (ho vo b e) hb, fb⟩
  refine ⟨fun b v e => keep b v (fun q => by subst q; rw [hF] at e; cases e) (R.fh b v e), R.len, R.ul, fun i v h => ?_, R.rf, fun j v b h1 h2 => ?_, R.ap⟩
  · obtain ⟨x, hx, hm⟩ := R.sl i v h
    exact ⟨x, hx, st (fun vo b e q => by subst e q; exact no (.inl i) v ⟨h, vo, hx⟩) hm⟩
  · exact st (fun vo b' e q => by cases e; subst q; exact no (.inr j) v ⟨h1, vo, h2⟩) (R.uo j v b h1 h2)
theorem Stp.draw {w0 w : Wd} {z : Addr} {u : HO} (st : Stp κ noT w0 w) (h0 : w0.H z = none) : Stp κ noT w0 { w with H := upd w.H z u } where
  ff := st.ff
  dm := fun b e => by
    by_cases n : b = z
    · subst n; exact h0
    · have e : upd w.H z u b = none := e
      rw [upd_ne n] at e
      exact st.dm b e
  hk := fun b v e nm => by
    have n : b ≠ z := ne_of_none e h0
    show upd w.H z u b = _
    rw [upd_ne n]; exact st.hk b v e nm
  fn := st.fn
  ow := st.ow
/-- a thing that nobody has, stays nobody's -/
theorem Stp.keepD {w w' : Wd} {z : Addr} {u : HO} (st : Stp κ noT w w') (no : ∀ o v, ¬ OwnAt κ w o z v) (hF : w.F z = none) (hH : w.H z = some u) (nu : NotTup u) : (∀ o v, ¬ OwnAt κ w' o z v) ∧ w'.F z = none ∧ w'.H z = some u :=
  ⟨(fun o v q => by
    rcases st.ow o z v q with ⟨v0, h, _⟩ | h | h
    · exact no o v0 h
    · exact h
    · rw [hH] at h; cases h), st.noF hH hF no (fun z => z) nu, st.hk z u hH (Stp.noMu no)⟩
end
end Ax
/-! E1: enumerate of a tuple. -/
namespace Ax
open PySem PySem.Spec PyProof.Rows L2
open PySem.AutoSeq1 (wpAny_loadPart')
section
variable {prog : Program} {w : World} {A : Around} {E : Value → Shared → Prop} {s : Shared}
/-- a tuple's iterator steps -/
theorem tupNext_item {z t : Addr} {i : Nat} {vs : Array Value} {x : Value} {Q : Value → Shared → Prop} (hz : s.heap.IsTupleIter z t i) (ht : s.heap.IsTuple t vs) (hx : vs[i]? = some x)
    (q : ∀ h', h'.IsTupleIter z t (i + 1) → Heap.SameBut z s.heap h' → Q x { s with heap := h' }) : wpAny (model prog w) A (Builtin.SmallTypes.nextOf (.ref z)) Q E s := by
  obtain ⟨oz, gz, cz, dz⟩ := id hz
  obtain ⟨ot, gt, _, nt, dt⟩ := ht
  unfold Builtin.SmallTypes.nextOf
  refine wpAny_bind (wpAny_callSpecial?_slot (name := Str.ofString "__next__") hz.typeIs F.slot_tuple_iterator_next (wpAny_call_entry F.slot_tuple_iterator_next hz.typeIs F.entry_tuple_iterator_next ?_ (F.args_tuple_iterator_next_1 _)))
  show wpAny _ _ (field (.ref z) 0 >>= _) _ _ s
  refine wpAny_bind (wpAny_field gz dz (x := .ref t) rfl ?_)
  show wpAny _ _ (if (Value.ref t == Value.none) = true then _ else _) _ _ s
  rw [if_neg (show ¬ ((Value.ref t == Value.none) = true) from Bool.false_ne_true)]
  show wpAny _ _ (field (.ref z) 1 >>= _) _ _ s
  refine wpAny_bind (wpAny_field gz dz (x := .int i 0) rfl ?_)
  show wpAny _ _ (seqItems? (.ref t) >>= _) _ _ s
  refine wpAny_bind (wpAny_seqItems gt dt ?_)
  simp only [Int.toNat_natCast, hx]
  refine wpAny_bind (wpAny_setField gz dz (by simp) (wpAny_pure ⟨x, rfl, wpAny_pure (q _ ⟨_, Heap.get?_update_self _ gz (Obj.isFreed_of_fields (Obj.data_mapFields dz _)), (Obj.cls_mapFields ..).trans cz, ?_⟩ (Heap.SameBut.update ..))⟩))
  rw [Obj.data_mapFields dz]
  simp [rawInt]
theorem tupNext_end {z t : Addr} {i : Nat} {vs : Array Value} {Q : Value → Shared → Prop} (hh : A.handled = none) (hz : s.heap.IsTupleIter z t i) (ht : s.heap.IsTuple t vs) (hx : vs[i]? = none)
    (q : ∀ h' e, Heap.ExtBut z s.heap h' → (∃ o, h'.get? e = some o ∧ o.cls = .type "StopIteration") → E (.ref e) { s with heap := h' }) : wpAny (model prog w) A (Builtin.SmallTypes.nextOf (.ref z)) Q E s := by
  obtain ⟨oz, gz, cz, dz⟩ := id hz
  obtain ⟨ot, gt, _, nt, dt⟩ := ht
  unfold Builtin.SmallTypes.nextOf
  refine wpAny_bind (wpAny_callSpecial?_slot (name := Str.ofString "__next__") hz.typeIs F.slot_tuple_iterator_next (wpAny_call_entry F.slot_tuple_iterator_next hz.typeIs F.entry_tuple_iterator_next ?_ (F.args_tuple_iterator_next_1 _)))
  show wpAny _ _ (field (.ref z) 0 >>= _) _ _ s
  refine wpAny_bind (wpAny_field gz dz (x := .ref t) rfl ?_)
  show wpAny _ _ (if (Value.ref t == Value.none) = true then _ else _) _ _ s
  rw [if_neg (show ¬ ((Value.ref t == Value.none) = true) from Bool.false_ne_true)]
  show wpAny _ _ (field (.ref z) 1 >>= _) _ _ s
  refine wpAny_bind (wpAny_field gz dz (x := .int i 0) rfl ?_)
  show wpAny _ _ (seqItems? (.ref t) >>= _) _ _ s
  refine wpAny_bind (wpAny_seqItems gt dt ?_)
  simp only [Int.toNat_natCast, hx]
  refine wpAny_bind (wpAny_rule (wpAny_bind (wpAny_setField gz dz (by simp) ?_)))
  show wpAny _ _ (newExc (.type "StopIteration") [] >>= _) _ _ _
  refine wpAny_bind ?_
  simp only [newExc, newTuple]
  refine wpAny_bind (wpAny_newObj_type ?_ (by size_fits))
  refine wpAny_bind (m := firstArgMember _ _) (wpAny_of_eq (a := Value.none) (by first | rfl | (simp only [firstArgMember]; rfl)) ?_)
  refine wpAny_newObj_type ?_ (by size_fits)
  simp only [raiseNew]
  refine wpAny_bind (wpAny_handled ?_)
  first | rw [show A.in1.handled = none from hh] | rw [hh]
  exact wpAny_bind (wpAny_pure (wpAny_throw (q _ _ (((Heap.SameBut.update ..).extBut.push _).push _) ⟨_, Heap.get?_push_size _ rfl, rfl⟩)))
end
theorem drawsT {prog : Program} {w : World} {A : Around} (hh : A.handled = none) (z t : Addr) (ne : t ≠ z) (vs : Array Value) :
    Draws prog w A z [z, t] vs.size (fun i v => vs[i]? = some v) (fun i h => h.IsTupleIter z t i ∧ h.IsTuple t vs) where
  live := fun _ _ ⟨⟨o, e, _⟩, _⟩ => ⟨o, e⟩
  frame := fun _ _ _ ⟨h1, ⟨o, e, r⟩⟩ k => ⟨h1.at fun o e => k z (by simp) o e, o, k t (by simp) o e, r⟩
  item := fun i s Q E lt ⟨h1, h2⟩ q => tupNext_item h1 h2 (x := vs[i]) (by simp [lt]) fun h' a b => q _ h' s.toks (by simp [lt]) ⟨a, h2.extBut b.extBut ne⟩ b
  done := fun s Q E ⟨h1, h2⟩ q => tupNext_end hh h1 h2 (by simp) q
theorem new_enumT (t : Addr) (vs : Array Value) (n : Nat) (dd : Option Addr) (sl : Array (Option Value)) :
    Meets (Builtin.«enumerate.__new__» ⟨[.type "enumerate", .ref t], []⟩) (fun _ R s => s.heap.get? t = some { cls := .type "tuple", dict := dd, data := .seq vs n, slots := sl } ∧
      R (.ok (.ret (.ref (s.heap.push { cls := .type "tuple_iterator", data := .fields #[.ref t, .int 0 0] }).objs.size)))
        { s with heap := (s.heap.push { cls := .type "tuple_iterator", data := .fields #[.ref t, .int 0 0] }).push { cls := .type "enumerate", data := .fields #[.none, .bool false, .ref s.heap.objs.size, rawInt 0, .none, .none] } }) :=
  .of_wp fun prog w A R s h => by
    obtain ⟨hp, gn, dr, tk, os⟩ := s
    obtain ⟨ht, h⟩ := h
    have sub := sub_enumerate
    have isT : Heap.IsTuple (Shared.heap ⟨hp, gn, dr, tk, os⟩) t vs := ⟨_, ht, rfl, n, rfl⟩
    wp_walk using wpAny_loadPart' ht
    refine wpAny_stack_any fun st => wpAny_pure ?_
    split
    · rename_i cc _ _ _ _ _
      cases (cc == Value.type "enumerate") <;> (wp_walk using wpAny_loadPart' ht, wpAny_pyIter_tuple isT; exact ⟨_, rfl, h⟩)
    · wp_walk using wpAny_loadPart' ht, wpAny_pyIter_tuple isT
      exact ⟨_, rfl, h⟩
theorem call_enumT {prog : Program} {w : World} {A : Around} {E : Value → Shared → Prop} {s : Shared} {t : Addr} {vs : Array Value} {Q : Value → Shared → Prop} (ht : s.heap.IsTuple t vs)
    (q : ∀ h', IsEnum h' (s.heap.objs.size + 1) s.heap.objs.size 0 .none → h'.IsTupleIter s.heap.objs.size t 0 → (∀ b o, s.heap.get? b = some o → h'.get? b = some o) → Q (.ref (s.heap.objs.size + 1)) { s with heap := h' }) :
    wpAny (model prog w) A (call (.type "enumerate") [.ref t]) Q E s := by
  obtain ⟨⟨cls, dd, data, sl⟩, gt, hc, n, hd⟩ := ht
  simp only at hc hd
  subst hc hd
  have sz : (s.heap.push { cls := .type "tuple_iterator", data := .fields #[.ref t, .int 0 0] }).objs.size = s.heap.objs.size + 1 := Heap.size_push ..
  refine callType_new F.called_enumerate (by decide) (F.typeCall_enumerate_1 _) (F.newCall_enumerate_1 _) (fun obj => F.args_object_init_2 obj _) F.entry_enumerate_new (new_enumT t vs n dd sl) ⟨gt, ?_⟩
  show _ ∧ _
  rw [sz]
  have he := Heap.get?_push_size (s.heap.push { cls := .type "tuple_iterator", data := .fields #[.ref t, .int 0 0] }) (o := { cls := .type "enumerate", data := .fields #[.none, .bool false, .ref s.heap.objs.size, rawInt 0, .none, .none] }) rfl
  rw [sz] at he
  exact ⟨⟨_, he, rfl⟩, q _ he ⟨_, Heap.get?_push_of_some _ (Heap.get?_push_size _ rfl), rfl, rfl⟩ fun b o e => Heap.get?_push_of_some _ (Heap.get?_push_of_some _ e)⟩
/-- the tuple at a, each item in a new pair with its place -/
def IteT (K : PySem.W.Frag) (a : Addr) : It :=
  ⟨fun i H => ∃ (xs : List V) (x : V), SqT K H a xs ∧ xs[i]? = some x, fun i H v H' => ∃ T x, v = .ref T ∧ H T = none ∧ H' = upd H T (.tup [.int (i : Nat), x]) ∧ ∀ xs, SqT K H a xs → xs[i]? = some x, fun i H => ∃ xs : List V, SqT K H a xs ∧ xs.length = i⟩
theorem turn_enumT {P : Program} {w : World} {K : PySem.W.Frag} {elts : List Expr} {kk : Nat} {tpos : Pos} (a e z : Addr) :
    Turn P w K (.Tuple elts kk tpos) (IteT K a) [e, z] e (fun i h => (∃ old, IsEnum h e z ((i : Nat) : Int) old) ∧ h.IsTupleIter z a i ∧ e ≠ z ∧ a ≠ z ∧ a ≠ e) where
  mem := by simp
  obj := fun i h st b hb => by
    obtain ⟨⟨old, he⟩, ⟨o, ho, _, hd⟩, _⟩ := st
    rcases (show b = e ∨ b = z by simpa using hb) with rfl | rfl
    · exact ⟨_, he, fun v q => nomatch q⟩
    · exact ⟨o, ho, fun v q => by rw [hd] at q; cases q⟩
  keep := fun i h h' ⟨⟨old, he⟩, hi, ne⟩ k => ⟨⟨old, k e (by simp) _ he⟩, hi.at fun o q => k z (by simp) o q, ne⟩
  item := by
    intro X hP hw hK hc i pins s σ H E I hf st hg
    subst hP hw hK
    obtain ⟨⟨old, he⟩, hz, ne, na, nae⟩ := st
    obtain ⟨xs, x, hq, hx⟩ := hg
    obtain ⟨its, rv, p, _⟩ := I.tuple hq
    obtain ⟨u, hu, ru⟩ := rv.get hx
    have el : e < s.heap.objs.size := Heap.lt_size he
    have zl : z < s.heap.objs.size := by obtain ⟨_, q, _⟩ := hz; exact Heap.lt_size q
    have ul : i < its.toArray.size := by have := (List.getElem?_eq_some_iff.mp hu).1; simpa using this
    refine wpAny_pyNext_enum_itemD (drawsT (prog := X.prog) (w := X.w) (A := X.A.in1) (I.ok.hd hc) z a na its.toArray) he ⟨hz, p⟩ ul ne (by simp; exact ⟨ne, fun q => nae q.symm⟩) fun v h1 tk hv eo hz1 hT hsz hk => ?_
    have ev : v = u := by
      have hv : its.toArray[i]? = some v := hv
      simp at hv
      have := hu.symm.trans hv
      cases this; rfl
    subst ev
    refine ⟨_, rfl, wpAny_letOwnedTupleGo_enum (s := { s with heap := h1, toks := tk + 1 }) eo fun h2 he2 sb => ?_⟩
    have hT2 : h2.get? s.heap.objs.size = some { cls := .type "tuple", data := .seq #[.int i tk, v] } := (sb.2 _ (Nat.ne_of_gt el)).trans hT
    have J := I.turnedNew (t' := tk + 1) (ch := [e, z]) (fun b ob nb q => (sb.2 b (fun q2 => nb (by simp [q2]))).trans (hk b ob (fun q2 => nb (by simp [q2])) (fun q2 => nb (by simp [q2])) q)) hf (Nat.le_refl _)
      (show ObjOk X.prog X.w (upd H s.heap.objs.size (.tup [.int (i : Nat), x])) h2 s.heap.objs.size (.tup [.int (i : Nat), x]) from ⟨by show 2 ≤ sizeLine; decide, [.int i tk, v], .cons ⟨_, rfl⟩ (.cons ru .nil), ⟨_, hT2, rfl, _, rfl⟩⟩)
    have ei : ((i + 1 : Nat) : Int) = (i : Int) + 1 := by omega
    refine ⟨.ref s.heap.objs.size, _, J, rfl, ⟨_, x, rfl, I.hok.fresh (Nat.le_refl _), rfl, fun ys hy => by rw [I.tuple_inj hy hq]; exact hx⟩, ⟨⟨v, by rw [ei]; exact he2⟩, hz1.1.at fun o q => (sb.2 z (Ne.symm ne)).trans q, ne, na, nae⟩, fun b hb => ?_⟩
    have bl : b < s.heap.objs.size := by
      rcases (show b = e ∨ b = z by simpa using hb) with rfl | rfl
      · exact el
      · exact zl
    rw [upd_ne (Nat.ne_of_lt bl)]
    exact (hf b hb).1
  done := by
    intro X hP hw hK hc i pins s σ H E I hf st hg
    subst hP hw hK
    obtain ⟨⟨old, he⟩, hz, ne, na, nae⟩ := st
    obtain ⟨xs, hq, hx⟩ := hg
    obtain ⟨its, rv, p, _⟩ := I.tuple hq
    obtain ⟨f0, f1, f2, f3, f4, f5⟩ := hf z (by simp)
    have hl : its.toArray.size = i := by rw [← hx, rv.length, List.size_toArray]
    subst hl
    exact wpAny_pyNext_enum_endD (drawsT (prog := X.prog) (w := X.w) (A := X.A.in1) (I.ok.hd hc) z a na its.toArray) he ⟨hz, p⟩ fun h' eb => ⟨rfl, I.turned (t' := s.toks) (fun b o hb e => eb b o hb e) f0 f1 f3 f4 f5⟩
  self := fun A i s Q E ⟨⟨_, he⟩, _⟩ h => wpAny_pyIter_enum he h
def iEnumT (K : PySem.W.Frag) (te : TE) : TI := fun σ H R => te σ H fun x H1 => ∃ a xs, [x] = [V.ref a] ∧ SqT K H1 a xs ∧ R (IteT K a) H1
theorem pi_enumT {X : Cx} {e : Expr} {te : TE} {p pos tpos : Pos} {elts : List Expr} {kk : Nat} (hg : Gl X "enumerate") (hm : X.mg "enumerate" = none) (he : PE X e te) (hs : starEach [e] X.env = [(false, eval e X.env)]) :
    PI X (.Tuple elts kk tpos) (.Call (.Name "enumerate" p) [e] [] pos) (iEnumT X.K te) := by
  refine ⟨fun pins s σ H R I h => Call_ (ld_blt I hg hm boot_enumerate (PyProof.Rows.callWith_type1 (thn ((pa_cons he pa_nil hs).run pos pins s σ H (fun vs H1 => ∃ a xs, vs = [V.ref a] ∧ SqT X.K H1 a xs ∧ R (IteT X.K a) H1) I ?_) fun us s1 ⟨vs, H1, I1, r1, a, xs, ev, hq, q⟩ => ?_) hs rfl))⟩
  · exact h
  · subst ev
    obtain ⟨u, rfl, ru⟩ := r1.one
    obtain rfl : u = Value.ref a := ru
    obtain ⟨its, rv, pt, _⟩ := I1.tuple hq
    have la : a < s1.heap.objs.size := pt.lt
    refine call_enumT (show s1.heap.IsTuple a its.toArray from pt) fun h' he hz hk => wpAny_pyIter_enum he ?_
    refine ⟨s1.heap.objs.size + 1, [s1.heap.objs.size + 1, s1.heap.objs.size], _, _, H1, rfl, I1.kept (t' := s1.toks) hk, turn_enumT a (s1.heap.objs.size + 1) s1.heap.objs.size, ⟨⟨.none, he⟩, hz, Nat.succ_ne_self _, Nat.ne_of_lt la, Nat.ne_of_lt (Nat.lt_succ_of_lt la)⟩, fun b hb => ?_, q⟩
    have le : s1.heap.objs.size ≤ b := by
      rcases (show b = s1.heap.objs.size + 1 ∨ b = s1.heap.objs.size by simpa using hb) with z | z
      · rw [z]; exact Nat.le_succ _
      · rw [z]; exact Nat.le_refl _
    exact I1.fpOk le (I1.hok.fresh le)
end Ax
/-! A15: comprehensions. -/
namespace Ax
open PySem PySem.Spec PyProof.Rows L2
section
variable {fnm : Nat → Str} {kwt : List (Nat × List Str × List Nat)} {call : Nat → List Arg → List M → R (List M) M} {K : PySem.W.Frag} {ad : Nat → Addr} {κ : List Addr} {X : Cx} {c : MC} {e l r tg : Expr} {a b k : Ex} {p q p' q' ap cp : Pos} {es : List Expr} {as bs : Xs}
variable {F H : Hp} {s : S} {σ : L2.St}
theorem unlocked_own {w w2 : Wd} {rv : Rv} {o : Own} {z : Addr} {v : M} (q : OwnAt κ ⟨w2.F, unlockS w.s w2.s rv, w2.σ, w2.H⟩ o z v) : ∃ v', OwnAt κ w2 o z v' := by
  cases rv with
  | m _ => exact ⟨v, q⟩
  | bor i =>
    have q : OwnAt κ ⟨w2.F, unlockO w.s w2.s i (ownerOf w.s i), w2.σ, w2.H⟩ o z v := q
    cases ho : ownerOf w.s i with
    | none => rw [ho] at q; exact ⟨v, q⟩
    | some o1 =>
      rw [ho] at q
      have q : OwnAt κ ⟨w2.F, (match w.s.at i, w2.s.get o1 with
        | some (.lst _), some (.lock ds) => w2.s.upO o1 (.lst ds)
        | _, _ => w2.s), w2.σ, w2.H⟩ o z v := q
      split at q
      · rename_i d0 ds h1 h2
        obtain ⟨g1, g2, g3⟩ := own_iff.mp q
        by_cases e : o = o1
        · subst e
          exact ⟨.lock ds, own_iff.mpr ⟨h2, rfl, g3⟩⟩
        · have g1 : (w2.s.upO o1 (.lst ds)).get o = some v := g1
          rw [upO_get_ne e] at g1
          exact ⟨v, own_iff.mpr ⟨g1, g2, g3⟩⟩
      · exact ⟨v, q⟩
def tIfs (call : Nat → List Arg → List M → R (List M) M) (K : PySem.W.Frag) (ad : Nat → Addr) (κ : List Addr) (ifs : Xo) : TT := fun σ H Q => Run K ad κ σ H (evIfs call ifs) fun b w w' => Q b w'.H
theorem tIfs.step {ifs : Xo} {w0 : Wd} {G : Bool → S → Prop} {Q : Bool → Hp → Prop} (R : Rel K ad κ ⟨F, s, σ, H⟩) (st : Stp κ noT w0 ⟨F, s, σ, H⟩) (g : Good G (evIfs call ifs s))
    (q : ∀ b s2 F2 H2, Rel K ad κ ⟨F2, s2, σ, H2⟩ → Stp κ noT ⟨F, s, σ, H⟩ ⟨F2, s2, σ, H2⟩ → Stp κ noT w0 ⟨F2, s2, σ, H2⟩ → G b s2 → Q b H2) : tIfs call K ad κ ifs σ H Q :=
  Run.step R st g q
theorem PTs.imp {ts : List Expr} {t t' : TT} (h : PTs X ts t) (q : ∀ σ H Q, t' σ H Q → t σ H Q) : PTs X ts t' := ⟨fun pins s σ H Q I z => h.run pins s σ H Q I (q σ H Q z)⟩
theorem snd_ifno : PTs X [] (tIfs call X.K ad κ .no) := PTs.imp pts_nil fun σ H Q ⟨F, s, R, g⟩ => by
  have g : Good _ (Ax.R.ok true s) := g
  exact g F H R Stp.refl
theorem snd_ifso (ha : PT X e (tT call X.K ad κ a)) : PTs X [e] (tIfs call X.K ad κ (.so a)) := PTs.imp (pts_one ha) fun σ H Q ⟨F, s, R, g⟩ => ⟨F, s, R, g⟩
/-- a turn's state: the new list lies at z, with acc -/
structure Lc (K : PySem.W.Frag) (ad : Nat → Addr) (κ : List Addr) (wb w : Wd) (z : Addr) (acc : List D) : Prop where
  rel : Rel K ad κ w
  st : Stp κ noT wb w
  nob : ∀ o v, ¬ OwnAt κ w o z v
  nf : w.F z = none
  at' : ∃ av, w.H z = some (.lst av) ∧ RepAll K w.F av acc
/-- from state to state -/
theorem Lc.step {wb w w' : Wd} {z : Addr} {acc : List D} (h : Lc K ad κ wb w z acc) (R : Rel K ad κ w') (st : Stp κ noT w w') : Lc K ad κ wb w' z acc := by
  obtain ⟨av, h1, h2⟩ := h.at'
  obtain ⟨k1, k2, k3⟩ := st.keepD h.nob h.nf h1 (fun xs e => by cases e)
  exact ⟨R, h.st.tr st, k1, k2, av, k3, h2.mono st.ff⟩
/-- an item more -/
theorem Lc.more {wb w : Wd} {z : Addr} {acc : List D} {v : V} {d : D} (h : Lc K ad κ wb w z acc) (hb : wb.H z = none) (hv : RepD K w.F v d) (hl : acc.length < line) : ∃ av, w.H z = some (.lst av) ∧ av.length < sizeLine ∧
    Lc K ad κ wb { w with H := upd w.H z (.lst (av ++ [v])) } z (acc ++ [d]) := by
  obtain ⟨av, h1, h2⟩ := h.at'
  exact ⟨av, h1, by rw [h2.length, line_eq]; exact hl, ⟨h.rel.draw h.nob h.nf h1, h.st.draw hb, h.nob, h.nf, av ++ [v], upd_same, h2.append (.one hv)⟩⟩
theorem Lc.wipe {wb w : Wd} {z : Addr} {acc : List D} {own : List Nat} (h : Lc K ad κ wb w z acc) : Lc K ad κ wb ⟨w.F, wipeS w.s own, L2.wipe w.σ own, w.H⟩ z acc :=
  h.step (h.rel.wiped own).1 (h.rel.wiped own).2
/-- what the iterator yields, in a state -/
theorem Lc.yield {wb w : Wd} {z : Addr} {acc ds : List D} {J : It} {i : Nat} {d : D} (h : Lc K ad κ wb w z acc) {H0 : Hp} {wl wh : Wd} (wk : Walk K ad κ H0 wl J ds) (hh : Hid κ H0 wl wh) (sl : Stp κ noT wh wb) (hd : ds[i]? = some d) : J.go i w.H ∧ ∀ x H', J.yld i w.H x H' → ∃ F', Lc K ad κ wb ⟨F', w.s, w.σ, H'⟩ z acc ∧ RepD K F' x d := by
  obtain ⟨h1, h2⟩ := (wk wh hh w h.rel (sl.tr h.st)).1 i d hd
  refine ⟨h1, fun x H' y => ?_⟩
  rcases h2 x H' y with ⟨e, rp⟩ | ⟨b, u, hb, e, rp⟩
  · subst e; exact ⟨w.F, h, rp⟩
  · subst e
    obtain ⟨R1, st1, _⟩ := h.rel.newF (u := u) hb
    exact ⟨upd w.F b u, h.step R1 st1, rp⟩
theorem wipe_idem {own : List Nat} : L2.wipe (L2.wipe σ own) own = L2.wipe σ own := (agree_wipe (σ := σ) (own := own)).wipe.symm
/-- one turn -/
theorem turn_ok {own : List Nat} {t : T} {ifs : Xo} {x : Ex} {wb : Wd} {z : Addr} {acc : List D} {d : D} {v : V} {Pn : List D → S → Prop} {Nx : Hp → Prop} (hb : wb.H z = none) (ht : tIn own t = true) (h : Lc K ad κ wb ⟨F, s, L2.wipe σ own, H⟩ z acc) (rp : RepD K F v d)
    (g : Good Pn (turnLc t (evIfs call ifs) (evE call x) d s acc)) (q : ∀ acc' F' s' H', Lc K ad κ wb ⟨F', wipeS s' own, L2.wipe σ own, H'⟩ z acc' → Pn acc' s' → Nx H') :
    tTg K ad κ t v (L2.wipe σ own) H fun σ2 H2 => L2.wipe σ2 own = L2.wipe σ own ∧ tIfs call K ad κ ifs σ2 H2 fun bb H3 => if bb = true then tE call K ad κ x σ2 H3 fun y H4 => ∃ av, H4 z = some (.lst av) ∧ av.length < sizeLine ∧ Nx (upd H4 z (.lst (av ++ [y]))) else Nx H3 := by
  unfold turnLc at g
  split at g
  · rename_i s3 hs3
    refine ⟨F, s, d, s3, h.rel, rp, hs3, fun σ2 R2 st2 ag => ?_⟩
    have ew : L2.wipe σ2 own = L2.wipe σ own := by rw [← (ag own ht).wipe, wipe_idem]
    refine ⟨ew, ?_⟩
    have h2 := h.step R2 st2
    refine tIfs.step R2 Stp.refl (good_bind.mp g) fun bb s4 F4 H4 R4 st4 _ g4 => ?_
    have h4 := h2.step R4 st4
    cases bb with
    | false =>
      have g4 : Pn acc s4 := g4
      have h5 := h4.wipe (own := own)
      rw [show (⟨F4, s4, σ2, H4⟩ : Wd).σ = σ2 from rfl, ew] at h5
      exact q acc F4 s4 H4 h5 g4
    | true =>
      have g4 : Good _ ((evE call x s4).bind fun y s5 => keep1 y acc s5) := g4
      rw [if_pos rfl]
      refine tE.step R4 Stp.refl (good_bind.mp g4) fun y s5 F5 H5 R5 st5 _ g5 v5 ok5 fr5 => ?_
      have h5 := h4.step R5 st5
      unfold keep1 at g5
      split at g5
      · rename_i d5 s6 hf
        split at g5
        · rename_i hl
          obtain ⟨F6, R6, st6, _, rp6⟩ := Rel.freeze0 (w0 := ⟨F4, s4, σ2, H4⟩) (w := ⟨F5, s5, σ2, H5⟩) R5 st5 ok5 fr5 hf
          have h6 := h4.step R6 st6
          obtain ⟨av, e1, e2, h7⟩ := h6.more hb rp6 hl
          have h8 := h7.wipe (own := own)
          refine ⟨av, e1, e2, q (acc ++ [d5]) F6 s6 _ ?_ g5⟩
          have h8 : Lc K ad κ wb ⟨F6, wipeS s6 own, L2.wipe σ2 own, upd H5 z (.lst (av ++ [v5]))⟩ z (acc ++ [d5]) := h8
          rw [ew] at h8
          exact h8
        · exact g5.elim
      · exact g5.elim
  · exact g.elim
/-- the whole of a comprehension's list, at the end -/
theorem lc_end {own : List Nat} {F0 H0 F1 H1 : Hp} {s0 s1 : S} {rv : Rv} {z : Addr} {acc : List D} {Q : VK} (R1 : Rel K ad κ ⟨F1, s1, σ, H1⟩) (st1 : Stp κ noT ⟨F0, s0, σ, H0⟩ ⟨F1, s1, σ, H1⟩) (hz : H1 z = none)
    (h : Lc K ad κ ⟨F1, wipeS (lockS s1 rv) own, L2.wipe σ own, H1⟩ ⟨F, s, L2.wipe σ own, H⟩ z acc) (p : Post K ad κ ⟨F0, s0, σ, H0⟩ Q (.m (.lst acc)) (unlockS s1 (unwipe (lockS s1 rv) s own) rv)) : Q (.ref z) H := by
  obtain ⟨Rl, stl⟩ := Rel.locked R1 rv
  obtain ⟨Ru, stu, wu⟩ := Rel.unwiped (w := ⟨F1, lockS s1 rv, σ, H1⟩) (own := own) Rl h.rel h.st
  obtain ⟨Rf, stf⟩ := Rel.unlocked R1 Ru rv stu
  obtain ⟨av, e1, e2⟩ := h.at'
  refine p F H Rf (st1.tr stf) (.ref z) ⟨⟨z, av, rfl, e1, h.nf, e2⟩, fun b t o v q => ?_⟩ fun b t => ?_
  · cases t.2
    obtain ⟨v', q'⟩ := unlocked_own (w := ⟨F1, s1, σ, H1⟩) (w2 := ⟨F, unwipe (lockS s1 rv) s own, σ, H⟩) q
    rcases wu _ _ _ q' with q2 | q2
    · obtain ⟨b, vs, e3, e4, _⟩ := (OwnAt.rel Rl q2).own_at (own_iff.mp q2).2.1
      cases e3
      have e4 : H1 z = some _ := e4
      rw [hz] at e4; cases e4
    · exact h.nob _ _ q2
  · cases t.2
    exact st1.dm z hz
theorem rd_lc {own : List Nat} {t : T} {it : I} {ifs : Xo} {x : Ex} {H : Hp} {Q : VK} (ht : tIn own t = true) (h : tE call K ad κ (.lc own t it ifs x) σ H Q) : tLc (tI call K ad κ it) (tTg K ad κ t) (tIfs call K ad κ ifs) (tE call K ad κ x) own σ H Q := by
  obtain ⟨F0, s0, R0, gd⟩ := h
  have gd : Good _ ((evI call it s0).bind fun p s1 => runLc own p.1 (turnLc t (evIfs call ifs) (evE call x)) p.2 s1) := gd
  refine tI.step R0 Stp.refl (good_bind.mp gd) fun pr s1 F1 H1 R1 _ st1 g1 J wk z hz => ?_
  obtain ⟨rv, ds⟩ := pr
  obtain ⟨Rl, stl⟩ := Rel.locked R1 rv
  obtain ⟨Rw, stw⟩ := Rel.wiped (w := ⟨F1, lockS s1 rv, σ, H1⟩) Rl own
  have g1 : Good (fun acc s3 => Post K ad κ ⟨F0, s0, σ, H⟩ Q (.m (.lst acc)) (unlockS s1 (unwipe (lockS s1 rv) s3 own) rv)) (lcGo own (turnLc t (evIfs call ifs) (evE call x)) ds (wipeS (lockS s1 rv) own) []) := by
    unfold runLc at g1
    cases e : lcGo own (turnLc t (evIfs call ifs) (evE call x)) ds (wipeS (lockS s1 rv) own) [] with
    | ok acc s3 =>
      have g1 : Good _ (match lcEnd own (lockS s1 rv) (lcGo own (turnLc t (evIfs call ifs) (evE call x)) ds (wipeS (lockS s1 rv) own) []) with
        | .ok v s3 => Ax.R.ok v (unlockS s1 s3 rv)
        | .exc c d s3 => .exc c d s3
        | .bad => .bad) := g1
      rw [e] at g1
      exact g1
    | exc c d s3 =>
      have g1 : Good _ (match lcEnd own (lockS s1 rv) (lcGo own (turnLc t (evIfs call ifs) (evE call x)) ds (wipeS (lockS s1 rv) own) []) with
        | .ok v s3 => Ax.R.ok v (unlockS s1 s3 rv)
        | .exc c d s3 => .exc c d s3
        | .bad => .bad) := g1
      rw [e] at g1
      exact g1.elim
    | bad =>
      have g1 : Good _ (match lcEnd own (lockS s1 rv) (lcGo own (turnLc t (evIfs call ifs) (evE call x)) ds (wipeS (lockS s1 rv) own) []) with
        | .ok v s3 => Ax.R.ok v (unlockS s1 s3 rv)
        | .exc c d s3 => .exc c d s3
        | .bad => .bad) := g1
      rw [e] at g1
      exact g1.elim
  refine ⟨fun i m Hh => m = ds.length - i ∧ i ≤ ds.length ∧ ∃ F s acc, Lc K ad κ ⟨F1, wipeS (lockS s1 rv) own, L2.wipe σ own, H1⟩ ⟨F, s, L2.wipe σ own, Hh⟩ z acc ∧
    Good (fun acc s3 => Post K ad κ ⟨F0, s0, σ, H⟩ Q (.m (.lst acc)) (unlockS s1 (unwipe (lockS s1 rv) s3 own) rv)) (lcGo own (turnLc t (evIfs call ifs) (evE call x)) (ds.drop i) s acc), ⟨ds.length, by simp, Nat.zero_le _, F1, wipeS (lockS s1 rv) own, [], ?_, by rw [List.drop_zero]; exact g1⟩, ?_⟩
  · exact ⟨Rel.new (w := ⟨F1, wipeS (lockS s1 rv) own, L2.wipe σ own, H1⟩) Rw hz, Stp.new hz, fun o v q => Rel.noOwn (w := ⟨F1, wipeS (lockS s1 rv) own, L2.wipe σ own, H1⟩) Rw hz o v (by cases o <;> exact q), R1.nof hz, [], upd_same, .nil⟩
  · rintro i m H2 ⟨rfl, hi, F, s, acc, hL, g⟩
    by_cases hlt : i < ds.length
    · have hd : ds[i]? = some ds[i] := List.getElem?_eq_getElem hlt
      have ed : ds.drop i = ds[i] :: ds.drop (i + 1) := List.drop_eq_getElem_cons hlt
      rw [ed] at g
      have g : Good _ ((turnLc t (evIfs call ifs) (evE call x) ds[i] s acc).bind fun acc s1 => lcGo own (turnLc t (evIfs call ifs) (evE call x)) (ds.drop (i + 1)) (wipeS s1 own) acc) := g
      obtain ⟨go, yl⟩ := hL.yield wk Hid.refl stw hd
      refine .inr ⟨go, fun H' => ds.length - (i + 1) = ds.length - (i + 1) ∧ i + 1 ≤ ds.length ∧ ∃ F s acc, Lc K ad κ ⟨F1, wipeS (lockS s1 rv) own, L2.wipe σ own, H1⟩ ⟨F, s, L2.wipe σ own, H'⟩ z acc ∧
        Good (fun acc s3 => Post K ad κ ⟨F0, s0, σ, H⟩ Q (.m (.lst acc)) (unlockS s1 (unwipe (lockS s1 rv) s3 own) rv)) (lcGo own (turnLc t (evIfs call ifs) (evE call x)) (ds.drop (i + 1)) s acc), fun H' hN => ⟨ds.length - (i + 1), by omega, hN⟩, fun v H' y => ?_⟩
      obtain ⟨F', hL', rp⟩ := yl v H' y
      exact turn_ok hz ht hL' rp (good_bind.mp g) fun acc' F' s' H' hL'' gn => ⟨rfl, hlt, F', wipeS s' own, acc', hL'', gn⟩
    · have e : i = ds.length := by omega
      subst e
      rw [List.drop_length] at g
      have g : Post K ad κ ⟨F0, s0, σ, H⟩ Q (.m (.lst acc)) (unlockS s1 (unwipe (lockS s1 rv) s own) rv) := g
      refine .inl ⟨(wk _ Hid.refl ⟨F, s, L2.wipe σ own, H2⟩ hL.rel (stw.tr hL.st)).2, lc_end R1 st1 hz hL g⟩

theorem GX.blk (g : GX fnm kwt call ad X c) (s : Shared) (H : Hp) (scope : Scope) (cl : List (Str × Addr)) (C : Addr) (fp : List Addr) : GX fnm kwt call ad (X.blk s H scope (compEnvC scope cl C X.env) fp) (blk c scope) where
  N := g.N
  sc := by show relS scope X.env.scope = relS scope c.sc; rw [g.sc]
  fn := fun x h => h
  nd := g.nd
  calm := g.calm
  gd := g.gd
  un := g.un
  blt := g.blt
  fv := g.fv
  fns := fun f as u h => ⟨(g.fns f as u h).ex⟩
theorem ownOf_snd {N : List Str} {own : List Nat} : (ownOf N own).map (·.2) = own := by
  unfold ownOf
  rw [List.map_map]
  exact List.map_id' _
theorem blk_ok (g : GX fnm kwt call ad X c) {scope : Scope} {own : List Nat} (h : L2.blkC c.N c.sc scope (ownOf c.N own) = true) : BlkOk X.N X.env.scope scope (ownOf c.N own) := by
  rw [g.N, g.sc]
  exact blkOk_by h
theorem fold_no {env : Env} (h : notSet e = true) (x : Value) : foldedSetIterable e env x = pure x := by cases e <;> first | rfl | cases h
theorem okI_notSet {it : I} (h : okI fnm kwt c it tg e = true) : notSet e = true := by
  cases it with
  | seq a => exact (ok_iseq h).2
  | rng g => obtain ⟨_, _, _, rfl, _⟩ := ok_irng h; rfl
  | zip a b => obtain ⟨_, _, _, _, _, _, _, _, _, rfl, _⟩ := ok_izip h; rfl
  | enm a => obtain ⟨_, _, _, _, _, _, _, _, rfl, _⟩ := ok_ienm h; rfl
/-- the parts of a comprehension, in any block -/
structure LcOk (fnm : Nat → Str) (kwt : List (Nat × List Str × List Nat)) (call : Nat → List Arg → List M → R (List M) M) (ad : Nat → Addr) (κ : List Addr) (X : Cx) (scope : Scope) (t : T) (it : I) (ifs : Xo) (tg iter : Expr) (ts : List Expr) : Prop where
  tgt : ∀ (s : Shared) (H : Hp) (C : Addr) (cl : List (Str × Addr)) (fp : List Addr), PG (X.blk s H scope (compEnvC scope cl C X.env) fp) tg (tTg X.K ad κ t)
  tst : ∀ (s : Shared) (H : Hp) (C : Addr) (cl : List (Str × Addr)) (fp : List Addr), PTs (X.blk s H scope (compEnvC scope cl C X.env) fp) ts (tIfs call X.K ad κ ifs)
theorem snd_lc (g : GX fnm kwt call ad X c) {own : List Nat} {t : T} {it : I} {ifs : Xo} {x : Ex} {elt iter : Expr} {ts : List Expr} {scope : Scope} (hb : L2.blkC c.N c.sc scope (ownOf c.N own) = true) (ht : tIn own t = true) (hi : PI X tg iter (tI call X.K ad κ it)) (hn : notSet iter = true)
    (hl : LcOk fnm kwt call ad κ X scope t it ifs tg iter ts) (he : ∀ (s : Shared) (H : Hp) (C : Addr) (cl : List (Str × Addr)) (fp : List Addr), PE (X.blk s H scope (compEnvC scope cl C X.env) fp) elt (tE call X.K ad κ x)) :
    PE X (.ListComp elt [⟨tg, iter, ts, 0⟩] scope p) (tE call X.K ad κ (.lc own t it ifs x)) := by
  refine PE.imp (pe_lc g.calm g.nd hi (blk_ok g hb) hl.tgt hl.tst he (fold_no hn)) fun σ H Q h => ?_
  rw [ownOf_snd]
  exact rd_lc ht h

/-! ### two clauses -/
def hide (H : Hp) (z : Addr) : Hp := fun b => if b = z then none else H b
theorem hide_at {z : Addr} : hide H z z = none := if_pos rfl
theorem hide_ne {b z : Addr} (n : b ≠ z) : hide H z b = H b := if_neg n
theorem hide_back {z : Addr} {u : HO} (h : H z = some u) : upd (hide H z) z u = H := by
  funext b
  by_cases e : b = z
  · subst e; rw [upd_same, h]
  · rw [upd_ne e, hide_ne e]
theorem Rel.hide {w : Wd} {z : Addr} (R : Rel K ad κ w) (no : ∀ o v, ¬ OwnAt κ w o z v) (hF : w.F z = none) : Rel K ad κ { w with H := Ax.hide w.H z } := by
  have st : ∀ {x : V} {v : M}, (v.own = true → ∀ b, x = .ref b → b ≠ z) → RelM K ad w.F w.H x v → RelM K ad w.F (Ax.hide w.H z) x v := fun ho hm => hm.stay (Le.refl _) fun vo b vs e hb fb => ⟨by rw [hide_ne (ho vo b e)]; exact hb, fb⟩
  refine ⟨fun b v e => ?_, R.len, R.ul, fun i v h => ?_, R.rf, fun j v b h1 h2 => ?_, R.ap⟩
  · have n : b ≠ z := fun q => by subst q; rw [hF] at e; cases e
    show Ax.hide w.H z b = _
    rw [hide_ne n]; exact R.fh b v e
  · obtain ⟨x, hx, hm⟩ := R.sl i v h
    exact ⟨x, hx, st (fun vo b e q => by subst e q; exact no (.inl i) v ⟨h, vo, hx⟩) hm⟩
  · exact st (fun vo b' e q => by cases e; subst q; exact no (.inr j) v ⟨h1, vo, h2⟩) (R.uo j v b h1 h2)
theorem Stp.hide {w0 w : Wd} {z : Addr} (st : Stp κ noT w0 w) (h0 : w0.H z = none) : Stp κ noT w0 { w with H := Ax.hide w.H z } where
  ff := st.ff
  dm := fun b e => by
    by_cases n : b = z
    · subst n; exact h0
    · have e : Ax.hide w.H z b = none := e
      rw [hide_ne n] at e
      exact st.dm b e
  hk := fun b v e nm => by
    have n : b ≠ z := ne_of_none e h0
    show Ax.hide w.H z b = _
    rw [hide_ne n]; exact st.hk b v e nm
  fn := st.fn
  ow := st.ow
theorem wipe_sub {own own1 : List Nat} (h : ∀ i ∈ own1, i ∈ own) : L2.wipe (L2.wipe σ own1) own = L2.wipe σ own := by
  have ag : Agree own σ (L2.wipe σ own1) := ⟨(wipe_length σ own1).symm, fun i n => (wipe_out fun m => n (h i m)).symm⟩
  exact ag.wipe.symm
/-- the inner loop, from where the second source has come -/
theorem inner_ok {own own1 : List Nat} {t1 : T} {it1 : I} {ifs1 : Xo} {x : Ex} {wb : Wd} {z : Addr} {acc : List D} {σ2 : L2.St} {F4 H4 : Hp} {s4 : S} {Pn : List D → S → Prop} {Nx : Hp → Prop} (hz : wb.H z = none) (hs : ∀ i ∈ own1, i ∈ own) (ht : tIn own1 t1 = true)
    (h4 : Lc K ad κ wb ⟨F4, s4, σ2, H4⟩ z acc) (ew : L2.wipe σ2 own = L2.wipe σ own)
    (g : Good Pn ((evI call it1 s4).bind fun p1 s5 => runLc1 own1 p1.1 (turnLc t1 (evIfs call ifs1) (evE call x)) p1.2 acc s5))
    (q : ∀ acc' F' s' H', Lc K ad κ wb ⟨F', wipeS s' own, L2.wipe σ own, H'⟩ z acc' → Pn acc' s' → Nx H') :
    tI call K ad κ it1 σ2 H4 fun J1 H4 => ∃ W1 : Nat → Nat → Hp → Prop, (∃ m, W1 0 m H4) ∧ ∀ j k H, W1 j k H →
      (J1.stop j H ∧ Nx H) ∨ (J1.go j H ∧ ∃ Nx1 : Hp → Prop, (∀ H', Nx1 H' → ∃ k', k' < k ∧ W1 (j + 1) k' H') ∧ ∀ v H', J1.yld j H v H' → tTg K ad κ t1 v (L2.wipe σ2 own1) H' fun σ3 H5 => L2.wipe σ3 own1 = L2.wipe σ2 own1 ∧ tIfs call K ad κ ifs1 σ3 H5 fun b H6 =>
        if b = true then tE call K ad κ x σ3 H6 fun y H7 => ∃ acc, H7 z = some (.lst acc) ∧ acc.length < sizeLine ∧ Nx1 (upd H7 z (.lst (acc ++ [y]))) else Nx1 H6) := by
  refine tI.step h4.rel Stp.refl (good_bind.mp g) fun pr s5 F5 H5 R5 st5 _ g5 J1 wk => ?_
  obtain ⟨rv, ds⟩ := pr
  have h5 := h4.step R5 st5
  obtain ⟨av0, ha0, hr0⟩ := h5.at'
  have Rh : Rel K ad κ ⟨F5, s5, σ2, hide H5 z⟩ := Rel.hide (w := ⟨F5, s5, σ2, H5⟩) R5 h5.nob h5.nf
  obtain ⟨Rl, stl⟩ := Rel.locked Rh rv
  obtain ⟨Rw, stw⟩ := Rel.wiped (w := ⟨F5, lockS s5 rv, σ2, hide H5 z⟩) Rl own1
  have hl5 := h5.step (Rel.locked R5 rv).1 (Rel.locked R5 rv).2
  have hid : Hid κ H4 ⟨F5, lockS s5 rv, σ2, H5⟩ ⟨F5, lockS s5 rv, σ2, hide H5 z⟩ := ⟨rfl, rfl, rfl, fun b u hb ho => by
    have n : b ≠ z := fun e => by
      subst e
      rcases ho with ho | ⟨o, v, ho⟩
      · obtain ⟨av, h1, _⟩ := h4.at'
        have h1 : H4 b = _ := h1
        rw [ho] at h1; cases h1
      · exact hl5.nob o v ho
    show hide H5 z b = _
    rw [hide_ne n]; exact hb⟩
  have g5 : Good (fun acc' s7 => Pn acc' (unlockS s5 s7 rv)) (lcGo own1 (turnLc t1 (evIfs call ifs1) (evE call x)) ds (wipeS (lockS s5 rv) own1) acc) := by
    have g5 : Good Pn (match lcGo own1 (turnLc t1 (evIfs call ifs1) (evE call x)) ds (wipeS (lockS s5 rv) own1) acc with
      | .ok acc1 s7 => Ax.R.ok acc1 (unlockS s5 s7 rv)
      | .exc c d s7 => .exc c d s7
      | .bad => .bad) := g5
    cases e : lcGo own1 (turnLc t1 (evIfs call ifs1) (evE call x)) ds (wipeS (lockS s5 rv) own1) acc with
    | ok acc1 s7 => rw [e] at g5; exact g5
    | exc c d s7 => rw [e] at g5; exact g5.elim
    | bad => rw [e] at g5; exact g5.elim
  refine ⟨fun j k Hh => k = ds.length - j ∧ j ≤ ds.length ∧ ∃ F s acc, Lc K ad κ ⟨F5, wipeS (lockS s5 rv) own1, L2.wipe σ2 own1, hide H5 z⟩ ⟨F, s, L2.wipe σ2 own1, Hh⟩ z acc ∧
    Good (fun acc' s7 => Pn acc' (unlockS s5 s7 rv)) (lcGo own1 (turnLc t1 (evIfs call ifs1) (evE call x)) (ds.drop j) s acc), ⟨ds.length, by simp, Nat.zero_le _, F5, wipeS (lockS s5 rv) own1, acc, ?_, by rw [List.drop_zero]; exact g5⟩, ?_⟩
  · have R6 := Rel.new (w := ⟨F5, wipeS (lockS s5 rv) own1, L2.wipe σ2 own1, hide H5 z⟩) (u := .lst av0) Rw hide_at
    have st6 : Stp κ noT _ _ := Stp.new (κ := κ) (w := ⟨F5, wipeS (lockS s5 rv) own1, L2.wipe σ2 own1, hide H5 z⟩) (u := .lst av0) hide_at
    have R6 : Rel K ad κ ⟨F5, wipeS (lockS s5 rv) own1, L2.wipe σ2 own1, upd (hide H5 z) z (.lst av0)⟩ := R6
    have st6 : Stp κ noT ⟨F5, wipeS (lockS s5 rv) own1, L2.wipe σ2 own1, hide H5 z⟩ ⟨F5, wipeS (lockS s5 rv) own1, L2.wipe σ2 own1, upd (hide H5 z) z (.lst av0)⟩ := st6
    rw [hide_back ha0] at R6 st6
    exact ⟨R6, st6, fun o v qq => Rel.noOwn (w := ⟨F5, wipeS (lockS s5 rv) own1, L2.wipe σ2 own1, hide H5 z⟩) Rw hide_at o v (by cases o <;> exact qq), h5.nf, av0, ha0, hr0⟩
  · rintro j kk H2 ⟨rfl, hi, F, s, acc, hL, g⟩
    by_cases hlt : j < ds.length
    · have hd : ds[j]? = some ds[j] := List.getElem?_eq_getElem hlt
      have ed : ds.drop j = ds[j] :: ds.drop (j + 1) := List.drop_eq_getElem_cons hlt
      rw [ed] at g
      have g : Good _ ((turnLc t1 (evIfs call ifs1) (evE call x) ds[j] s acc).bind fun acc s1 => lcGo own1 (turnLc t1 (evIfs call ifs1) (evE call x)) (ds.drop (j + 1)) (wipeS s1 own1) acc) := g
      obtain ⟨go, yl⟩ := hL.yield wk hid stw hd
      refine .inr ⟨go, fun H' => ds.length - (j + 1) = ds.length - (j + 1) ∧ j + 1 ≤ ds.length ∧ ∃ F s acc, Lc K ad κ ⟨F5, wipeS (lockS s5 rv) own1, L2.wipe σ2 own1, hide H5 z⟩ ⟨F, s, L2.wipe σ2 own1, H'⟩ z acc ∧
        Good (fun acc' s7 => Pn acc' (unlockS s5 s7 rv)) (lcGo own1 (turnLc t1 (evIfs call ifs1) (evE call x)) (ds.drop (j + 1)) s acc), fun H' hN => ⟨ds.length - (j + 1), by omega, hN⟩, fun v H' y => ?_⟩
      obtain ⟨F', hL', rp⟩ := yl v H' y
      exact turn_ok (own := own1) hide_at ht hL' rp (good_bind.mp g) fun acc' F' s' H' hL'' gn => ⟨rfl, hlt, F', wipeS s' own1, acc', hL'', gn⟩
    · have e : j = ds.length := by omega
      subst e
      rw [List.drop_length] at g
      have g : Pn acc (unlockS s5 s rv) := g
      obtain ⟨Ru, stu⟩ := Rel.unlocked (w := ⟨F5, s5, σ2, hide H5 z⟩) (w2 := ⟨F, s, L2.wipe σ2 own1, H2⟩) Rh hL.rel rv (stw.tr hL.st)
      have sth : Stp κ noT wb ⟨F5, s5, σ2, hide H5 z⟩ := Stp.hide (w := ⟨F5, s5, σ2, H5⟩) h5.st hz
      have hf : Lc K ad κ wb ⟨F, unlockS s5 s rv, L2.wipe σ2 own1, H2⟩ z acc := ⟨Ru, sth.tr stu, fun o v qq => by
        obtain ⟨v', q'⟩ := unlocked_own (w := ⟨F5, s5, σ2, hide H5 z⟩) (w2 := ⟨F, s, L2.wipe σ2 own1, H2⟩) qq
        exact hL.nob _ _ q', hL.nf, hL.at'⟩
      have hw := hf.wipe (own := own)
      have hw : Lc K ad κ wb ⟨F, wipeS (unlockS s5 s rv) own, L2.wipe (L2.wipe σ2 own1) own, H2⟩ z acc := hw
      rw [wipe_sub hs, ew] at hw
      exact .inl ⟨(wk _ hid ⟨F, s, L2.wipe σ2 own1, H2⟩ hL.rel (stw.tr hL.st)).2, q acc F _ H2 hw g⟩
theorem rd_lc2 {own own1 : List Nat} {t t1 : T} {it it1 : I} {ifs ifs1 : Xo} {x : Ex} {H : Hp} {Q : VK} (hs : ∀ i ∈ own1, i ∈ own) (ht : tIn own t = true) (ht1 : tIn own1 t1 = true) (h : tE call K ad κ (.lc2 own own1 t it ifs t1 it1 ifs1 x) σ H Q) :
    tLc2 (tI call K ad κ it) (tTg K ad κ t) (tIfs call K ad κ ifs) (tI call K ad κ it1) (tTg K ad κ t1) (tIfs call K ad κ ifs1) (tE call K ad κ x) own own1 σ H Q := by
  obtain ⟨F0, s0, R0, gd⟩ := h
  have gd : Good _ ((evI call it s0).bind fun p s1 => runLc own p.1 (fun d s acc => match bindT t d s with
      | some s3 => (evIfs call ifs s3).bind fun b s4 => if b = true then
          (evI call it1 s4).bind fun p1 s5 => runLc1 own1 p1.1 (turnLc t1 (evIfs call ifs1) (evE call x)) p1.2 acc s5 else .ok acc s4
      | none => .bad) p.2 s1) := gd
  generalize hturn : (fun (d : D) (s : S) (acc : List D) => (match bindT t d s with
      | some s3 => (evIfs call ifs s3).bind fun b s4 => if b = true then
          (evI call it1 s4).bind fun p1 s5 => runLc1 own1 p1.1 (turnLc t1 (evIfs call ifs1) (evE call x)) p1.2 acc s5 else .ok acc s4
      | none => Ax.R.bad)) = turn at gd
  refine tI.step R0 Stp.refl (good_bind.mp gd) fun pr s1 F1 H1 R1 _ st1 g1 J wk z hz => ?_
  obtain ⟨rv, ds⟩ := pr
  obtain ⟨Rl, stl⟩ := Rel.locked R1 rv
  obtain ⟨Rw, stw⟩ := Rel.wiped (w := ⟨F1, lockS s1 rv, σ, H1⟩) Rl own
  have g1 : Good (fun acc s3 => Post K ad κ ⟨F0, s0, σ, H⟩ Q (.m (.lst acc)) (unlockS s1 (unwipe (lockS s1 rv) s3 own) rv)) (lcGo own turn ds (wipeS (lockS s1 rv) own) []) := by
    have g1 : Good _ (match lcEnd own (lockS s1 rv) (lcGo own turn ds (wipeS (lockS s1 rv) own) []) with
        | .ok v s3 => Ax.R.ok v (unlockS s1 s3 rv)
        | .exc c d s3 => .exc c d s3
        | .bad => .bad) := g1
    cases e : lcGo own turn ds (wipeS (lockS s1 rv) own) [] with
    | ok acc s3 => rw [e] at g1; exact g1
    | exc c d s3 => rw [e] at g1; exact g1.elim
    | bad => rw [e] at g1; exact g1.elim
  refine ⟨fun i m Hh => m = ds.length - i ∧ i ≤ ds.length ∧ ∃ F s acc, Lc K ad κ ⟨F1, wipeS (lockS s1 rv) own, L2.wipe σ own, H1⟩ ⟨F, s, L2.wipe σ own, Hh⟩ z acc ∧
    Good (fun acc s3 => Post K ad κ ⟨F0, s0, σ, H⟩ Q (.m (.lst acc)) (unlockS s1 (unwipe (lockS s1 rv) s3 own) rv)) (lcGo own turn (ds.drop i) s acc), ⟨ds.length, by simp, Nat.zero_le _, F1, wipeS (lockS s1 rv) own, [], ?_, by rw [List.drop_zero]; exact g1⟩, ?_⟩
  · exact ⟨Rel.new (w := ⟨F1, wipeS (lockS s1 rv) own, L2.wipe σ own, H1⟩) Rw hz, Stp.new hz, fun o v q => Rel.noOwn (w := ⟨F1, wipeS (lockS s1 rv) own, L2.wipe σ own, H1⟩) Rw hz o v (by cases o <;> exact q), R1.nof hz, [], upd_same, .nil⟩
  · rintro i m H2 ⟨rfl, hi, F, s, acc, hL, g⟩
    by_cases hlt : i < ds.length
    · have hd : ds[i]? = some ds[i] := List.getElem?_eq_getElem hlt
      have ed : ds.drop i = ds[i] :: ds.drop (i + 1) := List.drop_eq_getElem_cons hlt
      rw [ed] at g
      have g : Good _ ((turn ds[i] s acc).bind fun acc s1 => lcGo own turn (ds.drop (i + 1)) (wipeS s1 own) acc) := g
      obtain ⟨go, yl⟩ := hL.yield wk Hid.refl stw hd
      refine .inr ⟨go, fun H' => ds.length - (i + 1) = ds.length - (i + 1) ∧ i + 1 ≤ ds.length ∧ ∃ F s acc, Lc K ad κ ⟨F1, wipeS (lockS s1 rv) own, L2.wipe σ own, H1⟩ ⟨F, s, L2.wipe σ own, H'⟩ z acc ∧
        Good (fun acc s3 => Post K ad κ ⟨F0, s0, σ, H⟩ Q (.m (.lst acc)) (unlockS s1 (unwipe (lockS s1 rv) s3 own) rv)) (lcGo own turn (ds.drop (i + 1)) s acc), fun H' hN => ⟨ds.length - (i + 1), by omega, hN⟩, fun v H' y => ?_⟩
      obtain ⟨F', hL', rp⟩ := yl v H' y
      have g := good_bind.mp g
      rw [← hturn] at g
      have g : Good _ (match bindT t ds[i] s with
        | some s3 => (evIfs call ifs s3).bind fun b s4 => if b = true then
            (evI call it1 s4).bind fun p1 s5 => runLc1 own1 p1.1 (turnLc t1 (evIfs call ifs1) (evE call x)) p1.2 acc s5 else .ok acc s4
        | none => Ax.R.bad) := g
      have fin : ∀ acc' F' s' H', Lc K ad κ ⟨F1, wipeS (lockS s1 rv) own, L2.wipe σ own, H1⟩ ⟨F', wipeS s' own, L2.wipe σ own, H'⟩ z acc' → Good (fun acc s3 => Post K ad κ ⟨F0, s0, σ, H⟩ Q (.m (.lst acc)) (unlockS s1 (unwipe (lockS s1 rv) s3 own) rv)) (lcGo own turn (ds.drop (i + 1)) (wipeS s' own) acc') →
          (ds.length - (i + 1) = ds.length - (i + 1) ∧ i + 1 ≤ ds.length ∧ ∃ F s acc, Lc K ad κ ⟨F1, wipeS (lockS s1 rv) own, L2.wipe σ own, H1⟩ ⟨F, s, L2.wipe σ own, H'⟩ z acc ∧
        Good (fun acc s3 => Post K ad κ ⟨F0, s0, σ, H⟩ Q (.m (.lst acc)) (unlockS s1 (unwipe (lockS s1 rv) s3 own) rv)) (lcGo own turn (ds.drop (i + 1)) s acc)) := fun acc' F' s' H' h' gn => ⟨rfl, hlt, F', wipeS s' own, acc', h', gn⟩
      split at g
      · rename_i s3 hs3
        refine ⟨F', s, ds[i], s3, hL'.rel, rp, hs3, fun σ2 R2 st2 ag => ?_⟩
        have ew : L2.wipe σ2 own = L2.wipe σ own := by rw [← (ag own ht).wipe, wipe_idem]
        refine ⟨ew, ?_⟩
        have h2 := hL'.step R2 st2
        refine tIfs.step R2 Stp.refl (good_bind.mp g) fun bb s4 F4 H4 R4 st4 _ g4 => ?_
        have h4 := h2.step R4 st4
        cases bb with
        | false =>
          rw [if_neg (by decide)]
          rw [if_neg (by decide)] at g4
          have h5 := h4.wipe (own := own)
          have h5 : Lc K ad κ ⟨F1, wipeS (lockS s1 rv) own, L2.wipe σ own, H1⟩ ⟨F4, wipeS s4 own, L2.wipe σ2 own, H4⟩ z acc := h5
          rw [ew] at h5
          rw [hturn] at g4
          exact fin acc F4 s4 H4 h5 g4
        | true =>
          rw [if_pos rfl]
          rw [if_pos rfl] at g4
          rw [hturn] at g4
          exact inner_ok hz hs ht1 h4 ew g4 fin
      · exact g.elim
    · have e : i = ds.length := by omega
      subst e
      rw [List.drop_length] at g
      have g : Post K ad κ ⟨F0, s0, σ, H⟩ Q (.m (.lst acc)) (unlockS s1 (unwipe (lockS s1 rv) s own) rv) := g
      refine .inl ⟨(wk _ Hid.refl ⟨F, s, L2.wipe σ own, H2⟩ hL.rel (stw.tr hL.st)).2, lc_end R1 st1 hz hL g⟩
theorem snd_lc2 (g : GX fnm kwt call ad X c) {own own1 : List Nat} {t t1 : T} {it it1 : I} {ifs ifs1 : Xo} {x : Ex} {elt iter tg1 iter1 : Expr} {ts ts1 : List Expr} {scope : Scope} (hb : L2.blkC c.N c.sc scope (ownOf c.N own) = true) (hs : ∀ i ∈ own1, i ∈ own) (ht : tIn own t = true) (ht1 : tIn own1 t1 = true)
    (hi : PI X tg iter (tI call X.K ad κ it)) (hn : notSet iter = true) (hl : LcOk fnm kwt call ad κ X scope t it ifs tg iter ts)
    (hi1 : ∀ (s : Shared) (H : Hp) (C : Addr) (cl : List (Str × Addr)) (fp : List Addr), PI (X.blk s H scope (compEnvC scope cl C X.env) fp) tg1 iter1 (tI call X.K ad κ it1)) (hn1 : notSet iter1 = true) (hl1 : LcOk fnm kwt call ad κ X scope t1 it1 ifs1 tg1 iter1 ts1)
    (he : ∀ (s : Shared) (H : Hp) (C : Addr) (cl : List (Str × Addr)) (fp : List Addr), PE (X.blk s H scope (compEnvC scope cl C X.env) fp) elt (tE call X.K ad κ x)) :
    PE X (.ListComp elt [⟨tg, iter, ts, 0⟩, ⟨tg1, iter1, ts1, 0⟩] scope p) (tE call X.K ad κ (.lc2 own own1 t it ifs t1 it1 ifs1 x)) := by
  refine PE.imp (pe_lc2 (vs1 := own1) g.calm g.nd hi (blk_ok g hb) (by rw [ownOf_snd]; exact hs) hl.tgt hl.tst hi1 hl1.tgt hl1.tst he (fold_no hn) (fun env => fold_no hn1)) fun σ H Q h => ?_
  rw [ownOf_snd]
  exact rd_lc2 hs ht ht1 h

/-- two lists without repetition, of the same members -/
theorem same_length {l1 l2 : List Int} (h1 : l1.Nodup) (h2 : l2.Nodup) (h : ∀ k, k ∈ l1 ↔ k ∈ l2) : l1.length = l2.length := ((List.perm_ext_iff_of_nodup h1 h2).mpr h).length_eq
theorem snd_lenSet (g : GX fnm kwt call ad X c) (hg : globOk c "len" = true) (hg2 : globOk c "set" = true) (n1 : noStar e = true) (ha : PE X e (tE call X.K ad κ a)) : PE X (.Call (.Name "len" q) [.Call (.Name "set" q') [e] [] p'] [] p) (tE call X.K ad κ (.lenSet a)) := by
  obtain ⟨h1, _⟩ := g.glob hg
  obtain ⟨h2, _⟩ := g.glob hg2
  refine ⟨fun pins s σ H Q I h => Call_ (ld_blt I h1 (g.bl "len") boot_len (PyProof.Rows.callWith_builtin1 (PyProof.Rows.args_cons (Call_ (ld_blt I h2 (g.bl "set") boot_set (PyProof.Rows.callWith_type1 (PyProof.Rows.args_cons ?_ (star1 n1)) (star1 n1) rfl))) rfl) rfl rfl))⟩
  have rd : tE call X.K ad κ a σ H fun x H1 => ∃ ns : List Int, ns.Nodup ∧ ns.length ≤ 4000 ∧ ((∃ z, x = .ref z ∧ SqL X.K H1 z (ns.map V.int)) ∨ ∃ z, x = .ref z ∧ SqT X.K H1 z (ns.map V.int)) ∧ Q (.int (ns.length : Nat)) H1 := by
    obtain ⟨F, s, R, gd⟩ := h
    have gd : Good _ ((evE call a s).bind kLenSet) := gd
    refine tE.step R Stp.refl (good_bind.mp gd) fun x s1 F1 H1 R1 _ st1 g1 v1 ok1 fr1 => ?_
    unfold kLenSet at g1
    split at g1
    · rename_i ds hd
      split at g1
      · rename_i ns hi
        split at g1
        · rename_i hc
          refine ⟨ns, hc.1, hc.2, ?_, Post.fro (x := .int (ns.length : Nat)) R1 st1 g1 (.int _)⟩
          cases hv : viewS s1 x with
          | none => rw [hv] at hd; cases hd
          | some d =>
            rw [hv] at hd
            have vw := R1.see ok1 hv
            cases d with
            | list ds' =>
              cases hd
              obtain ⟨z, vs, rfl, e1, e2⟩ := vw
              rw [intsD_eq hi] at e2
              rw [e2.ints_of] at e1
              exact .inl ⟨z, rfl, e1⟩
            | tuple ds' =>
              cases hd
              obtain ⟨z, vs, rfl, e1, e2⟩ := vw
              rw [intsD_eq hi] at e2
              rw [e2.ints_of] at e1
              exact .inr ⟨z, rfl, R1.fh.tupT e1⟩
            | none => cases hd
            | bool _ => cases hd
            | int _ => cases hd
            | str _ => cases hd
            | dict _ => cases hd
        · exact g1.elim
      · exact g1.elim
    · exact g1.elim
  refine thn (ha.run pins s σ H _ I rd) fun v s1 ⟨x, H1, I1, r1, ns, nd, few, hx, q1⟩ => PyProof.Rows.args_nil ?_
  rcases hx with ⟨z, rfl, hz⟩ | ⟨z, rfl, hz⟩
  · obtain rfl : v = Value.ref z := r1
    obtain ⟨its, r, pl, _⟩ := I1.list hz
    have sz : its.toArray.size = ns.length := by rw [List.size_toArray, ← r.length, List.length_map]
    refine call_set_list (I1.ok.hd g.calm) pl.isList (by simpa using RZ.intsAre_vals r) (by rw [sz]; unfold scanBound; omega) fun h' tk hS hk => PyProof.Rows.args_nil ?_
    rw [sz, RZ.firstMet_nodup nd ns.length (Nat.le_refl _), List.take_length] at hS
    obtain ⟨o, es, ep, t, ho, hex, hd, _, _, _, hf, hn⟩ := hS
    have I2 : Inv X pins σ H1 { s1 with heap := h', toks := tk } := I1.kept fun b o e => hk b o (Heap.lt_size e) e
    exact call_len_set ho hex hd hf (by rw [hn] <;> omega) ⟨.int ns.length, H1, I2.tok _, ⟨_, by rw [hn]⟩, q1⟩
  · obtain rfl : v = Value.ref z := r1
    obtain ⟨its, r, pt, _⟩ := I1.tuple hz
    refine call_set_tupI ns (I1.ok.hd g.calm) (show s1.heap.IsTuple z its.toArray from pt) (by simpa using RZ.intsAre_vals r) (by unfold scanBound; omega) fun h' tk cc hS hc hk => PyProof.Rows.args_nil ?_
    obtain ⟨o, es, ep, t, ho, hex, hd, _, hnd, hmem, _, hf, hn, _⟩ := hS
    have I2 : Inv X pins σ H1 { s1 with heap := h', toks := tk } := I1.kept fun b o e => hk b o e
    have el : es.size = ns.length := by
      have := same_length nd hnd fun k => by rw [← hmem k, decide_eq_true_iff]
      rw [List.length_map] at this
      rw [this]; simp
    exact call_len_set ho hex hd hf (by rw [el] <;> omega) ⟨.int ns.length, H1, I2.tok _, ⟨_, by rw [el]⟩, q1⟩
theorem snd_enm (g : GX fnm kwt call ad X c) {t1 t2 : Expr} {kk : Nat} {tp : Pos} (hg : globOk c "enumerate" = true) (n1 : noStar e = true) (ha : PE X e (tE call X.K ad κ a)) : PI X (.Tuple [t1, t2] kk tp) (.Call (.Name "enumerate" q) [e] [] p) (tI call X.K ad κ (.enm a)) := by
  obtain ⟨h1, _⟩ := g.glob hg
  refine PI.imp (pi_enumT h1 (g.bl "enumerate") ha (star1 n1)) fun σ H Rr ⟨F, s, R, gd⟩ => ?_
  have gd : Good _ ((evE call a s).bind kEnm) := gd
  refine tE.step R Stp.refl (good_bind.mp gd) fun x s1 F1 H1 R1 _ st1 g1 v1 ok1 fr1 => ?_
  unfold kEnm at g1
  split at g1
  · rename_i ds
    cases ok1.1 with
    | tup hs hr =>
      rename_i z xs
      refine ⟨z, xs, rfl, R1.fh.tupT hs, g1 F1 H1 R1 st1 _ fun wb hb w2 R2 st2 => ?_⟩
      have le2 : Le F1 w2.F := by have := st2.ff; rw [hb.f] at this; exact this
      have q2 : SqT X.K w2.H z xs := R2.fh.tupT (le2 _ _ hs)
      refine ⟨fun i d hd => ?_, xs, q2, ?_⟩
      · have hd : (ds.zipIdx.map fun p => PyData.tuple [.int (p.2 : Nat), p.1])[i]? = some d := hd
        rw [List.getElem?_map, List.getElem?_zipIdx] at hd
        obtain ⟨pr, hp, rfl⟩ := Option.map_eq_some_iff.mp hd
        obtain ⟨d1, hd1, rfl⟩ := Option.map_eq_some_iff.mp hp
        obtain ⟨v, hv, rv⟩ := hr.get hd1
        refine ⟨⟨xs, v, q2, hv⟩, fun y H' yl => .inr ?_⟩
        obtain ⟨T, x1, rfl, hT, rfl, y2⟩ := yl
        have f1 := y2 xs q2
        rw [hv] at f1; cases f1
        have le : Le w2.F (upd w2.F T (.tup [.int (i : Nat), v])) := le_upd (R2.nof hT)
        refine ⟨T, _, hT, rfl, .tup upd_same (.cons ?_ (.cons ((rv.mono le2).mono le) .nil))⟩
        simpa using RepD.int (K := X.K) (F := upd w2.F T (.tup [.int (i : Nat), v])) (i : Int)
      · show xs.length = (ds.zipIdx.map fun p => PyData.tuple [.int (p.2 : Nat), p.1]).length
        rw [List.length_map, List.length_zipIdx]
        exact hr.length
  · exact g1.elim
end
end Ax
/-! A16: every expression. -/
namespace Ax
open PySem PySem.Spec PyProof.Rows L2
section
variable {fnm : Nat → Str} {kwt : List (Nat × List Str × List Nat)} {call : Nat → List Arg → List M → R (List M) M} {ad : Nat → Addr} {κ : List Addr}
theorem okKs_len {c : MC} : ∀ {bs : Xs} {kws : List Keyword}, okKs fnm kwt c bs kws = true → kws.length = bs.len
  | .nil, kws, h => by rw [ok_knil h]; rfl
  | .cons a as, kws, h => by
    obtain ⟨n, e1, p, kws', rfl, _, h2⟩ := ok_kcons h
    show _ + 1 = _ + 1
    rw [okKs_len h2]
theorem okXs_len {c : MC} : ∀ {as : Xs} {es : List Expr}, okXs fnm kwt c as es = true → es.length = as.len
  | .nil, es, h => by rw [ok_nil h]; rfl
  | .cons a as, es, h => by
    obtain ⟨e1, es', rfl, _, _, h2⟩ := ok_cons h
    show _ + 1 = _ + 1
    rw [okXs_len h2]
theorem kws_len : ∀ {ks : List Str} {kws : List Keyword} {es : List Expr}, kwsOk ks kws es = true → ks.length = kws.length
  | [], [], _, _ => rfl
  | k :: ks, ⟨some k', e, p⟩ :: kws, es, h => by
    unfold kwsOk at h
    rw [Bool.and_eq_true] at h
    show _ + 1 = _ + 1
    rw [kws_len h.2]
  | [], ⟨_, _, _⟩ :: _, _, h => by simp [kwsOk] at h
  | _ :: _, [], _, h => by simp [kwsOk] at h
  | _ :: _, ⟨none, _, _⟩ :: _, _, h => by simp [kwsOk] at h
theorem plainIx_of {e : Expr} (h : notSlice e = true) : PlainIx e := by
  intro o i
  cases e <;> first | rfl | cases h
theorem each_nil {X : Cx} {as : Xs} {es : List Expr} (h : Each call ad κ X as es) (n : es ≠ []) : as ≠ .nil := by
  rintro rfl
  cases es with
  | nil => exact n rfl
  | cons e es => exact h.elim
/-- a value's reading and, where it may stand as a test, the test's -/
abbrev Snd (call : Nat → List Arg → List M → R (List M) M) (ad : Nat → Addr) (κ : List Addr) (X : Cx) (x : Ex) (e : Expr) : Prop := PE X e (tE call X.K ad κ x) ∧ (tstOk x e = true → PT X e (tT call X.K ad κ x))
theorem snd_of {X : Cx} {x : Ex} {e : Expr} (h : PE X e (tE call X.K ad κ x)) (ht : tstOk x e = true → notTest e = true) : Snd call ad κ X x e := ⟨h, fun t => snd_val h (ht t)⟩
mutual
theorem sE : ∀ (x : Ex) (e : Expr) {X : Cx} {c : MC}, GX fnm kwt call ad X c → okE fnm kwt c x e = true → Snd call ad κ X x e
  | .non, e, X, c, g, h => by
    obtain ⟨j, p, rfl⟩ := ok_non h
    exact snd_of (snd_lit pe_non (fun s => rfl) fun F => .non) fun t => t
  | .bl b, e, X, c, g, h => by
    obtain ⟨j, p, rfl⟩ := ok_bl h
    exact snd_of (snd_lit pe_bl (fun s => rfl) fun F => .bl b) fun t => t
  | .int i, e, X, c, g, h => by
    obtain ⟨j, p, rfl⟩ := ok_int h
    exact snd_of (snd_lit pe_int (fun s => rfl) fun F => .int i) fun t => t
  | .str z, e, X, c, g, h => by
    obtain ⟨j, p, rfl⟩ := ok_str h
    exact snd_of (snd_lit pe_str (fun s => rfl) fun F => .str z) fun t => t
  | .var i, e, X, c, g, h => by
    obtain ⟨x, p, rfl, h1⟩ := ok_var h
    exact snd_of (snd_var g h1) fun t => t
  | .fnv f, e, X, c, g, h => by
    obtain ⟨p, rfl, h1, h2⟩ := ok_fnv h
    exact snd_of (snd_fnv g h1 h2) fun t => t
  | .bin op a b, e, X, c, g, h => by
    obtain ⟨l, r, p, rfl, h1, h2⟩ := ok_bin h
    exact snd_of (snd_bin (sE a l g h1).1 (sE b r g h2).1) fun t => t
  | .cmp op a b, e, X, c, g, h => by
    obtain ⟨l, r, p, rfl, h1, h2, h3⟩ := ok_cmp h
    exact ⟨snd_cmp g (sE a l g h1).1 (sE b r g h2).1 h3, fun _ => snd_cmpT g (sE a l g h1).1 (sE b r g h2).1 h3⟩
  | .isN neg a, e, X, c, g, h => by
    obtain ⟨l, j, q, p, rfl, h1⟩ := ok_isN h
    obtain ⟨p1, p2⟩ := snd_isN (neg := neg) (j := j) (q := q) (p := p) (sE a l g h1).1
    exact ⟨p1, fun _ => p2⟩
  | .and as, e, X, c, g, h => by
    obtain ⟨es, p, rfl, h1, h2⟩ := ok_and h
    by_cases hn : as = .nil
    · subst hn
      rw [ok_nil h1]
      exact ⟨⟨fun pins s σ H Q I ⟨F, s0, R, gd⟩ => gd.elim⟩, fun _ => ⟨fun pins s σ H Q I ⟨F, s0, R, gd⟩ => gd.elim⟩⟩
    · obtain ⟨p1, p2⟩ := snd_and (p := p) h2 (sEs as es g h1).2 hn
      exact ⟨p1, fun _ => p2⟩
  | .or as, e, X, c, g, h => by
    obtain ⟨es, p, rfl, h1, h2⟩ := ok_or h
    by_cases hn : as = .nil
    · subst hn
      rw [ok_nil h1]
      exact ⟨⟨fun pins s σ H Q I ⟨F, s0, R, gd⟩ => gd.elim⟩, fun _ => ⟨fun pins s σ H Q I ⟨F, s0, R, gd⟩ => gd.elim⟩⟩
    · obtain ⟨p1, p2⟩ := snd_or (p := p) h2 (sEs as es g h1).2 hn
      exact ⟨p1, fun _ => p2⟩
  | .not a, e, X, c, g, h => by
    obtain ⟨l, p, rfl, h1, h2⟩ := ok_not h
    exact ⟨snd_notV (sE a l g h1).1, fun _ => snd_notT ((sE a l g h1).2 h2)⟩
  | .neg a, e, X, c, g, h => by
    obtain ⟨l, p, rfl, h1⟩ := ok_neg h
    exact snd_of (snd_neg (sE a l g h1).1) fun t => t
  | .ite k a b, e, X, c, g, h => by
    obtain ⟨q, l, r, p, rfl, h0, ht, h1, h2⟩ := ok_ite h
    exact snd_of (snd_ite ((sE k q g h0).2 ht) (sE a l g h1).1 (sE b r g h2).1) fun t => t
  | .tup as, e, X, c, g, h => by
    obtain ⟨es, z, p, rfl, h1⟩ := ok_tup h
    exact snd_of (snd_tup (sEs as es g h1).1) fun t => t
  | .lst as, e, X, c, g, h => by
    obtain ⟨es, p, rfl, h1⟩ := ok_lst h
    exact snd_of (snd_lst (sEs as es g h1).1) fun t => t
  | .ix a b, e, X, c, g, h => by
    obtain ⟨l, r, p, rfl, h1, h2, h3⟩ := ok_ix h
    exact snd_of (snd_ix (sE a l g h1).1 (sE b r g h2).1 (plainIx_of h3)) fun t => t
  | .sl a lo hi, e, X, c, g, h => by
    obtain ⟨l, q, r, p', p, rfl, h1, h2, h3⟩ := ok_sl h
    exact snd_of (snd_sl (sE a l g h1).1 (sO lo q g h2) (sO hi r g h3)) fun t => t
  | .lc own t it ifs x, e, X, c, g, h => by
    obtain ⟨elt, tg, iter, ts, scope, p, rfl, hb, ht, hi, h1, h2, h3⟩ := ok_lc h
    exact snd_of (snd_lc g hb ht (sI it tg iter g hi) (okI_notSet hi) ⟨fun s H C cl fp => snd_tg (g.blk s H scope cl C fp) h1, fun s H C cl fp => sIf ifs ts (g.blk s H scope cl C fp) h2⟩ fun s H C cl fp => (sE x elt (g.blk s H scope cl C fp) h3).1) fun t => t
  | .lc2 own own1 t it ifs t1 it1 ifs1 x, e, X, c, g, h => by
    obtain ⟨elt, tg, iter, ts, tg1, iter1, ts1, scope, p, rfl, hb, hs, ht, ht1, hi, h1, h2, hi1, h3, h4, h5⟩ := ok_lc2 h
    exact snd_of (snd_lc2 g hb (fun i m => of_decide_eq_true (List.all_eq_true.mp hs i m)) ht ht1 (sI it tg iter g hi) (okI_notSet hi) ⟨fun s H C cl fp => snd_tg (g.blk s H scope cl C fp) h1, fun s H C cl fp => sIf ifs ts (g.blk s H scope cl C fp) h2⟩
      (fun s H C cl fp => sI it1 tg1 iter1 (g.blk s H scope cl C fp) hi1) (okI_notSet hi1) ⟨fun s H C cl fp => snd_tg (g.blk s H scope cl C fp) h3, fun s H C cl fp => sIf ifs1 ts1 (g.blk s H scope cl C fp) h4⟩ fun s H C cl fp => (sE x elt (g.blk s H scope cl C fp) h5).1) fun t => t
  | .call f as, e, X, c, g, h => by
    obtain ⟨q, es, p, rfl, h1, h2⟩ := ok_call h
    exact snd_of (snd_call g h1 (okXs_stars h2) (sEs as es g h2).1 (okXs_len h2)) fun t => t
  | .callK f as ks bs perm, e, X, c, g, h => by
    obtain ⟨q, es, kws, p, rfl, h1, h2, h3, h4, h5, h6, h7⟩ := ok_callK h
    exact snd_of (snd_callK g h1 h2 h3 (okXs_stars h4) (sEs as es g h4).1 (okXs_len h4) (sKs bs kws g h6) h5 (by rw [kws_len h5, okKs_len h6]) h7) fun t => t
  | .callV i as, e, X, c, g, h => by
    obtain ⟨x, q, e1, es, p, rfl, h1, h2⟩ := ok_callV h
    have hs : (noStar e1 && noStars es) = true := okXs_stars h2
    rw [Bool.and_eq_true] at hs
    exact snd_of (snd_callV g h1 hs.1 hs.2 (sEs as (e1 :: es) g h2).1) fun t => t
  | .bi b as, e, X, c, g, h => by
    obtain ⟨q, e1, es, p, rfl, h1, h2⟩ := ok_bi h
    have hs : (noStar e1 && noStars es) = true := okXs_stars h2
    rw [Bool.and_eq_true] at hs
    exact snd_of (snd_bi g h1 hs.1 hs.2 (sEs as (e1 :: es) g h2).1) fun t => t
  | .isi t a, e, X, c, g, h => by
    obtain ⟨q, e1, q', p, rfl, h1, h2, h3, h4, h5⟩ := ok_isi h
    exact snd_of (snd_isi g h1 h2 h3 h4 (sE a e1 g h5).1) fun t => t
  | .rng b rg, e, X, c, g, h => by
    obtain ⟨q, q', es, p, p', rfl, h1, h2, h3⟩ := ok_rng h
    exact snd_of (snd_rng g h1 (sRg rg es g h2 h3 _ _)) fun t => t
  | .lenSet a, e, X, c, g, h => by
    obtain ⟨q, q', e1, p, p', rfl, h1, h2, h3, h4⟩ := ok_lenSet h
    exact snd_of (snd_lenSet g h1 h2 h3 (sE a e1 g h4).1) fun t => t
  | .srt t a, e, X, c, g, h => by
    obtain ⟨q, e1, p, rfl, h1, h2, h3⟩ := ok_srt h
    exact snd_of (snd_srt g h1 h2 (sE a e1 g h3).1) fun t => t
  | .frz a, e, X, c, g, h => by
    exact ⟨snd_frz (sE a e g (ok_frz h).1).1, fun t => snd_val (snd_frz (sE a e g (ok_frz h).1).1) t⟩
  | .dnew b, e, X, c, g, h => by
    obtain ⟨p, rfl⟩ := ok_dnew h
    exact snd_of snd_dnew fun t => t
  | .dIn neg a i, e, X, c, g, h => by
    obtain ⟨l, x, q, p, rfl, h1, h2⟩ := ok_dIn h
    obtain ⟨p1, p2⟩ := snd_dIn (q := q) (p := p) g (neg := neg) h1 (sE a l g h2).1
    exact ⟨p1, fun _ => p2⟩
  | .dGet i a, e, X, c, g, h => by
    obtain ⟨x, q, f, p, rfl, h1, h2, h3⟩ := ok_dGet h
    exact snd_of (snd_dGet g h1 (sE a f g h2).1 (by intro v w; cases f <;> first | rfl | cases h3)) fun t => t
  | .dSrt t i, e, X, c, g, h => by
    obtain ⟨q, x, q', p, rfl, h1, h2⟩ := ok_dSrt h
    exact snd_of (snd_dSrt g h1 h2) fun t => t
  | .app i a, e, X, c, g, h => by
    obtain ⟨x, p0, ap, e1, cp, rfl, h1, h2, h3, h4⟩ := ok_app h
    exact snd_of (snd_app g h1 h2 h3 (sE a e1 g h4).1) fun t => t
  | .ext i a, e, X, c, g, h => by
    obtain ⟨x, p0, ap, e1, cp, rfl, h1, h2, h3, h4⟩ := ok_ext h
    exact snd_of (snd_ext g h1 h2 h3 (sE a e1 g h4).1) fun t => t
  | .pop i, e, X, c, g, h => by
    obtain ⟨x, p0, ap, cp, rfl, h1, h2⟩ := ok_pop h
    exact snd_of (snd_pop g h1 h2) fun t => t
  | .popAt i a, e, X, c, g, h => by
    obtain ⟨x, p0, ap, e1, cp, rfl, h1, h2, h3, h4⟩ := ok_popAt h
    exact snd_of (snd_popAt g h1 h2 h3 (sE a e1 g h4).1) fun t => t
theorem sEs : ∀ (as : Xs) (es : List Expr) {X : Cx} {c : MC}, GX fnm kwt call ad X c → okXs fnm kwt c as es = true → PA X es (tXs call X.K ad κ as) ∧ Each call ad κ X as es
  | .nil, es, X, c, g, h => by
    rw [ok_nil h]
    exact ⟨snd_nil, trivial⟩
  | .cons a as, es, X, c, g, h => by
    obtain ⟨e1, es', rfl, h1, h2, h3⟩ := ok_cons h
    have p1 := sE a e1 g h2
    have p2 := sEs as es' g h3
    exact ⟨snd_cons h1 p1.1 p2.1, p1, p2.2⟩
theorem sKs : ∀ (as : Xs) (kws : List Keyword) {X : Cx} {c : MC}, GX fnm kwt call ad X c → okKs fnm kwt c as kws = true → PK X kws (tXs call X.K ad κ as)
  | .nil, kws, X, c, g, h => by
    rw [ok_knil h]
    exact snd_knil
  | .cons a as, kws, X, c, g, h => by
    obtain ⟨n, e1, p, kws', rfl, h1, h2⟩ := ok_kcons h
    exact snd_kcons (sE a e1 g h1).1 (sKs as kws' g h2)
theorem sO : ∀ (o : Xo) (e : Option Expr) {X : Cx} {c : MC}, GX fnm kwt call ad X c → okXo fnm kwt c o e = true → PO X e (tXo call X.K ad κ o)
  | .no, e, X, c, g, h => by
    rw [ok_no h]
    exact snd_no
  | .so a, e, X, c, g, h => by
    obtain ⟨e1, rfl, h1⟩ := ok_so h
    exact snd_so (sE a e1 g h1).1
theorem sIf : ∀ (o : Xo) (ts : List Expr) {X : Cx} {c : MC}, GX fnm kwt call ad X c → okIfs fnm kwt c o ts = true → PTs X ts (tIfs call X.K ad κ o)
  | .no, ts, X, c, g, h => by
    rw [ok_ifno h]
    exact snd_ifno
  | .so a, ts, X, c, g, h => by
    obtain ⟨e1, rfl, h1, h2⟩ := ok_ifso h
    exact snd_ifso ((sE a e1 g h1).2 h2)
theorem sRg : ∀ (rg : Rg) (es : List Expr) {X : Cx} {c : MC}, GX fnm kwt call ad X c → globOk c "range" = true → okRg fnm kwt c rg es = true → ∀ q p, PRg X (.Call (.Name "range" q) es [] p) (tRg call X.K ad κ rg)
  | .r1 hi, es, X, c, g, hg, h, q, p => by
    obtain ⟨e1, rfl, h1, h2⟩ := ok_r1 h
    exact snd_r1 g hg h1 (sE hi e1 g h2).1
  | .r2 lo hi, es, X, c, g, hg, h, q, p => by
    obtain ⟨e1, e2, rfl, h1, h2, h3, h4⟩ := ok_r2 h
    exact snd_r2 g hg h1 h2 (sE lo e1 g h3).1 (sE hi e2 g h4).1
theorem sRgI : ∀ (rg : Rg) (es : List Expr) {X : Cx} {c : MC}, GX fnm kwt call ad X c → globOk c "range" = true → okRg fnm kwt c rg es = true → ∀ tg q p, PI X tg (.Call (.Name "range" q) es [] p) (tI call X.K ad κ (.rng rg))
  | .r1 hi, es, X, c, g, hg, h, tg, q, p => by
    obtain ⟨e1, rfl, h1, h2⟩ := ok_r1 h
    exact snd_irng1 g hg h1 (sE hi e1 g h2).1
  | .r2 lo hi, es, X, c, g, hg, h, tg, q, p => by
    obtain ⟨e1, e2, rfl, h1, h2, h3, h4⟩ := ok_r2 h
    exact snd_irng2 g hg h1 h2 (sE lo e1 g h3).1 (sE hi e2 g h4).1
theorem sI : ∀ (it : I) (tg e : Expr) {X : Cx} {c : MC}, GX fnm kwt call ad X c → okI fnm kwt c it tg e = true → PI X tg e (tI call X.K ad κ it)
  | .seq a, tg, e, X, c, g, h => snd_seq (sE a e g (ok_iseq h).1).1
  | .rng rg, tg, e, X, c, g, h => by
    obtain ⟨q, es, p, rfl, h1, h2⟩ := ok_irng h
    exact sRgI rg es g h1 h2 tg q p
  | .zip a b, tg, e, X, c, g, h => by
    obtain ⟨t1, t2, kk, q', e1, e2, q, p, rfl, rfl, h1, h2, h3, h4, h5⟩ := ok_izip h
    exact snd_zip g h1 h2 h3 (sE a e1 g h4).1 (sE b e2 g h5).1
  | .enm a, tg, e, X, c, g, h => by
    obtain ⟨t1, t2, kk, q', e1, q, p, rfl, rfl, h1, h2, h3⟩ := ok_ienm h
    exact snd_enm g h1 h2 (sE a e1 g h3).1
end
end
end Ax
/-! A17: statements. -/
namespace Ax
open PySem PySem.Spec PyProof.Rows L2
def notComp : Expr → Bool
  | .ListComp .. => false
  | .SetComp .. => false
  | .DictComp .. => false
  | _ => true
def notTup : Expr → Bool
  | .Tuple .. => false
  | _ => true
def swOk (c : MC) (y : Str) (py : Pos) : Expr → Bool
  | .ListComp _ _ scope pos => decide (c.sc.names.lookup y = some .local) && (py.line == pos.line) && !(scope.names.any fun (n, k) => n == y && (k == .local || k == .cell))
  | _ => false
def parOk (c : MC) (x y : Str) (px py : Pos) (a b : Expr) : Bool := decide (c.sc.names.lookup x = some .local) && decide (c.sc.names.lookup y = some .local) && (py.line == px.line) && decide (x ≠ y) && noStar a && noStar b &&
  !(foldedForSure 8 a && foldedForSure 8 b) && !(constantsAlone 8 a && constantsAlone 8 b)
/-- two names that are not stored at once -/
def genOk (c : MC) (i j : Nat) (x y : Str) : Bool := !(decide (c.sc.names.lookup x = some .local) && decide (c.sc.names.lookup y = some .local)) && locOk c i x && locOk c j y
section
variable (fnm : Nat → Str) (kwt : List (Nat × List Str × List Nat))
mutual
def okS (c : MC) : St → Stmt → Bool
  | .asg (.nm i) x, .Assign [.Name y py] e _ => locOk c i y && okE fnm kwt c x e && (notComp e || decide (c.sc.names.lookup y = some .cell) || swOk c y py e)
  | .asg (.tp ts) x, .Assign [tg] e _ => okT c (.tp ts) tg && okE fnm kwt c x e && notComp e && notTup e
  | .asgN [i, j] as, .Assign [.Tuple [.Name x px, .Name y py] _ _] (.Tuple [a, b] _ _) _ => decide (c.N[i]? = some x) && decide (c.N[j]? = some y) && decide (i ≠ j) && (parOk c x y px py a b || genOk c i j x y) && okXs fnm kwt c as [a, b]
  | .asgIx i k x, .Assign [.Subscript (.Name y _) q _] e _ => nameOk c i y && okE fnm kwt c k q && notSlice q && okE fnm kwt c x e && notComp e
  | .dPut i k x, .Assign [.Subscript (.Name y _) q _] e _ => nameOk c i y && okE fnm kwt c k q && notSlice q && okE fnm kwt c x e && notComp e
  | .aug i op x, .AugAssign (.Name y _) o e _ => decide (op = o) && (decide (o = .Add) || decide (o = .Sub)) && locOk c i y && okE fnm kwt c x e
  | .expr x, .Expr e _ => okE fnm kwt c x e && notComp e
  | .ret x, .Return (some e) _ => okE fnm kwt c x e
  | .retN, .Return none _ => true
  | .ite k a b, .If e s1 s2 _ => okE fnm kwt c k e && tstOk k e && okSs c a s1 && okSs c b s2
  | .for_ t it b, .For tg iter body [] _ => okI fnm kwt c it tg iter && okT c t tg && okSs c b body
  | .while_ k b, .While e body [] _ => okE fnm kwt c k e && tstOk k e && okSs c b body
  | .pass, .Pass _ => true
  | .never, _ => true
  | _, _ => false
def okSs (c : MC) : Sts → List Stmt → Bool
  | .nil, [] => true
  | .cons a as, st :: sts => okS c a st && okSs c as sts
  | _, _ => false
end
end
section
variable {fnm : Nat → Str} {kwt : List (Nat × List Str × List Nat)} {c : MC} {st : Stmt}
theorem ok_asg {i : Nat} {x : Ex} (h : okS fnm kwt c (.asg (.nm i) x) st = true) : ∃ y py e p, st = .Assign [.Name y py] e p ∧ locOk c i y = true ∧ okE fnm kwt c x e = true ∧ (notComp e = true ∨ c.sc.names.lookup y = some .cell ∨ swOk c y py e = true) := by
  unfold okS at h
  split at h <;> simp_all [and_assoc, or_assoc]
theorem ok_asgT {ts : Ts} {x : Ex} (h : okS fnm kwt c (.asg (.tp ts) x) st = true) : ∃ tg e p, st = .Assign [tg] e p ∧ okT c (.tp ts) tg = true ∧ okE fnm kwt c x e = true ∧ notComp e = true ∧ notTup e = true := by
  unfold okS at h
  split at h <;> simp_all [and_assoc]
theorem ok_asgN {is : List Nat} {as : Xs} (h : okS fnm kwt c (.asgN is as) st = true) : ∃ i j x y px py a b k q k2 q2 p, is = [i, j] ∧ st = .Assign [.Tuple [.Name x px, .Name y py] k q] (.Tuple [a, b] k2 q2) p ∧ c.N[i]? = some x ∧ c.N[j]? = some y ∧ i ≠ j ∧ (parOk c x y px py a b = true ∨ genOk c i j x y = true) ∧ okXs fnm kwt c as [a, b] = true := by
  unfold okS at h
  split at h <;> simp_all [and_assoc]
theorem ok_asgIx {i : Nat} {k x : Ex} (h : okS fnm kwt c (.asgIx i k x) st = true) : ∃ y py q p' e p, st = .Assign [.Subscript (.Name y py) q p'] e p ∧ nameOk c i y = true ∧ okE fnm kwt c k q = true ∧ notSlice q = true ∧ okE fnm kwt c x e = true ∧ notComp e = true := by
  unfold okS at h
  split at h <;> simp_all [and_assoc]
theorem ok_dPut {i : Nat} {k x : Ex} (h : okS fnm kwt c (.dPut i k x) st = true) : ∃ y py q p' e p, st = .Assign [.Subscript (.Name y py) q p'] e p ∧ nameOk c i y = true ∧ okE fnm kwt c k q = true ∧ notSlice q = true ∧ okE fnm kwt c x e = true ∧ notComp e = true := by
  unfold okS at h
  split at h <;> simp_all [and_assoc]
theorem ok_aug {i : Nat} {op : Operator} {x : Ex} (h : okS fnm kwt c (.aug i op x) st = true) : ∃ y py e p, st = .AugAssign (.Name y py) op e p ∧ (op = .Add ∨ op = .Sub) ∧ locOk c i y = true ∧ okE fnm kwt c x e = true := by
  unfold okS at h
  split at h <;> simp_all [and_assoc]
theorem ok_expr {x : Ex} (h : okS fnm kwt c (.expr x) st = true) : ∃ e p, st = .Expr e p ∧ okE fnm kwt c x e = true ∧ notComp e = true := by
  unfold okS at h
  split at h <;> simp_all [and_assoc]
theorem ok_ret {x : Ex} (h : okS fnm kwt c (.ret x) st = true) : ∃ e p, st = .Return (some e) p ∧ okE fnm kwt c x e = true := by
  unfold okS at h
  split at h <;> simp_all [and_assoc]
theorem ok_retN (h : okS fnm kwt c .retN st = true) : ∃ p, st = .Return none p := by
  unfold okS at h
  split at h <;> simp_all [and_assoc]
theorem ok_iteS {k : Ex} {a b : Sts} (h : okS fnm kwt c (.ite k a b) st = true) : ∃ e s1 s2 p, st = .If e s1 s2 p ∧ okE fnm kwt c k e = true ∧ tstOk k e = true ∧ okSs fnm kwt c a s1 = true ∧ okSs fnm kwt c b s2 = true := by
  unfold okS at h
  split at h <;> simp_all [and_assoc]
theorem ok_for {t : T} {it : I} {b : Sts} (h : okS fnm kwt c (.for_ t it b) st = true) : ∃ tg iter body p, st = .For tg iter body [] p ∧ okI fnm kwt c it tg iter = true ∧ okT c t tg = true ∧ okSs fnm kwt c b body = true := by
  unfold okS at h
  split at h <;> simp_all [and_assoc]
theorem ok_while {k : Ex} {b : Sts} (h : okS fnm kwt c (.while_ k b) st = true) : ∃ e body p, st = .While e body [] p ∧ okE fnm kwt c k e = true ∧ tstOk k e = true ∧ okSs fnm kwt c b body = true := by
  unfold okS at h
  split at h <;> simp_all [and_assoc]
theorem ok_pass (h : okS fnm kwt c .pass st = true) : ∃ p, st = .Pass p := by
  unfold okS at h
  split at h <;> simp_all [and_assoc]
theorem ok_snil {sts : List Stmt} (h : okSs fnm kwt c .nil sts = true) : sts = [] := by
  unfold okSs at h
  split at h <;> simp_all [and_assoc]
theorem ok_scons {a : St} {as : Sts} {sts : List Stmt} (h : okSs fnm kwt c (.cons a as) sts = true) : ∃ s1 ss, sts = s1 :: ss ∧ okS fnm kwt c a s1 = true ∧ okSs fnm kwt c as ss = true := by
  unfold okSs at h
  split at h <;> simp_all [and_assoc]
end

/-- a value that a def hands back -/
structure RetOk (K : PySem.W.Frag) (ad : Nat → Addr) (κ : List Addr) (w w' : Wd) (x : V) (v : M) : Prop where
  rel : RelM K ad w'.F w'.H x v
  own : ∀ a, tmp x (.m v) a → (∀ j v', ¬ OwnAt κ w' (.inr j) a v') ∧ (w.H a = none ∨ ∃ i v', OwnAt κ w' (.inl i) a v')
def PostS (K : PySem.W.Frag) (ad : Nat → Addr) (κ : List Addr) (w : Wd) (D : Ends) (fl : Fl) (s' : S) : Prop :=
  match fl with
  | .next => ∀ F' σ' H', Rel K ad κ ⟨F', s', σ', H'⟩ → Stp κ noT w ⟨F', s', σ', H'⟩ → D.nx σ' H'
  | .ret v => ∀ F' σ' H' x, Rel K ad κ ⟨F', s', σ', H'⟩ → Stp κ noT w ⟨F', s', σ', H'⟩ → RetOk K ad κ w ⟨F', s', σ', H'⟩ x v → D.rt x H'
def tS (call : Nat → List Arg → List M → R (List M) M) (K : PySem.W.Frag) (ad : Nat → Addr) (κ : List Addr) (st : St) : TS := fun D σ H => ∃ F s, Rel K ad κ ⟨F, s, σ, H⟩ ∧ Good (PostS K ad κ ⟨F, s, σ, H⟩ D) (evS call st s)
def tSs (call : Nat → List Arg → List M → R (List M) M) (K : PySem.W.Frag) (ad : Nat → Addr) (κ : List Addr) (sts : Sts) : TS := fun D σ H => ∃ F s, Rel K ad κ ⟨F, s, σ, H⟩ ∧ Good (PostS K ad κ ⟨F, s, σ, H⟩ D) (evSs call sts s)
section
variable {fnm : Nat → Str} {kwt : List (Nat × List Str × List Nat)} {call : Nat → List Arg → List M → R (List M) M} {K : PySem.W.Frag} {ad : Nat → Addr} {κ : List Addr} {X : Cx} {c : MC} {e l r tg : Expr} {a b k x : Ex} {p q p' q' : Pos} {es : List Expr} {as bs : Xs}
variable {F H : Hp} {s : S} {σ : L2.St} {D : Ends}
theorem PS.imp {st : Stmt} {t t' : TS} (h : PS X st t) (q : ∀ D σ H, t' D σ H → t D σ H) : PS X st t' := ⟨fun pins s σ H D I z => h.run pins s σ H D I (q D σ H z)⟩
theorem PSs.imp {st : List Stmt} {t t' : TS} (h : PSs X st t) (q : ∀ D σ H, t' D σ H → t D σ H) : PSs X st t' := ⟨fun pins s σ H D I z => h.run pins s σ H D I (q D σ H z)⟩
theorem PostS.later {w w' : Wd} {fl : Fl} {s' : S} (h : PostS K ad κ w D fl s') (st : Stp κ noT w w') : PostS K ad κ w' D fl s' := by
  cases fl with
  | next => exact fun F' σ' H' R st' => h F' σ' H' R (st.tr st')
  | ret v => exact fun F' σ' H' x R st' rt => h F' σ' H' x R (st.tr st') ⟨rt.rel, fun a t => ⟨(rt.own a t).1, (rt.own a t).2.imp (st.dm a) id⟩⟩
theorem swaps_no {t : Option Expr} {n : Nat} {env : Env} (h : notComp e = true) : swapsWith e t n env = pure false := by cases e <;> first | rfl | cases h
theorem stores_no {t : List Expr} {env : Env} (h : notTup e = true) : swappedStores t e env = pure none := by
  cases e <;> first | cases h | skip
  all_goals (unfold swappedStores; rcases t with _ | ⟨t, _ | ⟨t2, ts⟩⟩ <;> first | rfl | (cases t <;> rfl))
theorem stores_name {x : Str} {env : Env} : swappedStores [.Name x p] e env = pure none := by
  unfold swappedStores
  cases e <;> rfl
theorem stores_sub {env : Env} : swappedStores [.Subscript l r p] e env = pure none := by
  unfold swappedStores
  cases e <;> rfl
/-- give, and store -/
theorem kAsg_ok {i : Nat} {v : V} {rv : Rv} {w0 : Wd} (R : Rel K ad κ ⟨F, s, σ, H⟩) (st : Stp κ noT w0 ⟨F, s, σ, H⟩) (ok : RvOk K ad κ ⟨F, s, σ, H⟩ v rv) (fr : Fresh w0.H v rv)
    (g : Good (PostS K ad κ w0 D) (match give s rv with
      | some (z, s2) => Ax.R.ok Fl.next (s2.set i z)
      | none => .bad)) : D.nx (σ.set i (some v)) H := by
  cases q : give s rv with
  | none => rw [q] at g; exact g.elim
  | some pr =>
    obtain ⟨z, s2⟩ := pr
    rw [q] at g
    obtain ⟨F', R1, st1, _, ok1, tm⟩ := Rel.giving (w := ⟨F, s, σ, H⟩) R st ok fr q
    obtain ⟨R2, st2⟩ := Rel.setv0 (i := i) (w := ⟨F', s2, σ, H⟩) R1 st1 ok1 fun a t => fr a (tm a t)
    exact g F' _ H R2 st2
theorem rd_asg {i : Nat} (h : tS call K ad κ (.asg (.nm i) x) D σ H) : tAsg (tE call K ad κ x) (gName i) D σ H := by
  obtain ⟨F, s, R, g⟩ := h
  have g : Good _ ((evE call x s).bind fun r s1 => match give s1 r with
        | some (v, s2) => Ax.R.ok Fl.next (s2.set i v)
        | none => .bad) := g
  exact tE.step R Stp.refl (good_bind.mp g) fun rv s1 F1 H1 R1 _ st1 g1 v1 ok1 fr1 => kAsg_ok R1 st1 ok1 fr1 g1
end
end Ax
/-! A18: each form of statement. -/
namespace Ax
open PySem PySem.Spec PyProof.Rows L2
section
variable {fnm : Nat → Str} {kwt : List (Nat × List Str × List Nat)} {call : Nat → List Arg → List M → R (List M) M} {K : PySem.W.Frag} {ad : Nat → Addr} {κ : List Addr} {X : Cx} {c : MC} {e l r tg : Expr} {a b k x : Ex} {p q p' q' : Pos} {es : List Expr} {as bs : Xs}
variable {F H : Hp} {s : S} {σ : L2.St} {D : Ends}
theorem sw_cell {y : Str} {py : Pos} {n : Nat} {env : Env} (h : env.scope.names.lookup y = some .cell) : swapsWith e (some (.Name y py)) n env = pure false := by
  have hk : env.kindOf y = some .cell := h
  unfold swapsWith
  have hn : (some NameKind.cell == some NameKind.local) = false := rfl
  cases e <;> first | rfl | (simp only [hk, hn, Bool.and_false, Bool.false_and])
/-- name = value -/
theorem snd_asg (g : GX fnm kwt call ad X c) (hkind : X.env.scope.kind = .function) {i : Nat} {y : Str} {py : Pos} (hl : locOk c i y = true) (hx : okE fnm kwt c x e = true) (hc : notComp e = true ∨ c.sc.names.lookup y = some .cell ∨ swOk c y py e = true) :
    PS X (.Assign [.Name y py] e p) (tS call X.K ad κ (.asg (.nm i) x)) := by
  obtain ⟨h1, h2, h3⟩ := g.loc hl
  rcases hc with hc | hc | hc
  · exact PS.imp (ps_set g.nd h1 h2 (sE (κ := κ) x e g hx).1 (swaps_no hc) h3) fun D σ H h => rd_asg h
  · exact PS.imp (ps_set g.nd h1 h2 (sE (κ := κ) x e g hx).1 (sw_cell (by rw [g.sc]; exact hc)) h3) fun D σ H h => rd_asg h
  · cases e with
    | ListComp elt gs scope pos =>
      unfold swOk at hc
      simp only [Bool.and_eq_true, decide_eq_true_eq, Bool.not_eq_true'] at hc
      obtain ⟨⟨c1, c2⟩, c3⟩ := hc
      have hyl : X.env.scope.names.lookup y = some .local := by rw [g.sc]; exact c1
      cases x with
      | lc own t it ifs x =>
        obtain ⟨elt', tg, iter, ts, scope', p', he, hb, ht, hi, h5, h6, h7⟩ := ok_lc hx
        cases he
        refine PS.imp (ps_setLc (wi := tI call X.K ad κ it) (g := tTg X.K ad κ t) (tt := tIfs call X.K ad κ ifs) (te := tE call X.K ad κ x) g.calm g.nd h1 hyl (sw_true hkind hyl c2 c3) (sI it tg iter g hi) (blk_ok g hb) (fun s H C cl fp => snd_tg (g.blk s H scope cl C fp) h5) (fun s H C cl fp => sIf ifs ts (g.blk s H scope cl C fp) h6)
          (fun s H C cl fp => (sE x elt (g.blk s H scope cl C fp) h7).1) (fold_no (okI_notSet hi))) fun D σ H h => ?_
        rw [ownOf_snd]
        exact rd_lc ht (rd_asg h)
      | lc2 own own1 t it ifs t1 it1 ifs1 x =>
        obtain ⟨elt', tg, iter, ts, tg1, iter1, ts1, scope', p', he, hb, hs, ht, ht1, hi, h5, h6, hi1, h7, h8, h9⟩ := ok_lc2 hx
        cases he
        refine PS.imp (ps_setLc2 (vs1 := own1) (wi := tI call X.K ad κ it) (g := tTg X.K ad κ t) (tt := tIfs call X.K ad κ ifs) (wi1 := tI call X.K ad κ it1) (g1 := tTg X.K ad κ t1) (tt1 := tIfs call X.K ad κ ifs1) (te := tE call X.K ad κ x) g.calm g.nd h1 hyl (sw_true hkind hyl c2 c3) (sI it tg iter g hi) (blk_ok g hb) (by rw [ownOf_snd]; exact fun i m => of_decide_eq_true (List.all_eq_true.mp hs i m)) (fun s H C cl fp => snd_tg (g.blk s H scope cl C fp) h5) (fun s H C cl fp => sIf ifs ts (g.blk s H scope cl C fp) h6)
          (fun s H C cl fp => sI it1 tg1 iter1 (g.blk s H scope cl C fp) hi1) (fun s H C cl fp => snd_tg (g.blk s H scope cl C fp) h7) (fun s H C cl fp => sIf ifs1 ts1 (g.blk s H scope cl C fp) h8) (fun s H C cl fp => (sE x elt (g.blk s H scope cl C fp) h9).1) (fold_no (okI_notSet hi)) (fun env => fold_no (okI_notSet hi1))) fun D σ H h => ?_
        rw [ownOf_snd]
        exact rd_lc2 (fun i m => of_decide_eq_true (List.all_eq_true.mp hs i m)) ht ht1 (rd_asg h)
      | frz x0 =>
        cases x0 with
        | lc own t it ifs x =>
          obtain ⟨elt', tg, iter, ts, scope', p', he, hb, ht, hi, h5, h6, h7⟩ := ok_lc (ok_frz hx).1
          cases he
          refine PS.imp (ps_setLc (wi := tI call X.K ad κ it) (g := tTg X.K ad κ t) (tt := tIfs call X.K ad κ ifs) (te := tE call X.K ad κ x) g.calm g.nd h1 hyl (sw_true hkind hyl c2 c3) (sI it tg iter g hi) (blk_ok g hb) (fun s H C cl fp => snd_tg (g.blk s H scope cl C fp) h5) (fun s H C cl fp => sIf ifs ts (g.blk s H scope cl C fp) h6)
            (fun s H C cl fp => (sE x elt (g.blk s H scope cl C fp) h7).1) (fold_no (okI_notSet hi))) fun D σ H h => ?_
          rw [ownOf_snd]
          exact rd_lc ht (rd_frz (rd_asg h))
        | lc2 own own1 t it ifs t1 it1 ifs1 x =>
          obtain ⟨elt', tg, iter, ts, tg1, iter1, ts1, scope', p', he, hb, hs, ht, ht1, hi, h5, h6, hi1, h7, h8, h9⟩ := ok_lc2 (ok_frz hx).1
          cases he
          refine PS.imp (ps_setLc2 (vs1 := own1) (wi := tI call X.K ad κ it) (g := tTg X.K ad κ t) (tt := tIfs call X.K ad κ ifs) (wi1 := tI call X.K ad κ it1) (g1 := tTg X.K ad κ t1) (tt1 := tIfs call X.K ad κ ifs1) (te := tE call X.K ad κ x) g.calm g.nd h1 hyl (sw_true hkind hyl c2 c3) (sI it tg iter g hi) (blk_ok g hb) (by rw [ownOf_snd]; exact fun i m => of_decide_eq_true (List.all_eq_true.mp hs i m)) (fun s H C cl fp => snd_tg (g.blk s H scope cl C fp) h5) (fun s H C cl fp => sIf ifs ts (g.blk s H scope cl C fp) h6)
            (fun s H C cl fp => sI it1 tg1 iter1 (g.blk s H scope cl C fp) hi1) (fun s H C cl fp => snd_tg (g.blk s H scope cl C fp) h7) (fun s H C cl fp => sIf ifs1 ts1 (g.blk s H scope cl C fp) h8) (fun s H C cl fp => (sE x elt (g.blk s H scope cl C fp) h9).1) (fold_no (okI_notSet hi)) (fun env => fold_no (okI_notSet hi1))) fun D σ H h => ?_
          rw [ownOf_snd]
          exact rd_lc2 (fun i m => of_decide_eq_true (List.all_eq_true.mp hs i m)) ht ht1 (rd_frz (rd_asg h))
        | frz x1 => exact absurd (ok_frz hx).2 (by simp [notFrz])
        | _ => exact absurd (ok_frz hx).1 (by simp [okE])
      | _ => simp [okE] at hx
    | _ => simp [swOk] at hc
theorem snd_asgT (g : GX fnm kwt call ad X c) {ts : Ts} (ht : okT c (.tp ts) tg = true) (hx : okE fnm kwt c x e = true) (hc : notComp e = true) (hn : notTup e = true) : PS X (.Assign [tg] e p) (tS call X.K ad κ (.asg (.tp ts) x)) := by
  have h1 : (assignEach [tg] X.env).map (·.2) = [assign tg X.env] := by
    obtain ⟨es, kk, p, rfl, _⟩ := ok_tp ht
    rfl
  refine PS.imp (ps_asg (sE (κ := κ) x e g hx).1 (snd_tg (κ := κ) g ht) (swaps_no hc) (stores_no hn) h1) fun D σ H ⟨F, s, R, gd⟩ => ?_
  have gd : Good _ ((evE call x s).bind fun r s1 => match r with
        | .m (.fro d) => match bindT (.tp ts) d s1 with
          | some s2 => Ax.R.ok Fl.next s2
          | none => .bad
        | _ => .bad) := gd
  refine tE.step R Stp.refl (good_bind.mp gd) fun rv s1 F1 H1 R1 _ st1 g1 v1 ok1 fr1 => ?_
  split at g1
  · rename_i d
    split at g1
    · rename_i s2 hs
      exact ⟨F1, s1, d, s2, R1, ok1.1, hs, fun σ' R2 st2 _ => g1 F1 σ' H1 R2 (st1.tr st2)⟩
    · exact g1.elim
  · exact g1.elim
theorem par_swap {y z : Str} {py pz : Pos} {kk k2 : Nat} {l r : Expr} (hb : X.env.scope.kind = .function) (hsc : X.env.scope = c.sc) (h : parOk c y z py pz l r = true) : swappedStores [.Tuple [.Name y py, .Name z pz] kk q] (.Tuple [l, r] k2 q') X.env = pure (some [y, z]) := by
  unfold parOk at h
  simp only [Bool.and_eq_true, decide_eq_true_eq, Bool.not_eq_true'] at h
  obtain ⟨⟨⟨⟨⟨⟨⟨h1, h2⟩, h3⟩, h4⟩, h5⟩, h6⟩, h7⟩, h8⟩ := h
  have k1 : X.env.kindOf y = some .local := by show X.env.scope.names.lookup y = _; rw [hsc]; exact h1
  have k2 : X.env.kindOf z = some .local := by show X.env.scope.names.lookup z = _; rw [hsc]; exact h2
  have k3 : X.env.blockKind = .function := by unfold Env.blockKind; rw [hb]; rfl
  have n1 : ([l, r].any fun | .Starred .. => true | _ => false) = false := by
    have a1 : ∀ e : Expr, noStar e = true → (match e with | .Starred .. => true | _ => false) = false := fun e he => by cases e <;> first | rfl | cases he
    rw [List.any_cons, List.any_cons, List.any_nil, a1 l h5, a1 r h6]; rfl
  have e1 : [y, z].eraseDups.length = 2 := by
    have h4' : ¬ z = y := fun e => h4 e.symm
    simp [List.eraseDups_cons, h4']
  have f7 : ([l, r].all (foldedForSure 8)) = false := by
    rw [List.all_cons, List.all_cons, List.all_nil, Bool.and_true]; exact h7
  have f8 : ([l, r].all (constantsAlone 8)) = false := by
    rw [List.all_cons, List.all_cons, List.all_nil, Bool.and_true]; exact h8
  have e3 : (py.line == py.line) = true := by simp
  have e4 : (some NameKind.local == some NameKind.local && true) = true := rfl
  unfold swappedStores
  simp only [List.length_cons, List.length_nil, List.head?_cons, Option.map_some, Option.getD_some, List.filterMap_cons, List.filterMap_nil, Expr.pos, k1, k2, k3, h3, e3, f7, f8, e4, if_true]
  rw [if_neg (by decide)]
  refine (if_neg (fun e => Bool.false_ne_true (n1.symm.trans e))).trans ?_
  refine (if_neg (fun e => by rw [e1] at e; exact absurd e (by decide))).trans ?_
  rfl

/-- two names, two values -/
theorem giveAll_len : ∀ {rs : List Rv} {s s' : S} {vs : List M}, giveAll s rs = some (vs, s') → vs.length = rs.length
  | [], s, s', vs, h => by
    have h : some (([] : List M), s) = some (vs, s') := h
    cases h; rfl
  | r :: rs, s, s', vs, h => by
    have h : (match give s r with
      | some (v, s1) => (giveAll s1 rs).map fun (vs, s2) => (v :: vs, s2)
      | none => none) = some (vs, s') := h
    cases q : give s r with
    | none => rw [q] at h; cases h
    | some pr =>
      obtain ⟨v, s1⟩ := pr
      rw [q] at h
      obtain ⟨⟨vs1, s2⟩, q2, e⟩ := Option.map_eq_some_iff.mp h
      cases e
      rw [List.length_cons, List.length_cons, giveAll_len q2]
theorem snd_par (g : GX fnm kwt call ad X c) (hkind : X.env.scope.kind = .function) {i j : Nat} {y z : Str} {py pz : Pos} {kk k2 : Nat} (h1 : c.N[i]? = some y) (h2 : c.N[j]? = some z) (hij : i ≠ j) (hp : parOk c y z py pz l r = true) (hx : okXs fnm kwt c as [l, r] = true) :
    PS X (.Assign [.Tuple [.Name y py, .Name z pz] kk q] (.Tuple [l, r] k2 q') p) (tS call X.K ad κ (.asgN [i, j] as)) := by
  have hsw := par_swap (X := X) (q := q) (q' := q') (kk := kk) (k2 := k2) hkind g.sc hp
  unfold parOk at hp
  simp only [Bool.and_eq_true, decide_eq_true_eq, Bool.not_eq_true'] at hp
  refine PS.imp (ps_par g.calm g.nd (by rw [g.N]; exact h1) (by rw [g.N]; exact h2) hij (by rw [g.sc]; exact hp.1.1.1.1.1.1.1) (by rw [g.sc]; exact hp.1.1.1.1.1.1.2) (sEs (κ := κ) as [l, r] g hx).1 hsw) fun D σ H ⟨F, s, R, gd⟩ => ?_
  have gd : Good _ ((evXs call as s).bind fun rs s1 => match giveAll s1 rs with
      | some (vs, s2) => if vs.length = [i, j].length then Ax.R.ok Fl.next (setAll s2 [i, j] vs) else .bad
      | none => .bad) := gd
  refine tXs.step R Stp.refl (good_bind.mp gd) fun rs s1 F1 H1 R1 _ st1 g1 xs ok1 => ?_
  split at g1
  · rename_i vs s2 hg
    split at g1
    · rename_i hl
      obtain ⟨F2, R2, st2, ok2, tm, _⟩ := Rel.givingAll (w := ⟨F1, s1, σ, H1⟩) R1 st1 ok1 hg
      have hlen := ok2.length
      rw [List.length_map, hl] at hlen
      match xs, hlen with
      | [x1, x2], _ =>
        obtain ⟨R3, st3⟩ := Rel.setAll (is := [i, j]) (w := ⟨F2, s2, σ, H1⟩) R2 st2 ok2
        exact ⟨x1, x2, rfl, g1 F2 _ H1 R3 st3⟩
    · exact g1.elim
  · exact g1.elim
/-- two names, two values, by way of a tuple -/
theorem snd_gen (g : GX fnm kwt call ad X c) {i j : Nat} {y z : Str} {py pz : Pos} {kk k2 : Nat} (hp : genOk c i j y z = true) (hx : okXs fnm kwt c as [l, r] = true) :
    PS X (.Assign [.Tuple [.Name y py, .Name z pz] kk q] (.Tuple [l, r] k2 q') p) (tS call X.K ad κ (.asgN [i, j] as)) := by
  unfold genOk at hp
  simp only [Bool.and_eq_true, Bool.not_eq_true', Bool.and_eq_false_iff, decide_eq_false_iff_not] at hp
  obtain ⟨⟨h0, h1⟩, h2⟩ := hp
  obtain ⟨n1, n2, n3⟩ := g.loc h1
  obtain ⟨m1, m2, m3⟩ := g.loc h2
  have hw : swappedStores [.Tuple [.Name y py, .Name z pz] kk q] (.Tuple [l, r] k2 q') X.env = pure none := by
    have ky : X.env.kindOf y = c.sc.names.lookup y := by show X.env.scope.names.lookup y = _; rw [g.sc]
    have kz : X.env.kindOf z = c.sc.names.lookup z := by show X.env.scope.names.lookup z = _; rw [g.sc]
    unfold swappedStores
    have one : ∀ (u : Str) (pu : Pos), c.sc.names.lookup u ≠ some .local → (X.env.kindOf u == some NameKind.local && pu.line == py.line) = false := fun u pu hu => by
      have : X.env.kindOf u = c.sc.names.lookup u := by show X.env.scope.names.lookup u = _; rw [g.sc]
      rw [this]
      have : (c.sc.names.lookup u == some NameKind.local) = false := by
        cases e : c.sc.names.lookup u with
        | none => rfl
        | some k => cases k <;> first | rfl | exact (hu e).elim
      rw [this]; rfl
    simp only [List.length_cons, List.length_nil, List.head?_cons, Option.map_some, Option.getD_some, List.filterMap_cons, List.filterMap_nil, Expr.pos]
    split
    · rfl
    · split
      · rfl
      · refine if_pos ?_
        rcases h0 with h0 | h0
        · have e := one y py h0
          simp only [e, Bool.false_eq_true, if_false]
          by_cases hz : (X.env.kindOf z == some NameKind.local && pz.line == py.line) = true
          · simp only [hz, if_true]; rfl
          · simp only [Bool.eq_false_iff.mpr hz, Bool.false_eq_true, if_false]; rfl
        · have e := one z pz h0
          simp only [e, Bool.false_eq_true, if_false]
          by_cases hz : (X.env.kindOf y == some NameKind.local && py.line == py.line) = true
          · simp only [hz, if_true]; rfl
          · simp only [Bool.eq_false_iff.mpr hz, Bool.false_eq_true, if_false]; rfl
  refine PS.imp (ps_asg (pe_tup (sEs (κ := κ) as [l, r] g hx).1) (pg_tup (n := 2) g.calm (pgs_cons (pg_name g.nd n1 n2 n3) (pgs_cons (pg_name g.nd m1 m2 m3) pgs_nil rfl) rfl) rfl rfl) rfl hw rfl) fun D σ H ⟨F, s, R, gd⟩ => ?_
  have gd : Good _ ((evXs call as s).bind fun rs s1 => match giveAll s1 rs with
      | some (vs, s2) => if vs.length = [i, j].length then Ax.R.ok Fl.next (setAll s2 [i, j] vs) else .bad
      | none => .bad) := gd
  show tXs call X.K ad κ as σ H (fun xs H1 => xs.length ≤ sizeLine ∧ ∀ b, H1 b = none → gTup X.K 2 (gCons (gName i) (gCons (gName j) gNil)) (.ref b) σ (upd H1 b (.tup xs)) D.nx)
  refine tXs.step R Stp.refl (good_bind.mp gd) fun rs s1 F1 H1 R1 _ st1 g1 xs ok1 => ?_
  split at g1
  · rename_i vs s2 hg
    split at g1
    · rename_i hl
      have key : ∀ b, H1 b = none → xs.length = 2 ∧ ∀ x1 x2, xs = [x1, x2] → D.nx ((σ.set i (some x1)).set j (some x2)) (upd H1 b (.tup xs)) := fun b hb => by
        have Rn : Rel X.K ad κ ⟨F1, s1, σ, upd H1 b (.tup xs)⟩ := Rel.new (w := ⟨F1, s1, σ, H1⟩) R1 hb
        have stn : Stp κ noT ⟨F1, s1, σ, H1⟩ ⟨F1, s1, σ, upd H1 b (.tup xs)⟩ := Stp.new hb
        obtain ⟨F2, R2, st2, ok2, tm, _⟩ := Rel.givingAll (w0 := ⟨F, s, σ, H⟩) (w := ⟨F1, s1, σ, upd H1 b (.tup xs)⟩) Rn (st1.tr stn) (ok1.step stn rfl fun _ _ z => z) hg
        have hlen := ok2.length
        rw [List.length_map, hl] at hlen
        refine ⟨hlen, fun x1 x2 e => ?_⟩
        subst e
        obtain ⟨R3, st3⟩ := Rel.setAll (is := [i, j]) (w := ⟨F2, s2, σ, upd H1 b (.tup [x1, x2])⟩) R2 st2 ok2
        exact g1 F2 _ _ R3 st3
      refine ⟨?_, fun b hb => ?_⟩
      · have e2 := giveAll_len hg
        have e3 : rs.length = 2 := by rw [← e2, hl]; rfl
        rw [ok1.length, e3]; decide
      · obtain ⟨h2, hn⟩ := key b hb
        match xs, h2 with
        | [x1, x2], _ => exact ⟨b, [x1, x2], rfl, SqT.of upd_same, rfl, x1, [x2], rfl, x2, [], rfl, rfl, hn x1 x2 rfl⟩
    · exact g1.elim
  · exact g1.elim
theorem snd_asgIx (g : GX fnm kwt call ad X c) {i : Nat} {y : Str} {py pp : Pos} {q : Expr} (hn : nameOk c i y = true) (hq : okE fnm kwt c k q = true) (hsl : notSlice q = true) (hx : okE fnm kwt c x e = true) (hc : notComp e = true) :
    PS X (.Assign [.Subscript (.Name y py) q pp] e p) (tS call X.K ad κ (.asgIx i k x)) := by
  obtain ⟨h1, h2, h3, h4⟩ := g.name hn
  refine PS.imp (ps_asg (sE (κ := κ) x e g hx).1 (pg_sub (pe_var h1 h2 h3 h4) (sE (κ := κ) k q g hq).1 set_list (by intro v; cases q <;> first | rfl | cases hsl)) (show swapsWithSole [.Subscript (.Name y py) q pp] e p.line X.env = pure false from swaps_no (t := some (.Subscript (.Name y py) q pp)) (n := p.line) (env := X.env) hc) stores_sub rfl) fun D σ H ⟨F, s, R, gd⟩ => ?_
  have gd : Good _ ((evE call x s).bind fun r s1 => if ownS s1 i = true then (evE call k s1).bind fun q s2 => kSet i r q s2 else Ax.R.bad) := gd
  refine tE.step R Stp.refl (good_bind.mp gd) fun rv s1 F1 H1 R1 st st1 g1 v1 ok1 fr1 => ?_
  split at g1
  · rename_i ho
    obtain ⟨z, vs, hz, hv⟩ := ownS_at R1 ho
    refine ⟨_, hz, ?_⟩
    refine tE.step R1 st1 (good_bind.mp g1) fun q s2 F2 H2 R2 st2 st2' g2 v2 ok2 fr2 => ?_
    unfold kSet at g2
    split at g2
    · rename_i d s3 hf
      obtain ⟨F3, R3, st3, _, rp⟩ := Rel.freeze0 (w0 := ⟨F, s, σ, H⟩) (w := ⟨F2, s2, σ, H2⟩) R2 st2' (ok1.step0 st2 rfl) fr1 hf
      split at g2
      · rename_i j ds hs3
        split at g2
        · rename_i hj
          cases ok2.1
          obtain ⟨z2, vs2, e1, e2, e3, wr⟩ := Rel.writeL R3 hs3
          have e1 : σ[i]? = _ := e1
          rw [hz] at e1; cases e1
          obtain ⟨R4, st4⟩ := wr _ _ (e3.set j.toNat rp)
          have ix : ixN vs2.length j = some j.toNat := by
            unfold ixN
            rw [if_pos hj.1, if_pos (by rw [e3.length]; exact hj.2)]
          exact ⟨z, vs2, j, j.toNat, rfl, rfl, e2, ix, g2 F3 σ _ R4 (st3.tr st4)⟩
        · exact g2.elim
      · exact g2.elim
    · exact g2.elim
  · exact g1.elim
theorem snd_dPut (g : GX fnm kwt call ad X c) {i : Nat} {y : Str} {py pp : Pos} {q : Expr} (hn : nameOk c i y = true) (hq : okE fnm kwt c k q = true) (hsl : notSlice q = true) (hx : okE fnm kwt c x e = true) (hc : notComp e = true) :
    PS X (.Assign [.Subscript (.Name y py) q pp] e p) (tS call X.K ad κ (.dPut i k x)) := by
  obtain ⟨h1, h2, h3, h4⟩ := g.name hn
  have hu : X.A.units + 1 < cLine := by have := g.un; omega
  refine PS.imp (ps_dput hu (pe_var h1 h2 h3 h4) (sE (κ := κ) k q g hq).1 (sE (κ := κ) x e g hx).1 (swaps_no hc)) fun D σ H ⟨F, s, R, gd⟩ => ?_
  have gd : Good _ ((evE call x s).bind fun r s1 => if dctS s1 i = true then (evE call k s1).bind fun q s2 => kDPut i r q s2 else Ax.R.bad) := gd
  refine tE.step R Stp.refl (good_bind.mp gd) fun rv s1 F1 H1 R1 st st1 g1 v1 ok1 fr1 => ?_
  split at g1
  · rename_i ho
    obtain ⟨z, hz⟩ := dctS_at R1 ho
    refine ⟨_, hz, ?_⟩
    refine tE.step R1 st1 (good_bind.mp g1) fun q s2 F2 H2 R2 st2 st2' g2 v2 ok2 fr2 => ?_
    unfold kDPut at g2
    split at g2
    · rename_i d s3 hf
      obtain ⟨F3, R3, st3, st3', rp⟩ := Rel.freeze0 (w0 := ⟨F, s, σ, H⟩) (w := ⟨F2, s2, σ, H2⟩) R2 st2' (ok1.step0 st2 rfl) fr1 hf
      split at g2
      · rename_i kd bb kvs hs3
        split at g2
        · rename_i kk hk
          split at g2
          · rename_i hl
            obtain ⟨z2, u, vs, e1, e2, e3, e4, wr⟩ := Rel.dct R3 hs3
            have e1 : σ[i]? = _ := e1
            rw [hz] at e1; cases e1
            have ry : RepD X.K F3 v2 kd := RepD.mono st3'.ff ok2.1
            obtain ⟨u', o', pt⟩ := dct_put R3.fh e2 e3 ry hk (v := v1) (by rw [e4.length, line_eq]; exact hl)
            obtain ⟨R4, st4⟩ := wr _ _ u' o' (e4.put kk rp)
            exact ⟨z, _, rfl, pt, g2 F3 σ _ R4 (st3.tr st4)⟩
          · exact g2.elim
        · exact g2.elim
      · exact g2.elim
    · exact g2.elim
  · exact g1.elim
theorem snd_aug (g : GX fnm kwt call ad X c) {i : Nat} {op : Operator} {y : Str} {py : Pos} (hop : op = .Add ∨ op = .Sub) (hl : locOk c i y = true) (hx : okE fnm kwt c x e = true) : PS X (.AugAssign (.Name y py) op e p) (tS call X.K ad κ (.aug i op x)) := by
  obtain ⟨h1, h2, h3⟩ := g.loc hl
  have key : ∀ {D : Ends} {σ : L2.St} {H : Hp}, tS call X.K ad κ (.aug i op x) D σ H → ∃ a, σ[i]? = some (some (.int a)) ∧ tE call X.K ad κ x σ H fun y H1 => ∃ b, y = .int b ∧ ((op = .Add ∧ D.nx (σ.set i (some (.int (a + b)))) H1) ∨ (op = .Sub ∧ D.nx (σ.set i (some (.int (a - b)))) H1)) := fun {D σ H} ⟨F, s, R, gd⟩ => by
    have gd : Good _ (match s.at i with
      | some (.fro (.int a)) => (evE call x s).bind fun r s1 => match r with
        | .m (.fro (.int b)) => match op with
          | .Add => Ax.R.ok Fl.next (s1.set i (.fro (.int (a + b))))
          | .Sub => .ok .next (s1.set i (.fro (.int (a - b))))
          | _ => .bad
        | _ => .bad
      | _ => .bad) := gd
    split at gd
    · rename_i a ha
      obtain ⟨y, hy, hm⟩ := R.at ha
      have hm : RepD X.K F y (.int a) := hm
      cases hm
      refine ⟨a, hy, tE.step R Stp.refl (good_bind.mp gd) fun rv s1 F1 H1 R1 st st1 g1 v1 ok1 fr1 => ?_⟩
      split at g1
      · rename_i b
        cases ok1.1
        split at g1
        · obtain ⟨R2, st2⟩ := Rel.setd (i := i) (x := .int (a + b)) R1 (.int (a + b))
          exact ⟨b, rfl, .inl ⟨rfl, g1 F1 _ H1 R2 (st1.tr st2)⟩⟩
        · obtain ⟨R2, st2⟩ := Rel.setd (i := i) (x := .int (a - b)) R1 (.int (a - b))
          exact ⟨b, rfl, .inr ⟨rfl, g1 F1 _ H1 R2 (st1.tr st2)⟩⟩
        · exact g1.elim
      · exact g1.elim
    · exact gd.elim
  rcases hop with rfl | rfl
  · refine PS.imp (ps_aug g.nd h1 h2 (sE (κ := κ) x e g hx).1 ip_add h3) fun D σ H h => ?_
    obtain ⟨a, ha, F, s, R, gd⟩ := key h
    refine ⟨.int a, ha, F, s, R, gd.mono fun r s1 q F' H' R' st' v ok fr => ?_⟩
    obtain ⟨b, rfl, hq⟩ := q F' H' R' st' v ok fr
    rcases hq with ⟨_, hq⟩ | ⟨hq, _⟩
    · exact ⟨a, b, rfl, rfl, hq⟩
    · cases hq
  · refine PS.imp (ps_aug g.nd h1 h2 (sE (κ := κ) x e g hx).1 ip_sub h3) fun D σ H h => ?_
    obtain ⟨a, ha, F, s, R, gd⟩ := key h
    refine ⟨.int a, ha, F, s, R, gd.mono fun r s1 q F' H' R' st' v ok fr => ?_⟩
    obtain ⟨b, rfl, hq⟩ := q F' H' R' st' v ok fr
    rcases hq with ⟨hq, _⟩ | ⟨_, hq⟩
    · cases hq
    · exact ⟨a, b, rfl, rfl, hq⟩
theorem snd_expr (g : GX fnm kwt call ad X c) (hx : okE fnm kwt c x e = true) (hc : notComp e = true) : PS X (.Expr e p) (tS call X.K ad κ (.expr x)) := by
  refine PS.imp (ps_expr (sE (κ := κ) x e g hx).1 (swaps_no hc)) fun D σ H ⟨F, s, R, gd⟩ => ?_
  have gd : Good _ ((evE call x s).bind fun _ s1 => Ax.R.ok Fl.next s1) := gd
  exact tE.step R Stp.refl (good_bind.mp gd) fun rv s1 F1 H1 R1 _ st1 g1 v1 ok1 fr1 => g1 F1 σ H1 R1 st1
theorem snd_ret (g : GX fnm kwt call ad X c) (hx : okE fnm kwt c x e = true) : PS X (.Return (some e) p) (tS call X.K ad κ (.ret x)) := by
  refine PS.imp (ps_ret (sE (κ := κ) x e g hx).1) fun D σ H ⟨F, s, R, gd⟩ => ?_
  have gd : Good _ ((evE call x s).bind fun r s1 => match back s1 r with
      | some (v, s2) => Ax.R.ok (Fl.ret v) s2
      | none => .bad) := gd
  refine tE.step R Stp.refl (good_bind.mp gd) fun rv s1 F1 H1 R1 _ st1 g1 v1 ok1 fr1 => ?_
  cases hb : back s1 rv with
  | none => rw [hb] at g1; exact g1.elim
  | some pr =>
    obtain ⟨v, s2⟩ := pr
    rw [hb] at g1
    cases rv with
    | m z =>
      have hb : some (z, s1) = some (v, s2) := hb
      cases hb
      exact g1 F1 σ H1 v1 R1 st1 ⟨ok1.1, fun a t => ⟨fun j v' => ok1.2 a t _ v', .inl (fr1 a t)⟩⟩
    | bor i =>
      have hb : (match s1.r[i]? with
        | some (.m (.lst ds)) => some (M.lst ds, s1)
        | _ => (frz s1 (.bor i)).map fun (d, s1) => (M.fro d, s1)) = some (v, s2) := hb
      split at hb
      · rename_i ds hi
        cases hb
        obtain ⟨y, hy, hm⟩ := R1.sl i _ hi
        have ok1 : σ[i]? = some (some v1) := ok1
        have hy : σ[i]? = _ := hy
        rw [ok1] at hy
        cases hy
        refine g1 F1 σ H1 v1 R1 st1 ⟨hm, fun a t => ?_⟩
        have oa : OwnAt κ ⟨F1, s1, σ, H1⟩ (.inl i) a (.lst ds) := ⟨hi, rfl, by rw [ok1, t.2]⟩
        exact ⟨(fun j v' q => by have := R1.ap _ _ _ _ _ q oa; cases this), .inr ⟨i, _, oa⟩⟩
      · obtain ⟨⟨d, s3⟩, hf, e⟩ := Option.map_eq_some_iff.mp hb
        cases e
        obtain ⟨F3, R3, st3, _, rp⟩ := Rel.freeze0 (w0 := ⟨F, s, σ, H⟩) (w := ⟨F1, s1, σ, H1⟩) R1 st1 ok1 fr1 hf
        exact g1 F3 σ H1 v1 R3 st3 ⟨rp, fun a t => (noTmp t).elim⟩
theorem snd_retN : PS X (.Return none p) (tS call X.K ad κ .retN) := PS.imp ps_retN fun D σ H ⟨F, s, R, gd⟩ => by
  have gd : Good (PostS X.K ad κ ⟨F, s, σ, H⟩ D) (Ax.R.ok (Fl.ret (.fro .none)) s) := gd
  exact gd F σ H .non R Stp.refl ⟨.non, fun a t => (noTmp t).elim⟩
theorem snd_pass : PS X (.Pass p) (tS call X.K ad κ .pass) := PS.imp ps_pass fun D σ H ⟨F, s, R, gd⟩ => by
  have gd : Good (PostS X.K ad κ ⟨F, s, σ, H⟩ D) (Ax.R.ok Fl.next s) := gd
  exact gd F σ H R Stp.refl
theorem snd_snil : PSs X [] (tSs call X.K ad κ .nil) := PSs.imp pss_nil fun D σ H ⟨F, s, R, gd⟩ => by
  have gd : Good (PostS X.K ad κ ⟨F, s, σ, H⟩ D) (Ax.R.ok Fl.next s) := gd
  exact gd F σ H R Stp.refl
theorem snd_scons {st : Stmt} {sts : List Stmt} {a : St} {as : Sts} (h1 : PS X st (tS call X.K ad κ a)) (h2 : PSs X sts (tSs call X.K ad κ as)) : PSs X (st :: sts) (tSs call X.K ad κ (.cons a as)) := PSs.imp (pss_cons h1 h2) fun D σ H ⟨F, s, R, gd⟩ => by
  have gd : Good (PostS X.K ad κ ⟨F, s, σ, H⟩ D) ((evS call a s).bind fun f s1 => match f with
      | .next => evSs call as s1
      | .ret v => Ax.R.ok (Fl.ret v) s1) := gd
  refine ⟨F, s, R, (good_bind.mp gd).mono fun fl s1 q => ?_⟩
  cases fl with
  | next =>
    have q : Good (PostS X.K ad κ ⟨F, s, σ, H⟩ D) (evSs call as s1) := q
    exact fun F1 σ1 H1 R1 st1 => ⟨F1, s1, R1, q.mono fun fl s2 z => z.later st1⟩
  | ret v => exact fun F1 σ1 H1 y R1 st1 rt => q F1 σ1 H1 y R1 st1 rt
theorem snd_if {a b : Sts} {s1 s2 : List Stmt} (hk : PT X e (tT call X.K ad κ k)) (ha : PSs X s1 (tSs call X.K ad κ a)) (hb : PSs X s2 (tSs call X.K ad κ b)) : PS X (.If e s1 s2 p) (tS call X.K ad κ (.ite k a b)) := PS.imp (ps_if hk ha hb) fun D σ H ⟨F, s, R, gd⟩ => by
  have gd : Good (PostS X.K ad κ ⟨F, s, σ, H⟩ D) ((tst (evE call k s)).bind fun z s1 => if z = true then evSs call a s1 else evSs call b s1) := gd
  refine tT.step R Stp.refl (good_bind.mp gd) fun z s1 F1 H1 R1 st st1 g1 => ?_
  cases z with
  | true => exact ⟨F1, s1, R1, Good.mono (show Good _ (evSs call a s1) from g1) fun fl s2 z => z.later st1⟩
  | false => exact ⟨F1, s1, R1, Good.mono (show Good _ (evSs call b s1) from g1) fun fl s2 z => z.later st1⟩
theorem snd_while {b : Sts} {body : List Stmt} (hp : PassesOwn (model X.prog X.w) X.A X.env X.xe) (hk : PT X e (tT call X.K ad κ k)) (hb : PSs X body (tSs call X.K ad κ b)) : PS X (.While e body [] p) (tS call X.K ad κ (.while_ k b)) := PS.imp (ps_while hp hk hb) fun D σ H ⟨F0, s0, R0, gd⟩ => by
  have gd : Good (PostS X.K ad κ ⟨F0, s0, σ, H⟩ D) (whileGo (fun s => tst (evE call k s)) (fun s => evSs call b s) most s0) := gd
  refine ⟨fun m σ' H' => ∃ F s, Rel X.K ad κ ⟨F, s, σ', H'⟩ ∧ Stp κ noT ⟨F0, s0, σ, H⟩ ⟨F, s, σ', H'⟩ ∧ Good (PostS X.K ad κ ⟨F0, s0, σ, H⟩ D) (whileGo (fun s => tst (evE call k s)) (fun s => evSs call b s) m s), ⟨most, F0, s0, R0, Stp.refl, gd⟩, ?_⟩
  rintro m σ' H' ⟨F, s, R, st, g⟩
  cases m with
  | zero => exact g.elim
  | succ m =>
    have g : Good (PostS X.K ad κ ⟨F0, s0, σ, H⟩ D) ((tst (evE call k s)).bind fun z s1 => if z = true then (evSs call b s1).bind fun f s2 => match f with
        | .next => whileGo (fun s => tst (evE call k s)) (fun s => evSs call b s) m s2
        | .ret v => Ax.R.ok (Fl.ret v) s2
      else .ok Fl.next s1) := g
    refine tT.step R st (good_bind.mp g) fun z s1 F1 H1 R1 st1 st1' g1 => ?_
    cases z with
    | true =>
      refine ⟨_, fun σ2 H2 hN => ⟨m, Nat.lt_succ_self m, hN⟩, F1, s1, R1, ?_⟩
      have g1 : Good (PostS X.K ad κ ⟨F0, s0, σ, H⟩ D) ((evSs call b s1).bind fun f s2 => match f with
        | .next => whileGo (fun s => tst (evE call k s)) (fun s => evSs call b s) m s2
        | .ret v => Ax.R.ok (Fl.ret v) s2) := g1
      refine (good_bind.mp g1).mono fun fl s2 q => ?_
      cases fl with
      | next => exact fun F2 σ2 H2 R2 st2 => ⟨F2, s2, R2, st1'.tr st2, q⟩
      | ret v => exact fun F2 σ2 H2 y R2 st2 rt => q F2 σ2 H2 y R2 (st1'.tr st2) ⟨rt.rel, fun a t => ⟨(rt.own a t).1, (rt.own a t).2.imp (st1'.dm a) id⟩⟩
    | false =>
      have g1 : Good (PostS X.K ad κ ⟨F0, s0, σ, H⟩ D) (Ax.R.ok Fl.next s1) := g1
      exact g1 F1 σ' H1 R1 st1'
end
end Ax
/-! A19: for; every statement. -/
namespace Ax
open PySem PySem.Spec PyProof.Rows L2
section
variable {fnm : Nat → Str} {kwt : List (Nat × List Str × List Nat)} {call : Nat → List Arg → List M → R (List M) M} {K : PySem.W.Frag} {ad : Nat → Addr} {κ : List Addr} {X : Cx} {c : MC} {e l r tg : Expr} {a b k x : Ex} {p q p' q' : Pos} {es : List Expr} {as bs : Xs}
variable {F H : Hp} {s : S} {σ : L2.St} {D : Ends}
theorem unlocked_own' {w w2 : Wd} {rv : Rv} {o : Own} {z : Addr} {v : M} (q : OwnAt κ w2 o z v) : ∃ v', OwnAt κ ⟨w2.F, unlockS w.s w2.s rv, w2.σ, w2.H⟩ o z v' := by
  cases rv with
  | m _ => exact ⟨v, q⟩
  | bor i =>
    show ∃ v', OwnAt κ ⟨w2.F, unlockO w.s w2.s i (ownerOf w.s i), w2.σ, w2.H⟩ o z v'
    cases ho : ownerOf w.s i with
    | none => exact ⟨v, q⟩
    | some o1 =>
      show ∃ v', OwnAt κ ⟨w2.F, (match w.s.at i, w2.s.get o1 with
        | some (.lst _), some (.lock ds) => w2.s.upO o1 (.lst ds)
        | _, _ => w2.s), w2.σ, w2.H⟩ o z v'
      split
      · rename_i d0 ds h1 h2
        obtain ⟨g1, g2, g3⟩ := own_iff.mp q
        by_cases e : o = o1
        · subst e
          exact ⟨.lst ds, own_iff.mpr ⟨upO_get h2, rfl, g3⟩⟩
        · refine ⟨v, own_iff.mpr ⟨?_, g2, g3⟩⟩
          show (w2.s.upO o1 (.lst ds)).get o = some v
          rw [upO_get_ne e]; exact g1
      · exact ⟨v, q⟩
theorem snd_for (g0 : GX fnm kwt call ad X c) {t : T} {it : I} {b : Sts} {body : List Stmt} {iter : Expr} (hp : PassesOwn (model X.prog X.w) X.A X.env X.xe) (hi : PI X tg iter (tI call X.K ad κ it)) (hn : notSet iter = true) (hg : PG X tg (tTg X.K ad κ t)) (hb : PSs X body (tSs call X.K ad κ b)) :
    PS X (.For tg iter body [] p) (tS call X.K ad κ (.for_ t it b)) := PS.imp (ps_for hp g0.calm hi hg hb (fold_no hn)) fun D σ H ⟨F0, s0, R0, gd⟩ => by
  have gd : Good (PostS X.K ad κ ⟨F0, s0, σ, H⟩ D) ((evI call it s0).bind fun pr s1 =>
      forEnd s1 pr.1 (forGo (fun d s => match bindT t d s with
        | some s3 => evSs call b s3
        | none => .bad) pr.2 (lockS s1 pr.1))) := gd
  generalize hturn : (fun (d : PyData) (s : S) => (match bindT t d s with
        | some s3 => evSs call b s3
        | none => Ax.R.bad)) = turn at gd
  refine tI.step R0 Stp.refl (good_bind.mp gd) fun pr s1 F1 H1 R1 _ st1 g1 J wk => ?_
  obtain ⟨rv, ds⟩ := pr
  obtain ⟨Rl, stl⟩ := Rel.locked R1 rv
  have g1 : Good (fun fl s2 => PostS X.K ad κ ⟨F0, s0, σ, H⟩ D fl (unlockS s1 s2 rv)) (forGo turn ds (lockS s1 rv)) := by
    have g1 : Good (PostS X.K ad κ ⟨F0, s0, σ, H⟩ D) (forEnd s1 rv (forGo turn ds (lockS s1 rv))) := g1
    cases e : forGo turn ds (lockS s1 rv) with
    | ok fl s2 => rw [e] at g1; exact g1
    | exc c d s2 => rw [e] at g1; exact g1.elim
    | bad => rw [e] at g1; exact g1.elim
  refine ⟨fun i m σ' H' => m = ds.length - i ∧ i ≤ ds.length ∧ ∃ F s, Rel X.K ad κ ⟨F, s, σ', H'⟩ ∧ Stp κ noT ⟨F1, lockS s1 rv, σ, H1⟩ ⟨F, s, σ', H'⟩ ∧
    Good (fun fl s2 => PostS X.K ad κ ⟨F0, s0, σ, H⟩ D fl (unlockS s1 s2 rv)) (forGo turn (ds.drop i) s), ⟨ds.length, by simp, Nat.zero_le _, F1, lockS s1 rv, Rl, Stp.refl, by rw [List.drop_zero]; exact g1⟩, ?_⟩
  rintro i m σ' H' ⟨rfl, hile, F, s, R, st, g⟩
  by_cases hlt : i < ds.length
  · have hd : ds[i]? = some ds[i] := List.getElem?_eq_getElem hlt
    have ed : ds.drop i = ds[i] :: ds.drop (i + 1) := List.drop_eq_getElem_cons hlt
    rw [ed] at g
    have g : Good _ ((turn ds[i] s).bind fun f s1 => match f with
      | .next => forGo turn (ds.drop (i + 1)) s1
      | .ret v => Ax.R.ok (Fl.ret v) s1) := g
    have g := good_bind.mp g
    obtain ⟨go, yl⟩ := (wk _ Hid.refl ⟨F, s, σ', H'⟩ R st).1 i ds[i] hd
    refine .inr ⟨go, fun σ2 H2 => ds.length - (i + 1) = ds.length - (i + 1) ∧ i + 1 ≤ ds.length ∧ ∃ F s, Rel X.K ad κ ⟨F, s, σ2, H2⟩ ∧ Stp κ noT ⟨F1, lockS s1 rv, σ, H1⟩ ⟨F, s, σ2, H2⟩ ∧
      Good (fun fl s2 => PostS X.K ad κ ⟨F0, s0, σ, H⟩ D fl (unlockS s1 s2 rv)) (forGo turn (ds.drop (i + 1)) s), fun σ2 H2 hN => ⟨ds.length - (i + 1), by omega, hN⟩, fun v H2 y => ?_⟩
    have hy : ∃ F', Rel X.K ad κ ⟨F', s, σ', H2⟩ ∧ Stp κ noT ⟨F, s, σ', H'⟩ ⟨F', s, σ', H2⟩ ∧ RepD X.K F' v ds[i] := by
      rcases yl v H2 y with ⟨e, rp⟩ | ⟨z, u, hz, e, rp⟩
      · have e : H2 = H' := e
        subst e
        exact ⟨F, R, Stp.refl, rp⟩
      · have e : H2 = upd H' z u := e
        subst e
        obtain ⟨R2, st2, _⟩ := Rel.newF (w := ⟨F, s, σ', H'⟩) (u := u) R hz
        exact ⟨upd F z u, R2, st2, rp⟩
    obtain ⟨F', R', st', rp⟩ := hy
    rw [← hturn] at g
    have g : Good (fun f s1_1 => Good (fun fl s2 => PostS X.K ad κ ⟨F0, s0, σ, H⟩ D fl (unlockS s1 s2 rv)) (match f with
      | .next => forGo (fun d s => match bindT t d s with
        | some s3 => evSs call b s3
        | none => Ax.R.bad) (ds.drop (i + 1)) s1_1
      | .ret v => Ax.R.ok (Fl.ret v) s1_1)) (match bindT t ds[i] s with
        | some s3 => evSs call b s3
        | none => Ax.R.bad) := g
    cases hs3 : bindT t ds[i] s with
    | none => rw [hs3] at g; exact g.elim
    | some s3 =>
      rw [hs3] at g
      rw [hturn] at g
      refine ⟨F', s, ds[i], s3, R', rp, hs3, fun σ2 R2 st2 _ => ⟨F', s3, R2, g.mono fun fl s4 q => ?_⟩⟩
      have base : Stp κ noT ⟨F1, lockS s1 rv, σ, H1⟩ ⟨F', s3, σ2, H2⟩ := (st.tr st').tr st2
      cases fl with
      | next => exact fun F4 σ4 H4 R4 st4 => ⟨rfl, hlt, F4, s4, R4, base.tr st4, q⟩
      | ret v =>
        intro F4 σ4 H4 y R4 st4 rt
        obtain ⟨Ru, stu⟩ := Rel.unlocked (w := ⟨F1, s1, σ, H1⟩) (w2 := ⟨F4, s4, σ4, H4⟩) R1 R4 rv (base.tr st4)
        have q : PostS X.K ad κ ⟨F0, s0, σ, H⟩ D (.ret v) (unlockS s1 s4 rv) := q
        refine q F4 σ4 H4 y Ru (st1.tr stu) ⟨rt.rel, fun a ta => ⟨fun j v' qq => ?_, ?_⟩⟩
        · obtain ⟨v2, q2⟩ := unlocked_own (w := ⟨F1, s1, σ, H1⟩) (w2 := ⟨F4, s4, σ4, H4⟩) qq
          exact (rt.own a ta).1 j v2 q2
        · rcases (rt.own a ta).2 with z | ⟨i2, v2, z⟩
          · exact .inl (st1.dm a (stl.dm a (base.dm a z)))
          · obtain ⟨v3, z3⟩ := unlocked_own' (w := ⟨F1, s1, σ, H1⟩) (rv := rv) z
            exact .inr ⟨i2, v3, z3⟩
  · have e : i = ds.length := by omega
    subst e
    rw [List.drop_length] at g
    have g : PostS X.K ad κ ⟨F0, s0, σ, H⟩ D .next (unlockS s1 s rv) := g
    obtain ⟨Ru, stu⟩ := Rel.unlocked (w := ⟨F1, s1, σ, H1⟩) (w2 := ⟨F, s, σ', H'⟩) R1 R rv st
    exact .inl ⟨(wk _ Hid.refl ⟨F, s, σ', H'⟩ R st).2, g F σ' H' Ru (st1.tr stu)⟩
mutual
theorem sS (g : GX fnm kwt call ad X c) (hkind : X.env.scope.kind = .function) (hp : PassesOwn (model X.prog X.w) X.A X.env X.xe) : ∀ (a : St) (st : Stmt), okS fnm kwt c a st = true → PS X st (tS call X.K ad κ a)
  | .asg (.nm i) x, st, h => by
    obtain ⟨y, py, e, p, rfl, h1, h2, h3⟩ := ok_asg h
    exact snd_asg g hkind h1 h2 h3
  | .asg (.tp ts) x, st, h => by
    obtain ⟨tg, e, p, rfl, h1, h2, h3, h4⟩ := ok_asgT h
    exact snd_asgT g h1 h2 h3 h4
  | .asgN is as, st, h => by
    obtain ⟨i, j, x, y, px, py, a, b, kk, q, k2, q2, p, rfl, rfl, h1, h2, h3, h4, h5⟩ := ok_asgN h
    rcases h4 with h4 | h4
    · exact snd_par g hkind h1 h2 h3 h4 h5
    · exact snd_gen g h4 h5
  | .dPut i k x, st, h => by
    obtain ⟨y, py, q, p', e, p, rfl, h1, h2, h3, h4, h5⟩ := ok_dPut h
    exact snd_dPut g h1 h2 h3 h4 h5
  | .asgIx i k x, st, h => by
    obtain ⟨y, py, q, p', e, p, rfl, h1, h2, h3, h4, h5⟩ := ok_asgIx h
    exact snd_asgIx g h1 h2 h3 h4 h5
  | .aug i op x, st, h => by
    obtain ⟨y, py, e, p, rfl, h0, h1, h2⟩ := ok_aug h
    exact snd_aug g h0 h1 h2
  | .expr x, st, h => by
    obtain ⟨e, p, rfl, h1, h2⟩ := ok_expr h
    exact snd_expr g h1 h2
  | .ret x, st, h => by
    obtain ⟨e, p, rfl, h1⟩ := ok_ret h
    exact snd_ret g h1
  | .retN, st, h => by
    obtain ⟨p, rfl⟩ := ok_retN h
    exact snd_retN
  | .ite k a b, st, h => by
    obtain ⟨e, s1, s2, p, rfl, h1, h2, h3, h4⟩ := ok_iteS h
    exact snd_if ((sE k e g h1).2 h2) (sSs g hkind hp a s1 h3) (sSs g hkind hp b s2 h4)
  | .for_ t it b, st, h => by
    obtain ⟨tg, iter, body, p, rfl, h1, h2, h3⟩ := ok_for h
    exact snd_for g hp (sI it tg iter g h1) (okI_notSet h1) (snd_tg g h2) (sSs g hkind hp b body h3)
  | .while_ k b, st, h => by
    obtain ⟨e, body, p, rfl, h1, h2, h3⟩ := ok_while h
    exact snd_while hp ((sE k e g h1).2 h2) (sSs g hkind hp b body h3)
  | .pass, st, h => by
    obtain ⟨p, rfl⟩ := ok_pass h
    exact snd_pass
  | .never, st, h => ⟨fun pins s σ H D I ⟨F, s0, R, gd⟩ => gd.elim⟩
theorem sSs (g : GX fnm kwt call ad X c) (hkind : X.env.scope.kind = .function) (hp : PassesOwn (model X.prog X.w) X.A X.env X.xe) : ∀ (a : Sts) (sts : List Stmt), okSs fnm kwt c a sts = true → PSs X sts (tSs call X.K ad κ a)
  | .nil, sts, h => by
    rw [ok_snil h]
    exact snd_snil
  | .cons a as, sts, h => by
    obtain ⟨s1, ss, rfl, h1, h2⟩ := ok_scons h
    exact snd_scons (sS g hkind hp a s1 h1) (sSs g hkind hp as ss h2)
end
end
end Ax
/-! A20: defs; the law's call. -/
namespace Ax
open PySem PySem.Spec PyProof.Rows L2
section
variable {K : PySem.W.Frag} {ad : Nat → Addr} {κ : List Addr} {F H : Hp} {s : S} {σ : L2.St}
/-- a def keeps its promise, by its body -/
theorem fnG_of {CX : CXT} {P : Program} {w : World} {mg : Str → Option Value} {base : Heap} {k : Nat} {f : Addr} {name qual : Str} {params : Arguments} {body : List Stmt} {scope : Scope} {dV kV doc pm cdv ct oc : Value} {an od : Option Addr} {osl : Array (Option Value)} {N ps : List Str} {sp : Sp}
    (lk : K.lookup f = some ⟨oc, od, .func (PySem.W.fnOf name qual params body scope dV kV doc pm an cdv ct), osl⟩) (hcd : PySem.W.codeIn K cdv qual = true) (Sc : FnScope N ps scope) (hlen : ∀ vs H Q E, sp vs H Q E → vs.length = ps.length)
    (hb : ∀ (A : Around), A.guards = some [] → ∀ (outer : List Env) (s : Shared) (H : Hp) (vs : List V) (Q : VK) (E : XK), Room k (A.deeper (envOfC qual scope s.heap.objs.size f cdv)) → sp vs H Q E →
      ∃ t, PSs (cxOf CX P w K mg base N qual scope f cdv A outer s H E).nox body t ∧ t { nx := fun _ H' => Q .non H', rt := Q } (start N vs) H) :
    FnG P w K mg base CX (k + 1) f (PySem.W.fnOf name qual params body scope dV kV doc pm an cdv ct) ps sp := by
  refine ⟨hlen, fun A hgd outer s H args us vs Q E hroom e0 hbind rel hsp => ?_⟩
  have hvl : vs.length = ps.length := hlen _ _ _ _ hsp
  have inK : K.In s.heap := e0.mod.kin.keeps fun b o eb => (e0.bs b o eb).1
  have nolim : s.heap.NoLimit := e0.mod.nolimit.keeps fun b o eb => (e0.bs b o eb).1
  have kinds : ∀ y ∈ ps.zip us, scope.names.lookup y.1 = some .local ∨ (scope.names.lookup y.1 = some .cell ∧ ((cellsFrom (s.heap.objs.size + 1) scope.names []).lookup y.1).isSome = true) := by
    rintro ⟨n, v⟩ hy
    have hm := (List.of_mem_zip hy).1
    exact (Sc.par n hm).imp id fun hc => ⟨hc, PySem.W.cellsFrom_some _ _ _ (.inl hc)⟩
  refine codeAny_call_function hroom.depth (inK _ _ lk) rfl Sc.co Sc.gen rfl (PySem.W.codeRec_of inK hcd) (hbind _ _ _ _ ?_)
  refine wpAny_newFunctionEnv_cells Sc.kind kinds fun env he s1 inc => ?_
  cases he
  refine ⟨nolim.keeps inc.toInCall.keep, codeAny_func ?_⟩
  obtain ⟨t, ht, hq⟩ := hb A hgd outer s H vs Q E (hroom.deeper _) hsp
  have J : Inv (cxOf CX P w K mg base N qual scope f cdv A outer s H E) [] (start N vs) H s1 := inv_start Sc hroom.hd e0 hvl rel inc
  refine wpAny_mono (ht.nox.run [] s1 (start N vs) H _ J hq) (fun fl s2 h2 => ?_) fun _ _ h2 => h2
  match fl, h2 with
  | .ret u, ⟨v, σ2, H2, J2, rv, q2⟩ => exact ⟨v, H2, J2.os, J2.bare, J2.base, J2.hok, rv, q2⟩
  | .next, ⟨σ2, H2, J2, q2⟩ => exact ⟨.non, H2, J2.os, J2.bare, J2.base, J2.hok, rfl, q2⟩
  | .brk, ⟨_, _, _, q2⟩ => exact q2.elim
  | .cont, ⟨_, _, _, q2⟩ => exact q2.elim

/-! ### into a def, and out -/
theorem args_get {vs : List V} {as : List Arg} (h : ArgsOk K ad F H κ vs as) : ∀ {i : Nat} {z : Arg}, as[i]? = some z → ∃ x, vs[i]? = some x ∧ match z with
    | .m v => RelM K ad F H x v ∧ v.own = false
    | .lent p => ∃ a, κ[p]? = some a ∧ x = .ref a := by
  induction h with
  | nil => intro i z e; simp at e
  | own h1 h2 h3 ih =>
    intro i z e
    cases i with
    | zero => simp at e; subst e; exact ⟨_, rfl, h1, h2⟩
    | succ i =>
      obtain ⟨x, e1, e2⟩ := ih (i := i) (z := z) (by simpa using e)
      exact ⟨x, by simpa using e1, e2⟩
  | lent h1 h3 ih =>
    intro i z e
    cases i with
    | zero => simp at e; subst e; exact ⟨_, rfl, _, h1, rfl⟩
    | succ i =>
      obtain ⟨x, e1, e2⟩ := ih (i := i) (z := z) (by simpa using e)
      exact ⟨x, by simpa using e1, e2⟩
theorem start_get {N : List Str} {vs : List V} {i : Nat} {x : V} (h : vs[i]? = some x) : (start N vs)[i]? = some (some x) := by
  unfold L2.start
  rw [List.getElem?_append_left (by rw [List.length_map]; exact (List.getElem?_eq_some_iff.mp h).1), List.getElem?_map, h]; rfl
theorem bindA_get {as : List Arg} {n i : Nat} {sl : Sl} (h : (bindA as ++ List.replicate n Sl.un)[i]? = some sl) (hn : sl ≠ .un) : ∃ z, as[i]? = some z ∧ sl = (match z with
    | .m v => .m v
    | .lent p => .ref p) := by
  by_cases hi : i < as.length
  · rw [List.getElem?_append_left (by unfold bindA; rw [List.length_map]; exact hi)] at h
    unfold bindA at h
    rw [List.getElem?_map] at h
    obtain ⟨z, e1, e2⟩ := Option.map_eq_some_iff.mp h
    exact ⟨z, e1, e2.symm⟩
  · rw [List.getElem?_append_right (by unfold bindA; rw [List.length_map]; omega), List.getElem?_replicate] at h
    split at h
    · cases h; exact (hn rfl).elim
    · cases h
theorem Rel.enter {u : List M} {N : List Str} {vs : List V} {as : List Arg} {n : Nat} (R : Rel K ad κ (lw F u H)) (h : ArgsOk K ad F H κ vs as) (hl : as.length + n = N.length) :
    Rel K ad κ ⟨F, ⟨bindA as ++ List.replicate n .un, u⟩, start N vs, H⟩ ∧ ∀ i z v, ¬ OwnAt κ ⟨F, ⟨bindA as ++ List.replicate n .un, u⟩, start N vs, H⟩ (.inl i) z v := by
  have noL : ∀ i z v, ¬ OwnAt κ ⟨F, ⟨bindA as ++ List.replicate n .un, u⟩, start N vs, H⟩ (.inl i) z v := fun i z v q => by
    obtain ⟨a, e1, e2⟩ := bindA_get q.1 (by simp)
    obtain ⟨x, _, e3⟩ := args_get h e1
    cases a with
    | m v' =>
      cases e2
      have := q.2.1
      rw [e3.2] at this; cases this
    | lent p => cases e2
  refine ⟨⟨R.fh, ?_, R.ul, fun i v hi => ?_, fun i j hi => ?_, R.uo, fun o o' z v v' q q' => ?_⟩, noL⟩
  · show (bindA as ++ List.replicate n Sl.un).length = (start N vs).length
    unfold L2.start bindA
    rw [List.length_append, List.length_append, List.length_map, List.length_map, List.length_replicate, List.length_replicate, h.length]
    omega
  · obtain ⟨a, e1, e2⟩ := bindA_get hi (by simp)
    obtain ⟨x, e3, e4⟩ := args_get h e1
    cases a with
    | m v' => cases e2; exact ⟨x, start_get e3, e4.1⟩
    | lent p => cases e2
  · obtain ⟨a, e1, e2⟩ := bindA_get hi (by simp)
    obtain ⟨x, e3, e4⟩ := args_get h e1
    cases a with
    | m v' => cases e2
    | lent p =>
      cases e2
      obtain ⟨z, e5, rfl⟩ := e4
      exact ⟨z, start_get e3, e5⟩
  · cases o with
    | inl i => exact (noL _ _ _ q).elim
    | inr j =>
      cases o' with
      | inl i => exact (noL _ _ _ q').elim
      | inr j' => exact R.ap (.inr j) (.inr j') z v v' q q'
theorem Rel.out (R : Rel K ad κ ⟨F, s, σ, H⟩) : Rel K ad κ (lw F s.u H) :=
  ⟨R.fh, rfl, R.ul, fun i v h => by simp at h, fun i j h => by simp at h, R.uo, fun o o' z v v' q q' => by
    obtain ⟨j, rfl, a1, a2, a3⟩ := own_lw q
    obtain ⟨j', rfl, b1, b2, b3⟩ := own_lw q'
    exact R.ap (.inr j) (.inr j') z v v' ⟨a1, a2, a3⟩ ⟨b1, b2, b3⟩⟩
theorem Stp.out {F0 H0 : Hp} {s0 : S} {σ0 : L2.St} (st : Stp κ noT ⟨F0, s0, σ0, H0⟩ ⟨F, s, σ, H⟩) (noL : ∀ i z v, ¬ OwnAt κ ⟨F0, s0, σ0, H0⟩ (.inl i) z v) : Stp κ noT (lw F0 s0.u H0) (lw F s.u H) where
  ff := st.ff
  dm := st.dm
  hk := fun z u e nm => st.hk z u e fun ⟨o, v, q, m⟩ => by
    cases o with
    | inl i => exact noL _ _ _ q
    | inr j => exact nm ⟨.inr j, v, q, m⟩
  fn := fun z u e => by
    rcases st.fn z u e with h | ⟨o, v, h⟩ | h | h
    · exact .inl h
    · cases o with
      | inl i => exact (noL _ _ _ h).elim
      | inr j => exact .inr (.inl ⟨.inr j, v, h⟩)
    · exact h.elim
    · exact .inr (.inr (.inr h))
  ow := fun o z v q => by
    obtain ⟨j, rfl, a1, a2, a3⟩ := own_lw q
    rcases st.ow (.inr j) z v ⟨a1, a2, a3⟩ with ⟨v0, h, m⟩ | h | h
    · exact .inl ⟨v0, h, m⟩
    · exact h.elim
    · exact .inr (.inr h)
theorem RetOk.out {F0 H0 : Hp} {s0 : S} {σ0 : L2.St} {x : V} {v : M} (h : RetOk K ad κ ⟨F0, s0, σ0, H0⟩ ⟨F, s, σ, H⟩ x v) (st : Stp κ noT ⟨F0, s0, σ0, H0⟩ ⟨F, s, σ, H⟩) (noL : ∀ i z v, ¬ OwnAt κ ⟨F0, s0, σ0, H0⟩ (.inl i) z v) :
    RvOk K ad κ (lw F s.u H) x (.m v) ∧ Fresh H0 x (.m v) := by
  refine ⟨⟨h.rel, fun a t o v' q => ?_⟩, fun a t => ?_⟩
  · obtain ⟨j, rfl, a1, a2, a3⟩ := own_lw q
    exact (h.own a t).1 j v' ⟨a1, a2, a3⟩
  · rcases (h.own a t).2 with z | ⟨i, v', z⟩
    · exact z
    · rcases st.ow _ _ _ z with ⟨v0, q, _⟩ | q | q
      · exact (noL _ _ _ q).elim
      · exact q.elim
      · exact q
end

/-- the facts of one def -/
structure FnDat (fnm : Nat → Str) (kwt : List (Nat × List Str × List Nat)) (ad : Nat → Addr) (K : PySem.W.Frag) (mg : Str → Option Value) (f : Nat) (fn : Fn) : Prop where
  ex : ∃ (name qual : Str) (params : Arguments) (body : List Stmt) (scope : Scope) (dV kV doc pm cdv ct oc : Value) (an od : Option Addr) (osl : Array (Option Value)) (N ps : List Str),
    K.lookup (ad f) = some ⟨oc, od, .func (PySem.W.fnOf name qual params body scope dV kV doc pm an cdv ct), osl⟩ ∧ PySem.W.codeIn K cdv qual = true ∧ FnScope N ps scope ∧ okSs fnm kwt ⟨N, scope, none⟩ fn.body body = true ∧ fn.np = ps.length ∧ fn.ns = N.length ∧
    mg (fnm f) = some (.ref (ad f)) ∧ PySem.W.keepIn K (.ref (ad f)) = true ∧ (∀ n, Fits K (PySem.W.fnOf name qual params body scope dV kV doc pm an cdv ct) ps [] (List.range n)) ∧
    ∀ ks perm, ks ≠ [] → (f, ks, perm) ∈ kwt → Fits K (PySem.W.fnOf name qual params body scope dV kV doc pm an cdv ct) ps ks perm
/-- a call of f n deep keeps its promise -/
def Deep (fnm : Nat → Str) (kwt : List (Nat × List Str × List Nat)) (ad : Nat → Addr) (P : Program) (w : World) (K : PySem.W.Frag) (mg : Str → Option Value) (base : Heap) (prog : Nat → Option Fn) (n f : Nat) : Prop :=
  ∃ (fd : FuncData) (ps : List Str), FnG P w K mg base CX0 n (ad f) fd ps (spF (callF prog n) K ad f) ∧ mg (fnm f) = some (.ref (ad f)) ∧ PySem.W.keepIn K (.ref (ad f)) = true ∧ (∀ n, Fits K fd ps [] (List.range n)) ∧ ∀ ks perm, ks ≠ [] → (f, ks, perm) ∈ kwt → Fits K fd ps ks perm
section
variable {fnm : Nat → Str} {kwt : List (Nat × List Str × List Nat)} {ad : Nat → Addr} {P : Program} {w : World} {K : PySem.W.Frag} {mg : Str → Option Value} {base : Heap} {prog : Nat → Option Fn}
theorem one_fn (blt : ∀ x ∈ bltNames, mg x = none) (fv : ∀ f, (f, [], []) ∈ kwt → mg (fnm f) = some (.ref (ad f))) {n f : Nat} {fn : Fn} (hf : prog f = some fn) (ih : ∀ f fn, prog f = some fn → Deep fnm kwt ad P w K mg base prog n f)
    {name qual : Str} {params : Arguments} {body : List Stmt} {scope : Scope} {dV kV doc pm cdv ct oc : Value} {an od : Option Addr} {osl : Array (Option Value)} {N ps : List Str}
    (lk : K.lookup (ad f) = some ⟨oc, od, .func (PySem.W.fnOf name qual params body scope dV kV doc pm an cdv ct), osl⟩) (hcd : PySem.W.codeIn K cdv qual = true) (Sc : FnScope N ps scope) (chk : okSs fnm kwt ⟨N, scope, none⟩ fn.body body = true) (hnp : fn.np = ps.length) (hns : fn.ns = N.length) :
    FnG P w K mg base CX0 (n + 1) (ad f) (PySem.W.fnOf name qual params body scope dV kV doc pm an cdv ct) ps (spF (callF prog (n + 1)) K ad f) := by
  have hpl : ps.length ≤ N.length := by have := congrArg List.length Sc.pre; rw [List.length_take] at this; omega
  have unf : ∀ (as : List Arg) (u : List M), callF prog (n + 1) f as u = if as.length = fn.np then
      match evSs (callF prog n) fn.body ⟨bindA as ++ List.replicate (fn.ns - fn.np) .un, u⟩ with
      | .ok .next s => .ok (.fro .none) s.u
      | .ok (.ret v) s => .ok v s.u
      | .exc c d s => .exc c d s.u
      | .bad => .bad
    else .bad := fun as u => by
    show (match prog f with
      | none => Ax.R.bad
      | some fn => _) = _
    rw [hf]
    all_goals rfl
  refine fnG_of lk hcd Sc (fun vs H Q E ⟨F, κ, as, u, R, ok, g⟩ => ?_) (fun A hgd outer s H vs Q E hr ⟨F, κ, as, u, R, ok, g⟩ => ?_)
  · rw [unf] at g
    split at g
    · rename_i hl
      rw [ok.length, hl, hnp]
    · exact g.elim
  · rw [unf] at g
    split at g
    · rename_i hl
      obtain ⟨Re, noL⟩ := Rel.enter (N := N) (n := fn.ns - fn.np) R ok (by omega)
      refine ⟨tSs (callF prog n) K ad κ fn.body, sSs (c := ⟨N, scope, none⟩) ⟨rfl, rfl, fun _ _ => rfl, Sc.nd, rfl, hgd, hr.units, blt, fv, fun f' as' u' hne => ?_⟩ Sc.kind PassesOwn.never fn.body body chk, F, _, Re, ?_⟩
      · cases n with
        | zero => exact (hne rfl).elim
        | succ n =>
          cases hp : prog f' with
          | none =>
            exfalso
            refine hne ?_
            show (match prog f' with
              | none => Ax.R.bad
              | some fn => _) = _
            rw [hp]
          | some fn' =>
            obtain ⟨fd, ps', FN, q1, q2, q3, q4⟩ := ih f' fn' hp
            exact ⟨n + 1, fd, ps', FN, hr, q1, q2, q3, q4⟩
      · cases e : evSs (callF prog n) fn.body ⟨bindA as ++ List.replicate (fn.ns - fn.np) .un, u⟩ with
        | bad => rw [e] at g; exact g.elim
        | exc c d s => rw [e] at g; exact g.elim
        | ok fl s' =>
          rw [e] at g
          cases fl with
          | next => exact fun F' σ' H' R' st' => g F' H' .non R'.out (Stp.out st' noL) ⟨.non, fun a t => (noTmp t).elim⟩ fun a t => (noTmp t).elim
          | ret v =>
            intro F' σ' H' x R' st' rt
            obtain ⟨o1, o2⟩ := rt.out st' noL
            exact g F' H' x R'.out (Stp.out st' noL) o1 o2
    · exact g.elim
/-- every def keeps its promise -/
theorem all_fns (hd : ∀ f fn, prog f = some fn → FnDat fnm kwt ad K mg f fn) (blt : ∀ x ∈ bltNames, mg x = none) (fv : ∀ f, (f, [], []) ∈ kwt → mg (fnm f) = some (.ref (ad f))) : ∀ (n f : Nat) (fn : Fn), prog f = some fn → Deep fnm kwt ad P w K mg base prog n f := by
  intro n
  induction n with
  | zero =>
    intro f fn hf
    obtain ⟨name, qual, params, body, scope, dV, kV, doc, pm, cdv, ct, oc, an, od, osl, N, ps, lk, hcd, Sc, chk, hnp, hns, hm, hk, h1, h2⟩ := (hd f fn hf).ex
    exact ⟨_, ps, ⟨fun vs H Q E ⟨F, κ, as, u, R, ok, g⟩ => g.elim, fun A hgd outer s H args us vs Q E hr e0 hb r ⟨F, κ, as, u, R, ok, g⟩ => g.elim⟩, hm, hk, h1, h2⟩
  | succ n ih =>
    intro f fn hf
    obtain ⟨name, qual, params, body, scope, dV, kV, doc, pm, cdv, ct, oc, an, od, osl, N, ps, lk, hcd, Sc, chk, hnp, hns, hm, hk, h1, h2⟩ := (hd f fn hf).ex
    exact ⟨_, ps, one_fn blt fv hf ih lk hcd Sc chk hnp hns, hm, hk, h1, h2⟩
/-- the law's def -/
theorem lawG (hd : ∀ f fn, prog f = some fn → FnDat fnm kwt ad K mg f fn) (blt : ∀ x ∈ bltNames, mg x = none) (fv : ∀ f, (f, [], []) ∈ kwt → mg (fnm f) = some (.ref (ad f))) {n f : Nat} {fn : Fn} (hf : prog f = some fn)
    {name qual : Str} {params : Arguments} {body : List Stmt} {scope : Scope} {dV kV doc pm cdv ct oc : Value} {an od : Option Addr} {osl : Array (Option Value)} {N ps : List Str}
    (lk : K.lookup (ad f) = some ⟨oc, od, .func (PySem.W.fnOf name qual params body scope dV kV doc pm an cdv ct), osl⟩) (hcd : PySem.W.codeIn K cdv qual = true) (Sc : FnScope N ps scope) (chk : okSs fnm kwt ⟨N, scope, none⟩ fn.body body = true) (hnp : fn.np = ps.length) (hns : fn.ns = N.length) :
    FnG P w K mg base CX0 (n + 1) (ad f) (PySem.W.fnOf name qual params body scope dV kV doc pm an cdv ct) ps (spF (callF prog (n + 1)) K ad f) := one_fn blt fv hf (all_fns hd blt fv n) lk hcd Sc chk hnp hns
end
end Ax
/-! A21: the law's own call; a def's facts from what the top has left. -/
namespace Ax
open PySem PySem.Spec PyProof.Rows L2
/-- the law's def, called with the script at a, in the heap behind the top -/
theorem law_goes {P : Program} {w : World} {K : PySem.W.Frag} {mg mb : Str → Option Value} {CX : CXT} {k : Nat} {fa a : Addr} {fd : FuncData} {x : Str} {sp : Sp} {s1 : Shared} {cells : List Value} {ns : List Int}
    (inK : K.In s1.heap) (glb : s1.heap.Ns mainGlobals mg) (blt : s1.heap.Ns builtinsNs mb) (bltv : ∀ x : Str, x ≠ "__name__" → mb x = bootBuiltins x) (noLim : s1.heap.NoLimit) (noGen : s1.gens = #[])
    (scr : s1.heap.get? a = some { cls := .type "list", data := .seq cells.toArray }) (whole : IntsAre cells ns) (few : ns.length ≤ sizeLine) (room : Room k callerA)
    (Fn : ∀ base : Heap, K.In base → base.Ns mainGlobals mg → FnG P w K mg base CX k fa fd [x] sp) (bnd : ∀ (s : Shared) (u : Value), BindsTo s fd ⟨[u], []⟩ [(x, u)])
    (pre : ∀ H : Hp, SqL K H a (ns.map V.int) → sp [.ref a] H (fun v _ => v = .bl true) fun _ _ _ => False) (noX : ∀ H e s', CX [] H s1 (fun _ _ _ => False) e s' → False) :
    codeAny (model P w) callerA (.call (.ref fa) ⟨[.ref a], []⟩) (fun r s' => r = .ok (.ret (.bool true)) ∧ OldK s1.heap s'.heap ∧ s'.os = s1.os ∧ AllBare s'.gens) s1 := by
  have vals := L2.vals_ints whole
  have go : ∀ H : Hp, (∀ b, H b = none ∨ (b = a ∧ K.lookup a = none ∧ ∃ o xs, H b = some (.frz o (.lst xs)))) → SqL K H a (ns.map V.int) → HOk P w H s1.heap →
      codeAny (model P w) callerA (.call (.ref fa) ⟨[.ref a], []⟩) (fun r s' => r = .ok (.ret (.bool true)) ∧ OldK s1.heap s'.heap ∧ s'.os = s1.os ∧ AllBare s'.gens) s1 := fun H few1 seq ok => by
    have low : ∀ {b : Addr} {o : Obj}, s1.heap.get? b = some o → (∀ xs n, o.data ≠ .seq xs n) → H b = none := fun {b o} eb hd => by
      rcases few1 b with z | ⟨z, _, _⟩
      · exact z
      · rw [z, scr] at eb
        cases eb
        exact (hd _ _ rfl).elim
    have names : ∀ {b : Addr} {m : Str → Option Value}, s1.heap.Ns b m → (hidT s1.heap H).Ns b m := fun ⟨o, es, ep, eb, hd, rest⟩ => ⟨o, es, ep, hidT_get eb (low eb fun xs n z => by rw [hd] at z; cases z), hd, rest⟩
    have frag : K.In (hidT s1.heap H) := fun b o eb => by
      refine hidT_get (inK b o eb) ?_
      rcases few1 b with z | ⟨z, nl, _⟩
      · exact z
      · rw [z, nl] at eb; cases eb
    obtain ⟨mc, c1, c2⟩ := noLim
    have e0 : Env0 P w K mg (hidT s1.heap H) callerA [] s1 H :=
      ⟨rfl, ⟨frag, names glb, ⟨mb, names blt, bltv⟩, mc, names c1, c2⟩, fun b o eb => of_hidT eb, Nat.le_of_eq (hidT_size _ _), trivial, fun b hb => absurd (show b ∈ ([] : List Addr) from hb) (by simp), ok, .of_eq noGen⟩
    refine codeAny_mono ((Fn _ frag (names glb)).go callerA rfl [] s1 H ⟨[.ref a], []⟩ [.ref a] [.ref a] _ _ room e0 (bnd s1 (.ref a)) (.cons rfl .nil) (pre H seq)) fun r s2 hr => ?_
    match r, hr with
    | .error e, hr => exact (noX H e s2 hr).elim
    | .ok (.ret u), ⟨v, H2, os, bare, un, ok2, rv, qv⟩ =>
      have qv : v = .bl true := qv
      subst qv
      obtain rfl : u = Value.bool true := rv
      refine ⟨rfl, OldK.of_keep fun b o eb => ?_, os, bare⟩
      rcases few1 b with z | ⟨_, _, ob, xs, z⟩
      · exact un.keep b o eb z (fun m => absurd (show b ∈ ([] : List Addr) from m) (by simp)) (by simp)
      · have o1 : s1.heap.get? b = some ob := (ok b _ z).1
        have o2 : s2.heap.get? b = some ob := (ok2 b _ (un.frzs b ob _ z)).1
        rw [eb] at o1
        cases o1
        exact o2
  cases lk : K.lookup a with
  | some o =>
    have here := inK a o lk
    rw [scr] at here
    cases here
    exact go (fun _ => none) (fun _ => .inl rfl) (.inr ⟨_, cells.toArray, _, lk, rfl, rfl, rfl, by rw [List.size_toArray, whole.length]; exact few, by simpa using vals⟩) fun b u z => by cases (show (none : Option HO) = some u from z)
  | none =>
    let ob : Obj := { cls := .type "list", data := .seq cells.toArray }
    refine go (fun b => if b = a then some (.frz ob (.lst (ns.map V.int))) else none) (fun b => ?_) (.inl (.inr ⟨ob, if_pos rfl⟩)) fun b u z => ?_
    · by_cases e : b = a
      · exact .inr ⟨e, lk, ob, _, if_pos e⟩
      · exact .inl (if_neg e)
    · have z : (if b = a then some (HO.frz ob (.lst (ns.map V.int))) else none) = some u := z
      split at z
      · rename_i e
        cases z
        subst e
        exact ⟨scr, by rw [List.length_map]; exact few, cells, _, vals, scr⟩
      · cases z
theorem walk_goes {l : PySem.W.OpenLaw} {n k : Nat} {q : Program} {loose : List Str} {XP : (Str → Option Value) → Heap → Prop} {YP : World → Heap → Prop} {d : DefRec} {K : Params → PySem.W.Frag} {x : Str} {prog : Nat → Option Fn} {lf : Nat}
    (hn : l.most = some n) (hn2 : n ≤ sizeLine) (hdf : d.params.defaults = []) (room : Room k callerA) (hY : ∀ (w : World) (h : Heap), YP w h → (K w.params).In h)
    (Fn : ∀ (w : World) (mg : Str → Option Value) (fa : Addr) (h : Heap), (K w.params).In h → h.Ns mainGlobals mg → mg d.name = some (.ref fa) →
      ∃ (fd : FuncData) (ad : Nat → Addr), (∀ (s : Shared) (u : Value), BindsTo s fd ⟨[u], []⟩ [(x, u)]) ∧ ∀ base : Heap, (K w.params).In base → base.Ns mainGlobals mg → FnG l.prog w (K w.params) mg base CX0 k fa fd [x] (spF (callF prog k) (K w.params) ad lf))
    (run : ∀ ns : List Int, ns.length ≤ n → ∃ u, callF prog k lf [.m (.scr ns)] [] = .ok (.fro (.bool true)) u) :
    PySem.W.WalkO q loose XP YP l.row.toRowW d [] (fun f vs => PySem.call f vs) := by
  refine Att.attach_call hn hdf fun w s0 s1 mg mb fa o pm cd doc a cells ns G Y ho hd hcd hmg scr whole few noGen => ?_
  have inK := hY w _ Y
  obtain ⟨fd, ad, bnd, Fn⟩ := Fn w mg fa _ inK G.T.g hmg
  refine law_goes inK G.T.g G.T.b G.T.builtins G.T.nolimit noGen scr whole (Nat.le_trans few hn2) room Fn bnd (fun H hs => ?_) fun H e s' z => z
  obtain ⟨u, e⟩ := run ns few
  refine ⟨H, [], [.m (.scr ns)], [], ⟨Le.refl _, rfl, rfl, fun i v h => by simp at h, fun i j h => by simp at h, fun j v z h => by simp at h, fun o o' z v v' q => by
    obtain ⟨j, rfl, a1, _⟩ := own_lw q
    simp at a1⟩, .own ⟨a, rfl, hs⟩ rfl .nil, ?_⟩
  rw [e]
  intro F' H' y R st ok fr
  cases ok.1
  rfl

/-! ### a def's facts -/
structure AtTop (K : PySem.W.Frag) (x : Str) (st : Stmt) (f : Addr) : Prop where
  ex : ∃ (od an : Option Addr) (sl : Array (Option Value)) (oc kV dc pm cd ct : Value), PySem.W.nsIn K mainGlobals x = some (some (.ref f)) ∧
    K.lookup f = some ⟨oc, od, .func (PySem.W.fnOf x x (defArgs st) (defBody st) (defScope st) .none kV dc pm an cd ct), sl⟩ ∧ PySem.W.codeIn K cd x = true ∧ PySem.W.keepIn K (.ref f) = true
theorem at_top {K : PySem.W.Frag} {x : Str} {st : Stmt} {f : Addr} {od an : Option Addr} {sl : Array (Option Value)} {oc kV dc pm cd ct : Value} (h1 : PySem.W.nsIn K mainGlobals x = some (some (.ref f)))
    (h2 : K.lookup f = some ⟨oc, od, .func (PySem.W.fnOf x x (defArgs st) (defBody st) (defScope st) .none kV dc pm an cd ct), sl⟩) (h3 : PySem.W.codeIn K cd x = true) (h4 : PySem.W.keepIn K (.ref f) = true) : AtTop K x st f :=
  ⟨od, an, sl, oc, kV, dc, pm, cd, ct, h1, h2, h3, h4⟩
theorem fits_pos {K : PySem.W.Frag} {fd : FuncData} {ps : List Str} (h : ∀ us : List Value, us.length = ps.length → bindArgs fd ⟨us, []⟩ = pure (ps.zip us)) (n : Nat) : Fits K fd ps [] (List.range n) := fun s us ws inK hk hl hn => by
  cases ws with
  | cons _ _ => cases hk
  | nil =>
    rw [List.append_nil] at hl ⊢
    have hu : us.length = n := by rw [List.length_range] at hn; simpa using hn
    subst hu
    rw [filterMap_range] at hl ⊢
    exact BindsTo.of_eq (h us hl)
/-- a def of the text: its slots, its parameters -/
theorem datum {fnm : Nat → Str} {kwt : List (Nat × List Str × List Nat)} {ad : Nat → Addr} {K : PySem.W.Frag} {mg : Str → Option Value} {h : Heap} {f : Nat} {fn : Fn} {st : Stmt} {N ps : List Str} (inK : K.In h) (G : h.Ns mainGlobals mg) (T : AtTop K (fnm f) st (ad f))
    (Sc : FnScope N ps (defScope st)) (chk : okSs fnm kwt ⟨N, defScope st, none⟩ fn.body (defBody st) = true) (hnp : fn.np = ps.length) (hns : fn.ns = N.length)
    (pos : ∀ (kV dc pm cd ct : Value) (an : Option Addr) (us : List Value), us.length = ps.length → bindArgs (PySem.W.fnOf (fnm f) (fnm f) (defArgs st) (defBody st) (defScope st) .none kV dc pm an cd ct) ⟨us, []⟩ = pure (ps.zip us))
    (kw : ∀ (kV dc pm cd ct : Value) (an : Option Addr) (ks : List Str) (perm : List Nat), ks ≠ [] → (f, ks, perm) ∈ kwt → Fits K (PySem.W.fnOf (fnm f) (fnm f) (defArgs st) (defBody st) (defScope st) .none kV dc pm an cd ct) ps ks perm) : FnDat fnm kwt ad K mg f fn := by
  obtain ⟨od, an, sl, oc, kV, dc, pm, cd, ct, h1, h2, h3, h4⟩ := T.ex
  exact ⟨_, _, _, _, _, _, _, _, _, _, _, _, _, _, _, N, ps, h2, h3, Sc, chk, hnp, hns, PySem.W.mg_of inK G h1, h4, fits_pos (pos kV dc pm cd ct an), kw kV dc pm cd ct an⟩
end Ax
/-! R1: the evaluator's loops in plain words. -/
namespace Ax
open PySem
/-- a comprehension whose turns leave all but its own names as it was -/
theorem lcGo_pure {own : List Nat} {turn : D → S → List D → R S (List D)} {s : S} (g : D → List D) (B : Nat) : ∀ (ds : List D) (acc : List D),
    (∀ d ∈ ds, ∀ acc : List D, acc.length ≤ B → ∃ s', turn d s acc = .ok (acc ++ g d) s' ∧ wipeS s' own = s) → acc.length + (ds.flatMap g).length ≤ B →
    lcGo own turn ds s acc = .ok (acc ++ ds.flatMap g) s
  | [], acc, _, _ => by simp [lcGo]
  | d :: ds, acc, h, hl => by
    obtain ⟨s', e, e2⟩ := h d (by simp) acc (by omega)
    rw [lcGo, e]
    show lcGo own turn ds (wipeS s' own) _ = _
    rw [e2, lcGo_pure g B ds _ (fun d hd => h d (by simp [hd])) (by simp at hl ⊢; omega)]
    simp
theorem forGo_pure {turn : D → S → R S Fl} (st : List D → S → Prop) : ∀ (ds pre : List D) (s : S), st pre s →
    (∀ pre d s, st pre s → ∃ s', turn d s = .ok .next s' ∧ st (pre ++ [d]) s') → ∃ s', forGo turn ds s = .ok .next s' ∧ st (pre ++ ds) s'
  | [], pre, s, i, _ => ⟨s, rfl, by simpa using i⟩
  | d :: ds, pre, s, i, h => by
    obtain ⟨s1, e, i1⟩ := h pre d s i
    obtain ⟨s2, e2, i2⟩ := forGo_pure st ds (pre ++ [d]) s1 i1 h
    exact ⟨s2, by rw [forGo, e]; exact e2, by simpa using i2⟩
def fin : R S Fl → R (List M) M
  | .ok .next s => .ok (.fro .none) s.u
  | .ok (.ret v) s => .ok v s.u
  | .exc c d s => .exc c d s.u
  | .bad => .bad
theorem callF_at {prog : Nat → Option Fn} {f : Nat} {fn : Fn} {n : Nat} {as : List Arg} {u : List M} (h : prog f = some fn) (hl : as.length = fn.np) :
    callF prog (n + 1) f as u = fin (evSs (callF prog n) fn.body ⟨bindA as ++ List.replicate (fn.ns - fn.np) .un, u⟩) := by
  rw [callF, h]
  simp only [hl, if_true]
  rfl
theorem bind_ok {σ α β : Type} (a : α) (s : σ) (f : α → σ → R σ β) : (R.ok a s).bind f = f a s := rfl
theorem bind_ite {σ α β : Type} (p : Prop) [Decidable p] (x y : R σ α) (f : α → σ → R σ β) : (if p then x else y).bind f = if p then x.bind f else y.bind f := by split <;> rfl
theorem rk_ite {σ : Type} (p : Prop) [Decidable p] (s : σ) : (if p then R.ok true s else R.ok false s : R σ Bool) = R.ok (decide p) s := by split <;> simp [*]
theorem rk_ite2 {σ : Type} (p : Prop) [Decidable p] (s : σ) : (if p then R.ok false s else R.ok true s : R σ Bool) = R.ok (!decide p) s := by split <;> simp [*]
theorem fin_ite (p : Prop) [Decidable p] (x y : R S Fl) : fin (if p then x else y) = if p then fin x else fin y := by split <;> rfl
theorem runLc_pure {own : List Nat} {turn : D → S → List D → R S (List D)} {s1 : S} {v : M} {ds : List D} (g : D → List D)
    (h : ∀ d ∈ ds, ∀ acc : List D, acc.length < line → ∃ s', turn d (wipeS s1 own) acc = .ok (acc ++ g d) s' ∧ wipeS s' own = wipeS s1 own) (hl : (ds.flatMap g).length < line) (hu : unwipe s1 (wipeS s1 own) own = s1) :
    runLc own (.m v) turn ds s1 = .ok (.m (.lst (ds.flatMap g))) s1 := by
  unfold runLc
  show (match lcEnd own s1 (lcGo own turn ds (wipeS s1 own) []) with | .ok v s3 => _ | .exc c d s3 => _ | .bad => _) = _
  rw [lcGo_pure g (line - 1) ds [] (fun d hd acc ha => h d hd acc (by simp only [line] at *; omega)) (by simp only [line, List.length_nil] at *; omega)]
  simp only [lcEnd, List.nil_append, hu]
  rfl
theorem boolsD_map (bs : List Bool) : boolsD (bs.map .bool) = some bs := by
  induction bs with
  | nil => rfl
  | cons b bs ih => simp [boolsD, ih]
theorem rk_and {σ : Type} (p : Prop) [Decidable p] (b : Bool) (s : σ) : (if p then R.ok b s else R.ok false s : R σ Bool) = R.ok (decide p && b) s := by split <;> simp [*]
theorem rk_or {σ : Type} (p : Prop) [Decidable p] (b : Bool) (s : σ) : (if p then R.ok true s else R.ok b s : R σ Bool) = R.ok (decide p || b) s := by split <;> simp [*]
theorem lcGo_map {α : Type} {own : List Nat} {turn : D → S → List D → R S (List D)} {s : S} (enc : α → D) (g : α → List D) (B : Nat) : ∀ (xs : List α) (acc : List D),
    (∀ x ∈ xs, ∀ acc : List D, acc.length ≤ B → ∃ s', turn (enc x) s acc = .ok (acc ++ g x) s' ∧ wipeS s' own = s) → acc.length + (xs.flatMap g).length ≤ B →
    lcGo own turn (xs.map enc) s acc = .ok (acc ++ xs.flatMap g) s
  | [], acc, _, _ => by simp [lcGo]
  | x :: xs, acc, h, hl => by
    obtain ⟨s', e, e2⟩ := h x (by simp) acc (by omega)
    rw [List.map_cons, lcGo, e]
    show lcGo own turn (xs.map enc) (wipeS s' own) _ = _
    rw [e2, lcGo_map enc g B xs _ (fun d hd => h d (by simp [hd])) (by simp at hl ⊢; omega)]
    simp
theorem runLc_map {α : Type} {own : List Nat} {turn : D → S → List D → R S (List D)} {s1 : S} {v : M} (enc : α → D) (g : α → List D) (xs : List α)
    (h : ∀ x ∈ xs, ∀ acc : List D, acc.length < line → ∃ s', turn (enc x) (wipeS s1 own) acc = .ok (acc ++ g x) s' ∧ wipeS s' own = wipeS s1 own) (hl : (xs.flatMap g).length < line) (hu : unwipe s1 (wipeS s1 own) own = s1) :
    runLc own (.m v) turn (xs.map enc) s1 = .ok (.m (.lst (xs.flatMap g))) s1 := by
  unfold runLc
  show (match lcEnd own s1 (lcGo own turn (xs.map enc) (wipeS s1 own) []) with | .ok v s3 => _ | .exc c d s3 => _ | .bad => _) = _
  rw [lcGo_map enc g (line - 1) xs [] (fun d hd acc ha => h d hd acc (by simp only [line] at *; omega)) (by simp only [line, List.length_nil] at *; omega)]
  simp only [lcEnd, List.nil_append, hu]
  rfl
theorem flat1 {α β : Type} (f : α → β) (xs : List α) : xs.flatMap (fun x => [f x]) = xs.map f := by
  induction xs with
  | nil => rfl
  | cons x xs ih => rw [List.flatMap_cons, ih]; rfl
theorem boolsD_of {α : Type} (f : α → Bool) (xs : List α) : boolsD (xs.map fun x => .bool (f x)) = some (xs.map f) := by
  induction xs with
  | nil => rfl
  | cons x xs ih => rw [List.map_cons, boolsD, ih]; rfl
theorem forGo_inv {turn : D → S → R S Fl} (I : S → Prop) : ∀ (ds : List D) (s : S), I s → (∀ d ∈ ds, ∀ s, I s → ∃ s', turn d s = .ok .next s' ∧ I s') → ∃ s', forGo turn ds s = .ok .next s' ∧ I s'
  | [], s, i, _ => ⟨s, rfl, i⟩
  | d :: ds, s, i, h => by
    obtain ⟨s1, e, i1⟩ := h d (by simp) s i
    obtain ⟨s2, e2, i2⟩ := forGo_inv I ds s1 i1 fun d hd => h d (by simp [hd])
    exact ⟨s2, by rw [forGo, e]; exact e2, i2⟩
theorem for_inv {call : Nat → List Arg → List M → R (List M) M} {t : T} {it : I} {b : Sts} {s0 : S} {v : M} {ds : List D} (J : S → Prop) (hi : evI call it s0 = .ok (.m v, ds) s0) (j0 : J s0)
    (h : ∀ d ∈ ds, ∀ s, J s → ∃ s3 s', bindT t d s = some s3 ∧ evSs call b s3 = .ok .next s' ∧ J s') : ∃ s', evS call (.for_ t it b) s0 = .ok .next s' ∧ J s' := by
  obtain ⟨s', e, j⟩ := forGo_inv (turn := fun d s => match bindT t d s with
        | some s3 => evSs call b s3
        | none => .bad) J ds s0 j0 fun d hd s js => by
    obtain ⟨s3, s', e1, e2, e3⟩ := h d hd s js
    exact ⟨s', by simp only [e1]; exact e2, e3⟩
  refine ⟨s', ?_, j⟩
  rw [evS, hi]
  exact (congrArg (forEnd s0 (.m v)) e).trans rfl
theorem ss_next {call : Nat → List Arg → List M → R (List M) M} {a : St} {as : Sts} {s s1 : S} (h : evS call a s = .ok .next s1) : evSs call (.cons a as) s = evSs call as s1 := by rw [evSs, h]; rfl
theorem ss_ret {call : Nat → List Arg → List M → R (List M) M} {a : St} {as : Sts} {s s1 : S} {v : M} (h : evS call a s = .ok (.ret v) s1) : evSs call (.cons a as) s = .ok (.ret v) s1 := by rw [evSs, h]; rfl
end Ax
/-! P1: expressions that only read the state, as plain functions. -/
namespace Ax
open PySem
def got : R S Rv → Option Rv
  | .ok r _ => some r
  | _ => none
def pfrz (s : S) : Rv → Option D
  | .m v => v.cont
  | .bor _ => none
def pfrzs (s : S) : List Rv → Option (List D)
  | [] => some []
  | r :: rs => (pfrz s r).bind fun d => (pfrzs s rs).bind fun ds => some (d :: ds)
def pargs : List Rv → Option (List Arg)
  | [] => some []
  | .m v :: rs => (if v.own = true then v.cont.map M.fro else some v).bind fun w => (pargs rs).bind fun as => some (.m w :: as)
  | .bor _ :: _ => none
def pMap {α : Type} (f : α → Option (List D)) : List α → Option (List D)
  | [] => some []
  | x :: xs => (f x).bind fun a => (pMap f xs).bind fun b => some (a ++ b)
/-- over what is walked, where it is no slot's own -/
def pOver (f : D → Option (List D)) : Option (Rv × List D) → Option (List D)
  | some (.m _, ds) => pMap f ds
  | _ => none
def ptst : Option Rv → Option Bool
  | some r => truth r
  | none => none
def resM : R (List M) M → Option Rv
  | .ok v [] => some (.m v)
  | _ => none
def pfit (l : List D) : Option Rv := if l.length < line then some (.m (.lst l)) else none
def pone (s : S) (y : Rv) : Option (List D) := (pfrz s y).bind fun d => some [d]
def pown : Rv → Bool
  | .m _ => true
  | .bor _ => false
def pguard {α : Type} (b : Bool) (o : Option α) : Option α := if b = true then o else none
def pTup (s : S) (rs : List Rv) : Option Rv := (pfrzs s rs).bind fun ds => if ds.length ≤ line then some (.m (.fro (.tuple ds))) else none
def pLst (s : S) (rs : List Rv) : Option Rv := (pfrzs s rs).bind fun ds => if ds.length ≤ line then some (.m (.lst ds)) else none
def pint : Rv → Option Int
  | .m (.fro (.int i)) => some i
  | _ => none
def goti : R S (Rv × List D) → Option (Rv × List D)
  | .ok r _ => some r
  | _ => none
section
variable (call : Nat → List Arg → List M → R (List M) M)
def pcall (f : Nat) (perm : List Nat) (rs : List Rv) : Option Rv := (pargs rs).bind fun as => resM (call f (perm.filterMap fun i => as[i]?) [])
mutual
def pev : Ex → S → Option Rv
  | .non, _ => some (.m (.fro .none))
  | .bl b, _ => some (asBool b)
  | .int i, _ => some (.m (.fro (.int i)))
  | .str x, _ => some (.m (.fro (.str x)))
  | .var i, s => match s.at i with
    | some v => if v.own = true then some (.bor i) else some (.m v)
    | none => none
  | .fnv f, _ => some (.m (.fn f))
  | .bin op a b, s => (pev a s).bind fun x => (pev b s).bind fun y => got (kBin op x y s)
  | .cmp op a b, s => (pev a s).bind fun x => (pev b s).bind fun y => got (kCmp op x y s)
  | .isN neg a, s => (pev a s).bind fun x => got (kIsN neg x s)
  | .and as, s => (pAnd as s).bind fun b => some (asBool b)
  | .or as, s => (pOr as s).bind fun b => some (asBool b)
  | .not a, s => (ptst (pev a s)).bind fun b => some (asBool (!b))
  | .neg a, s => (pev a s).bind fun x => got (kNeg x s)
  | .ite c a b, s => (ptst (pev c s)).bind fun k => if k = true then pev a s else pev b s
  | .tup as, s => (pXs as s).bind fun rs => pTup s rs
  | .lst as, s => (pXs as s).bind fun rs => pLst s rs
  | .ix a i, s => (pev a s).bind fun x => (pev i s).bind fun y => got (kIx x y s)
  | .sl a lo hi, s => (pev a s).bind fun x => (pXo lo s).bind fun l => (pXo hi s).bind fun h => got (kSl x l h s)
  | .lc own t it ifs e, s => (pOver (fun d => (bindT t d (wipeS s own)).bind fun s3 => (pIfs ifs s3).bind fun b => if b = true then (pev e s3).bind fun y => pone s3 y else some []) (pI it s)).bind pfit
  | .lc2 own own1 t it ifs t1 it1 ifs1 e, s => (pOver (fun d => (bindT t d (wipeS s own)).bind fun s3 => (pIfs ifs s3).bind fun b => if b = true then
      pOver (fun d1 => (bindT t1 d1 (wipeS s3 own1)).bind fun s4 => (pIfs ifs1 s4).bind fun b1 => if b1 = true then (pev e s4).bind fun y => pone s4 y else some []) (pI it1 s3) else some []) (pI it s)).bind pfit
  | .call f as, s => (pXs as s).bind fun rs => pcall call f (List.range rs.length) rs
  | .callK f as _ bs perm, s => (pXs as s).bind fun rs => (pXs bs s).bind fun qs => pcall call f perm (rs ++ qs)
  | .callV i as, s => match s.at i with
      | some (.fn f) => (pXs as s).bind fun rs => pcall call f (List.range rs.length) rs
      | _ => none
  | .bi b as, s => (pXs as s).bind fun rs => got (kBi b rs s)
  | .isi t a, s => (pev a s).bind fun x => got (kIsi t x s)
  | .rng tup g, s => (pRg g s).bind fun p => got (kRng tup p s)
  | .lenSet a, s => (pev a s).bind fun x => got (kLenSet x s)
  | .srt t a, s => (pev a s).bind fun x => got (kSrt t x s)
  | .frz a, s => (pev a s).bind fun x => (pfrz s x).bind fun d => some (.m (.fro d))
  | .dnew b, _ => some (.m (.dct b []))
  | .dIn neg a i, s => (pev a s).bind fun x => got (kDIn neg i x s)
  | .dGet i a, s => pguard (dctS s i) ((pev a s).bind fun x => got (kDGet i x s))
  | .dSrt t i, s => got (kDSrt t i s)
  | .app _ _, _ => none
  | .ext _ _, _ => none
  | .pop _, _ => none
  | .popAt _ _, _ => none
def pXs : Xs → S → Option (List Rv)
  | .nil, _ => some []
  | .cons a as, s => (pev a s).bind fun r => (pXs as s).bind fun rs => some (r :: rs)
def pAnd : Xs → S → Option Bool
  | .nil, _ => none
  | .cons a as, s => (ptst (pev a s)).bind fun b => if b = true then pAnd1 as s else some false
def pAnd1 : Xs → S → Option Bool
  | .nil, _ => some true
  | .cons a as, s => (ptst (pev a s)).bind fun b => if b = true then pAnd1 as s else some false
def pOr : Xs → S → Option Bool
  | .nil, _ => none
  | .cons a as, s => (ptst (pev a s)).bind fun b => if b = true then some true else pOr1 as s
def pOr1 : Xs → S → Option Bool
  | .nil, _ => some false
  | .cons a as, s => (ptst (pev a s)).bind fun b => if b = true then some true else pOr1 as s
def pXo : Xo → S → Option (Option Int)
  | .no, _ => some none
  | .so a, s => (pev a s).bind fun x => (pint x).bind fun i => some (some i)
def pRg : Rg → S → Option (Int × Int)
  | .r1 hi, s => (pev hi s).bind fun y => (pint y).bind fun h => some (0, h)
  | .r2 lo hi, s => (pev lo s).bind fun x => (pev hi s).bind fun y => (pint x).bind fun l => (pint y).bind fun h => some (l, h)
def pIfs : Xo → S → Option Bool
  | .no, _ => some true
  | .so a, s => ptst (pev a s)
def pI : I → S → Option (Rv × List D)
  | .seq a, s => (pev a s).bind fun x => goti (kSeq x s)
  | .rng g, s => (pRg g s).bind fun p => goti (kRgI p s)
  | .zip a b, s => (pev a s).bind fun x => (pev b s).bind fun y => goti (kZip x y s)
  | .enm a, s => (pev a s).bind fun x => goti (kEnm x s)
end
mutual
/-- the blocks' targets are the blocks' own -/
def wfE : Ex → Bool
  | .bin _ a b => wfE a && wfE b
  | .cmp _ a b => wfE a && wfE b
  | .isN _ a => wfE a
  | .and as => wfXs as
  | .or as => wfXs as
  | .not a => wfE a
  | .neg a => wfE a
  | .ite c a b => wfE c && wfE a && wfE b
  | .tup as => wfXs as
  | .lst as => wfXs as
  | .ix a b => wfE a && wfE b
  | .sl a lo hi => wfE a && wfXo lo && wfXo hi
  | .lc own t it ifs e => tInW own t && wfI it && wfXo ifs && wfE e
  | .lc2 own own1 t it ifs t1 it1 ifs1 e => own1.all (fun i => decide (i ∈ own)) && tInW own t && tInW own1 t1 && wfI it && wfXo ifs && wfI it1 && wfXo ifs1 && wfE e
  | .call _ as => wfXs as
  | .callK _ as _ bs _ => wfXs as && wfXs bs
  | .callV _ as => wfXs as
  | .bi _ as => wfXs as
  | .isi _ a => wfE a
  | .rng _ g => wfRg g
  | .lenSet a => wfE a
  | .srt _ a => wfE a
  | .frz a => wfE a
  | .dIn _ a _ => wfE a
  | .dGet _ a => wfE a
  | _ => true
def wfXs : Xs → Bool
  | .nil => true
  | .cons a as => wfE a && wfXs as
def wfXo : Xo → Bool
  | .no => true
  | .so a => wfE a
def wfRg : Rg → Bool
  | .r1 a => wfE a
  | .r2 a b => wfE a && wfE b
def wfI : I → Bool
  | .seq a => wfE a
  | .rng g => wfRg g
  | .zip a b => wfE a && wfE b
  | .enm a => wfE a
def tInW (own : List Nat) : T → Bool
  | .nm i => decide (i ∈ own)
  | .tp ts => tsInW own ts
def tsInW (own : List Nat) : Ts → Bool
  | .nil => true
  | .cons t ts => tInW own t && tsInW own ts
end
end

theorem pOver_ok {f : D → Option (List D)} {o : Option (Rv × List D)} {l : List D} (h : pOver f o = some l) : ∃ v ds, o = some (.m v, ds) ∧ pMap f ds = some l := by
  unfold pOver at h
  split at h
  · exact ⟨_, _, rfl, h⟩
  · cases h
/-! ### it is so -/
theorem keep_ofO {o : Option Rv} {s : S} {r : Rv} (h : got (ofO o s) = some r) : (ofO o s : R S Rv) = .ok r s := by
  cases o with
  | none => simp [ofO, got] at h
  | some a => simp [ofO, got] at h ⊢; exact h
/-- an operation that leaves the state -/
def Keeps (k : R S Rv) (s : S) : Prop := ∀ r s', k = .ok r s' → s' = s
theorem got_ok {k : R S Rv} {s : S} {r : Rv} (K : Keeps k s) (h : got k = some r) : k = .ok r s := by
  cases k with
  | ok a s' => simp [got] at h; subst h; rw [K a s' rfl]
  | exc c d s' => simp [got] at h
  | bad => simp [got] at h
theorem keeps_ofO (o : Option Rv) (s : S) : Keeps (ofO o s) s := fun r s' e => by
  cases o with
  | none => simp [ofO] at e
  | some a => simp [ofO] at e; exact e.2.symm
theorem keeps_bin {op : Operator} {x y : Rv} {s : S} : Keeps (kBin op x y s) s := by
  unfold kBin; split
  · exact keeps_ofO _ _
  · intro r s' e; simp at e
theorem keeps_cmp {op : CmpOp} {x y : Rv} {s : S} : Keeps (kCmp op x y s) s := by
  unfold kCmp; split
  · exact keeps_ofO _ _
  · intro r s' e; simp at e
theorem keeps_ix {x y : Rv} {s : S} : Keeps (kIx x y s) s := by
  unfold kIx; split
  · exact keeps_ofO _ _
  · intro r s' e; simp at e
theorem keeps_sl {x : Rv} {l h : Option Int} {s : S} : Keeps (kSl x l h s) s := by
  unfold kSl; split
  · exact keeps_ofO _ _
  · intro r s' e; simp at e
theorem keeps_bi {b : Bi} {rs : List Rv} {s : S} : Keeps (kBi b rs s) s := by
  unfold kBi; split
  · exact keeps_ofO _ _
  · intro r s' e; simp at e
theorem keeps_srt {t : Ty} {x : Rv} {s : S} : Keeps (kSrt t x s) s := by
  unfold kSrt; split
  · exact keeps_ofO _ _
  · intro r s' e; simp at e
theorem keeps_isN {n : Bool} {x : Rv} {s : S} : Keeps (kIsN n x s) s := by
  unfold kIsN; intro r s' e
  repeat' (split at e)
  all_goals first | (cases e; rfl) | cases e
theorem keeps_neg {x : Rv} {s : S} : Keeps (kNeg x s) s := by
  unfold kNeg; intro r s' e
  repeat' (split at e)
  all_goals first | (cases e; rfl) | cases e
theorem keeps_isi {t : String} {x : Rv} {s : S} : Keeps (kIsi t x s) s := by
  unfold kIsi; intro r s' e
  repeat' (split at e)
  all_goals first | (cases e; rfl) | cases e
theorem keeps_rng {t : Bool} {p : Int × Int} {s : S} : Keeps (kRng t p s) s := by
  unfold kRng; intro r s' e
  split at e
  · cases e; rfl
  · cases e
theorem keeps_lenSet {x : Rv} {s : S} : Keeps (kLenSet x s) s := by
  unfold kLenSet; intro r s' e
  repeat' (split at e)
  all_goals first | (cases e; rfl) | cases e
theorem keeps_dIn {neg : Bool} {i : Nat} {x : Rv} {s : S} : Keeps (kDIn neg i x s) s := by
  unfold kDIn; intro r s' e
  repeat' (split at e)
  all_goals first | (cases e; rfl) | cases e
theorem keeps_dGet {i : Nat} {x : Rv} {s : S} : Keeps (kDGet i x s) s := by
  unfold kDGet; intro r s' e
  split at e
  · split at e
    · exact keeps_ofO _ _ _ _ e
    · cases e
  · cases e
theorem keeps_dSrt {t : Ty} {i : Nat} {s : S} : Keeps (kDSrt t i s) s := by
  unfold kDSrt; intro r s' e
  split at e
  · exact keeps_ofO _ _ _ _ e
  · cases e
theorem goti_seq {x : Rv} {s : S} {p : Rv × List D} (h : goti (kSeq x s) = some p) : kSeq x s = .ok p s := by
  unfold kSeq at h ⊢
  split at h <;> simp_all [goti]
theorem goti_rg {x : Int × Int} {s : S} {p : Rv × List D} (h : goti (kRgI x s) = some p) : kRgI x s = .ok p s := by
  unfold kRgI at h ⊢
  split at h <;> simp_all [goti]
theorem goti_zip {x y : Rv} {s : S} {p : Rv × List D} (h : goti (kZip x y s) = some p) : kZip x y s = .ok p s := by
  unfold kZip at h ⊢
  split at h <;> simp_all [goti]
theorem goti_enm {x : Rv} {s : S} {p : Rv × List D} (h : goti (kEnm x s) = some p) : kEnm x s = .ok p s := by
  unfold kEnm at h ⊢
  split at h <;> simp_all [goti]
theorem pint_ok {x : Rv} {i : Int} (h : pint x = some i) : x = .m (.fro (.int i)) := by
  unfold pint at h
  split at h <;> simp_all
theorem pfrz_ok {s : S} {r : Rv} {d : D} (h : pfrz s r = some d) : frz s r = some (d, s) := by
  cases r with
  | m v => simp only [pfrz] at h; simp [frz, h]
  | bor i => simp [pfrz] at h
theorem pfrzs_ok {s : S} : ∀ {rs : List Rv} {ds : List D}, pfrzs s rs = some ds → frzAll s rs = some (ds, s)
  | [], ds, h => by simp [pfrzs] at h; subst h; rfl
  | r :: rs, ds, h => by
    simp only [pfrzs, Option.bind_eq_some_iff] at h
    obtain ⟨d, h1, ds', h2, h3⟩ := h
    cases h3
    simp [frzAll, pfrz_ok h1, pfrzs_ok h2]
theorem pTup_ok {s : S} {rs : List Rv} {r : Rv} (h : pTup s rs = some r) : kTup rs s = .ok r s := by
  simp only [pTup, Option.bind_eq_some_iff] at h
  obtain ⟨ds, h1, h2⟩ := h
  split at h2
  · rename_i hl
    cases h2
    simp only [kTup, pfrzs_ok h1, hl, if_true]
  · cases h2
theorem pLst_ok {s : S} {rs : List Rv} {r : Rv} (h : pLst s rs = some r) : kLst rs s = .ok r s := by
  simp only [pLst, Option.bind_eq_some_iff] at h
  obtain ⟨ds, h1, h2⟩ := h
  split at h2
  · rename_i hl
    cases h2
    simp only [kLst, pfrzs_ok h1, hl, if_true]
  · cases h2
theorem pargs_ok {s : S} : ∀ {rs : List Rv} {as : List Arg}, pargs rs = some as → lend s rs = some (as, [])
  | [], as, h => by simp [pargs] at h; subst h; rfl
  | .bor _ :: _, as, h => by simp [pargs] at h
  | .m v :: rs, as, h => by
    simp only [pargs, Option.bind_eq_some_iff] at h
    obtain ⟨w, h1, as', h2, h3⟩ := h
    cases h3
    simp only [lend, pargs_ok (s := s) h2]
    split at h1
    · rename_i ho
      obtain ⟨d, e1, e2⟩ := Option.map_eq_some_iff.mp h1
      subst e2
      simp [ho, e1]
    · rename_i ho
      cases h1
      simp [ho]
theorem pcall_ok {call : Nat → List Arg → List M → R (List M) M} {f : Nat} {perm : List Nat} {rs : List Rv} {s : S} {r : Rv} (h : pcall call f perm rs = some r) : callWith call f perm s rs = .ok r s := by
  simp only [pcall, Option.bind_eq_some_iff] at h
  obtain ⟨as, h1, h2⟩ := h
  have e := pargs_ok (s := s) h1
  unfold callWith
  rw [e]
  simp only [apart, List.map_nil, List.nodup_nil, decide_true, if_true]
  unfold resM at h2
  split at h2
  · rename_i v hv
    cases h2
    rw [hv]
    rfl
  · cases h2
theorem S.ext' {s t : S} (h1 : s.r = t.r) (h2 : s.u = t.u) : s = t := by cases s; cases t; simp_all
theorem foldl_un_get (l : List Nat) : ∀ (r : List Sl) (j : Nat), (l.foldl (fun r i => r.set i .un) r)[j]? = if j ∈ l ∧ j < r.length then some .un else r[j]? := by
  induction l with
  | nil => intro r j; simp
  | cons i l ih =>
    intro r j
    rw [List.foldl_cons, ih, List.length_set, List.getElem?_set]
    by_cases h1 : j ∈ l ∧ j < r.length
    · have : j ∈ i :: l ∧ j < r.length := ⟨by simp [h1.1], h1.2⟩
      simp [h1, this]
    · by_cases h2 : i = j
      · subst h2
        by_cases h3 : i < r.length <;> simp [h1, h3]
      · have h2' : ¬ j = i := fun e => h2 e.symm
        simp [h1, h2, h2']
theorem foldl_back_get (s : List Sl) (l : List Nat) : ∀ (r : List Sl) (j : Nat), (l.foldl (fun r i => r.set i (s.getD i .un)) r)[j]? = if j ∈ l ∧ j < r.length then some (s.getD j .un) else r[j]? := by
  induction l with
  | nil => intro r j; simp
  | cons i l ih =>
    intro r j
    rw [List.foldl_cons, ih, List.length_set, List.getElem?_set]
    by_cases h1 : j ∈ l ∧ j < r.length
    · have : j ∈ i :: l ∧ j < r.length := ⟨by simp [h1.1], h1.2⟩
      simp [h1, this]
    · by_cases h2 : i = j
      · subst h2
        by_cases h3 : i < r.length <;> simp [h1, h3]
      · have h2' : ¬ j = i := fun e => h2 e.symm
        simp [h1, h2, h2']
theorem foldl_len {f : Nat → Sl} (l : List Nat) : ∀ (r : List Sl), (l.foldl (fun r i => r.set i (f i)) r).length = r.length := by
  induction l with
  | nil => intro r; rfl
  | cons i l ih => intro r; rw [List.foldl_cons, ih, List.length_set]
theorem unwipe_wipe (s : S) (own : List Nat) : unwipe s (wipeS s own) own = s := by
  apply S.ext'
  · apply List.ext_getElem?
    intro j
    have hl : (own.foldl (fun r i => r.set i Sl.un) s.r).length = s.r.length := foldl_len (f := fun _ => .un) own s.r
    show (own.foldl (fun r i => r.set i (s.r.getD i .un)) (own.foldl (fun r i => r.set i .un) s.r))[j]? = _
    rw [foldl_back_get, hl, foldl_un_get]
    by_cases h : j ∈ own ∧ j < s.r.length
    · simp only [if_pos h]
      rw [List.getD_eq_getElem?_getD, List.getElem?_eq_getElem h.2]; rfl
    · simp [if_neg h]
  · rfl
/-- s1 and s differ in the slots own alone -/
def Like (own : List Nat) (s s1 : S) : Prop := s1.u = s.u ∧ s1.r.length = s.r.length ∧ ∀ j, j ∉ own → s1.r[j]? = s.r[j]?
theorem Like.wipe {own : List Nat} {s s1 : S} (h : Like own s s1) : wipeS s1 own = wipeS s own := by
  obtain ⟨h1, h2, h3⟩ := h
  apply S.ext'
  · apply List.ext_getElem?
    intro j
    show (own.foldl (fun r i => r.set i Sl.un) s1.r)[j]? = (own.foldl (fun r i => r.set i Sl.un) s.r)[j]?
    rw [foldl_un_get, foldl_un_get, h2]
    by_cases h : j ∈ own
    · by_cases k : j < s.r.length
      · simp [h, k]
      · simp [h, k, List.getElem?_eq_none (Nat.not_lt.1 k), List.getElem?_eq_none (h2 ▸ Nat.not_lt.1 k : s1.r.length ≤ j)]
    · simp [h, h3 j h]
  · exact h1
theorem Like.refl {own : List Nat} {s : S} : Like own s s := ⟨rfl, rfl, fun _ _ => rfl⟩
theorem Like.trans {own : List Nat} {s s1 s2 : S} (a : Like own s s1) (b : Like own s1 s2) : Like own s s2 := ⟨b.1.trans a.1, b.2.1.trans a.2.1, fun j h => (b.2.2 j h).trans (a.2.2 j h)⟩
theorem Like.wiped {own : List Nat} {s : S} : Like own s (wipeS s own) := ⟨rfl, foldl_len (f := fun _ => .un) own s.r, fun j h => by
  show (own.foldl (fun r i => r.set i Sl.un) s.r)[j]? = _
  rw [foldl_un_get]; simp [h]⟩
theorem Like.more {own own1 : List Nat} {s s1 : S} (a : Like own1 s s1) (h : ∀ i ∈ own1, i ∈ own) : Like own s s1 := ⟨a.1, a.2.1, fun j hj => a.2.2 j fun k => hj (h j k)⟩
mutual
theorem bindT_like {own : List Nat} : ∀ (t : T) {d : D} {s s1 : S}, tInW own t = true → bindT t d s = some s1 → Like own s s1
  | .nm i, d, s, s1, hi, h => by
    simp only [bindT, Option.some.injEq] at h
    subst h
    simp only [tInW, decide_eq_true_eq] at hi
    refine ⟨rfl, by simp [S.set], fun j hj => ?_⟩
    show (s.r.set i _)[j]? = _
    rw [List.getElem?_set_ne]
    intro e; subst e; exact hj hi
  | .tp ts, .tuple ds, s, s1, hi, h => by
    simp only [bindT] at h
    exact bindTs_like ts (by simpa [tInW] using hi) h
  | .tp _, .none, s, s1, hi, h => by simp [bindT] at h
  | .tp _, .bool _, s, s1, hi, h => by simp [bindT] at h
  | .tp _, .int _, s, s1, hi, h => by simp [bindT] at h
  | .tp _, .str _, s, s1, hi, h => by simp [bindT] at h
  | .tp _, .list _, s, s1, hi, h => by simp [bindT] at h
  | .tp _, .dict _, s, s1, hi, h => by simp [bindT] at h
theorem bindTs_like {own : List Nat} : ∀ (ts : Ts) {ds : List D} {s s1 : S}, tsInW own ts = true → bindTs ts ds s = some s1 → Like own s s1
  | .nil, [], s, s1, hi, h => by simp only [bindTs, Option.some.injEq] at h; subst h; exact .refl
  | .nil, _ :: _, s, s1, hi, h => by simp [bindTs] at h
  | .cons t ts, [], s, s1, hi, h => by simp [bindTs] at h
  | .cons t ts, d :: ds, s, s1, hi, h => by
    simp only [bindTs] at h
    simp only [tsInW, Bool.and_eq_true] at hi
    split at h
    · rename_i s2 h2
      exact (bindT_like t hi.1 h2).trans (bindTs_like ts hi.2 h)
    · cases h
end
theorem pMap_len {α : Type} {f : α → Option (List D)} : ∀ {xs : List α} {l : List D}, pMap f xs = some l → True := fun _ => trivial
/-- the turns of a block that only reads -/
theorem lcGo_p {own : List Nat} {turn : D → S → List D → R S (List D)} {s : S} {f : D → Option (List D)} (ht : ∀ d a acc, f d = some a → acc.length + a.length < line + 1 → ∃ s', turn d s acc = .ok (acc ++ a) s' ∧ wipeS s' own = s) :
    ∀ (ds : List D) (l acc : List D), pMap f ds = some l → acc.length + l.length < line + 1 → lcGo own turn ds s acc = .ok (acc ++ l) s
  | [], l, acc, h, hl => by simp [pMap] at h; subst h; simp [lcGo]
  | d :: ds, l, acc, h, hl => by
    simp only [pMap, Option.bind_eq_some_iff] at h
    obtain ⟨a, h1, b, h2, h3⟩ := h
    cases h3
    rw [List.length_append] at hl
    obtain ⟨s', e1, e2⟩ := ht d a acc h1 (by omega)
    rw [lcGo, e1]
    show lcGo own turn ds (wipeS s' own) (acc ++ a) = _
    rw [e2, lcGo_p ht ds b (acc ++ a) h2 (by rw [List.length_append]; omega), List.append_assoc]
theorem keep1_p {s : S} {y : Rv} {a acc : List D} (h : pone s y = some a) (hl : acc.length + a.length < line + 1) : keep1 y acc s = .ok (acc ++ a) s := by
  simp only [pone, Option.bind_eq_some_iff] at h
  obtain ⟨d, h1, h2⟩ := h
  cases h2
  have hl : acc.length < line := by simp at hl; omega
  simp only [keep1, pfrz_ok h1, hl, if_true]
theorem runLc_p {own : List Nat} {v : M} {turn : D → S → List D → R S (List D)} {s : S} {f : D → Option (List D)} {ds : List D} {r : Rv} (ht : ∀ d a acc, f d = some a → acc.length + a.length < line + 1 → ∃ s', turn d (wipeS s own) acc = .ok (acc ++ a) s' ∧ wipeS s' own = wipeS s own)
    (h : (pMap f ds).bind pfit = some r) : runLc own (.m v) turn ds s = .ok r s := by
  obtain ⟨l, h1, h2⟩ := Option.bind_eq_some_iff.mp h
  unfold pfit at h2
  split at h2
  · rename_i hl
    cases h2
    unfold runLc
    show (match lcEnd own s (lcGo own turn ds (wipeS s own) []) with | .ok v s3 => _ | .exc c d s3 => _ | .bad => _) = _
    rw [lcGo_p ht ds l [] h1 (by simp only [List.length_nil]; omega)]
    simp only [lcEnd, List.nil_append, unwipe_wipe]
    rfl
  · cases h2
theorem ptst_ok {call : Nat → List Arg → List M → R (List M) M} {a : Ex} {s : S} {b : Bool} (ih : ∀ r, pev call a s = some r → evE call a s = .ok r s) (h : ptst (pev call a s) = some b) : tst (evE call a s) = .ok b s := by
  cases q : pev call a s with
  | none => rw [q] at h; cases h
  | some r =>
    rw [q] at h
    have h : truth r = some b := h
    rw [ih r q]
    show ofO (truth r) s = _
    rw [h]; rfl
section
variable {call : Nat → List Arg → List M → R (List M) M}
mutual
theorem pev_ok : ∀ (e : Ex) (s : S) (r : Rv), wfE e = true → pev call e s = some r → evE call e s = .ok r s
  | .non, s, r, _, h => by simp only [pev, Option.some.injEq] at h; subst h; rfl
  | .bl b, s, r, _, h => by simp only [pev, Option.some.injEq] at h; subst h; rfl
  | .int b, s, r, _, h => by simp only [pev, Option.some.injEq] at h; subst h; rfl
  | .str b, s, r, _, h => by simp only [pev, Option.some.injEq] at h; subst h; rfl
  | .fnv b, s, r, _, h => by simp only [pev, Option.some.injEq] at h; subst h; rfl
  | .var i, s, r, _, h => by
    simp only [pev] at h
    simp only [evE]
    split at h
    · rename_i v hv
      try rw [hv]
      try simp only
      split at h <;> (rename_i ho; cases h; simp [ho])
    · cases h
  | .bin op a b, s, r, w, h => by
    simp only [wfE, Bool.and_eq_true] at w
    simp only [pev, Option.bind_eq_some_iff] at h
    obtain ⟨x, h1, y, h2, h3⟩ := h
    rw [evE, pev_ok a s x w.1 h1, bind_ok, pev_ok b s y w.2 h2, bind_ok, got_ok keeps_bin h3]
  | .cmp op a b, s, r, w, h => by
    simp only [wfE, Bool.and_eq_true] at w
    simp only [pev, Option.bind_eq_some_iff] at h
    obtain ⟨x, h1, y, h2, h3⟩ := h
    rw [evE, pev_ok a s x w.1 h1, bind_ok, pev_ok b s y w.2 h2, bind_ok, got_ok keeps_cmp h3]
  | .isN neg a, s, r, w, h => by
    simp only [wfE] at w
    simp only [pev, Option.bind_eq_some_iff] at h
    obtain ⟨x, h1, h3⟩ := h
    rw [evE, pev_ok a s x w h1, bind_ok, got_ok keeps_isN h3]
  | .and as, s, r, w, h => by
    simp only [wfE] at w
    simp only [pev, Option.bind_eq_some_iff, Option.some.injEq] at h
    obtain ⟨x, h1, rfl⟩ := h
    rw [evE, pAnd_ok as s x w h1]; rfl
  | .or as, s, r, w, h => by
    simp only [wfE] at w
    simp only [pev, Option.bind_eq_some_iff, Option.some.injEq] at h
    obtain ⟨x, h1, rfl⟩ := h
    rw [evE, pOr_ok as s x w h1]; rfl
  | .not a, s, r, w, h => by
    simp only [wfE] at w
    simp only [pev, Option.bind_eq_some_iff, Option.some.injEq] at h
    obtain ⟨x, h1, rfl⟩ := h
    rw [evE, ptst_ok (fun r q => pev_ok a s r w q) h1]; rfl
  | .neg a, s, r, w, h => by
    simp only [wfE] at w
    simp only [pev, Option.bind_eq_some_iff] at h
    obtain ⟨x, h1, h3⟩ := h
    rw [evE, pev_ok a s x w h1, bind_ok, got_ok keeps_neg h3]
  | .ite c a b, s, r, w, h => by
    simp only [wfE, Bool.and_eq_true] at w
    simp only [pev, Option.bind_eq_some_iff] at h
    obtain ⟨k, h1, h2⟩ := h
    rw [evE, ptst_ok (fun r q => pev_ok c s r w.1.1 q) h1, bind_ok]
    split at h2
    · rename_i hk
      rw [if_pos hk]; exact pev_ok a s r w.1.2 h2
    · rename_i hk
      rw [if_neg hk]; exact pev_ok b s r w.2 h2
  | .tup as, s, r, w, h => by
    simp only [wfE] at w
    simp only [pev, Option.bind_eq_some_iff] at h
    obtain ⟨x, h1, h3⟩ := h
    rw [evE, pXs_ok as s x w h1, bind_ok, pTup_ok h3]
  | .lst as, s, r, w, h => by
    simp only [wfE] at w
    simp only [pev, Option.bind_eq_some_iff] at h
    obtain ⟨x, h1, h3⟩ := h
    rw [evE, pXs_ok as s x w h1, bind_ok, pLst_ok h3]
  | .ix a b, s, r, w, h => by
    simp only [wfE, Bool.and_eq_true] at w
    simp only [pev, Option.bind_eq_some_iff] at h
    obtain ⟨x, h1, y, h2, h3⟩ := h
    rw [evE, pev_ok a s x w.1 h1, bind_ok, pev_ok b s y w.2 h2, bind_ok, got_ok keeps_ix h3]
  | .sl a lo hi, s, r, w, h => by
    simp only [wfE, Bool.and_eq_true] at w
    simp only [pev, Option.bind_eq_some_iff] at h
    obtain ⟨x, h1, y, h2, z, h3, h4⟩ := h
    rw [evE, pev_ok a s x w.1.1 h1, bind_ok, pXo_ok lo s y w.1.2 h2, bind_ok, pXo_ok hi s z w.2 h3, bind_ok, got_ok keeps_sl h4]
  | .lc own t it ifs e, s, r, w, h => by
    simp only [wfE, Bool.and_eq_true] at w
    simp only [pev] at h
    obtain ⟨l, h1, h2⟩ := Option.bind_eq_some_iff.mp h
    obtain ⟨v, ds, h3, h4⟩ := pOver_ok h1
    rw [evE, pI_ok it s _ w.1.1.2 h3, bind_ok]
    refine runLc_p (fun d a acc hf hl => ?_) (Option.bind_eq_some_iff.mpr ⟨l, h4, h2⟩)
    simp only [Option.bind_eq_some_iff] at hf
    obtain ⟨s3, e1, b, e2, e3⟩ := hf
    refine ⟨s3, ?_, (bindT_like t w.1.1.1 e1).wipe.trans (Like.wipe Like.wiped)⟩
    unfold turnLc
    rw [e1]
    show (evIfs call ifs s3).bind _ = _
    rw [pIfs_ok ifs s3 b w.1.2 e2, bind_ok]
    split at e3
    · rename_i hb
      rw [if_pos hb]
      obtain ⟨y, e4, e5⟩ := Option.bind_eq_some_iff.mp e3
      rw [pev_ok e s3 y w.2 e4, bind_ok]
      exact keep1_p e5 hl
    · rename_i hb
      rw [if_neg hb]
      cases e3
      simp
  | .lc2 own own1 t it ifs t1 it1 ifs1 e, s, r, w, h => by
    simp only [wfE, Bool.and_eq_true] at w
    obtain ⟨⟨⟨⟨⟨⟨⟨w0, w1⟩, w2⟩, w3⟩, w4⟩, w5⟩, w6⟩, w7⟩ := w
    have w0 : ∀ i ∈ own1, i ∈ own := by simpa using w0
    simp only [pev] at h
    obtain ⟨l, h1, h2⟩ := Option.bind_eq_some_iff.mp h
    obtain ⟨v, ds, h3, h4⟩ := pOver_ok h1
    rw [evE, pI_ok it s _ w3 h3, bind_ok]
    refine runLc_p (fun d a acc hf hl => ?_) (Option.bind_eq_some_iff.mpr ⟨l, h4, h2⟩)
    simp only [Option.bind_eq_some_iff] at hf
    obtain ⟨s3, e1, b, e2, e3⟩ := hf
    have L3 := bindT_like t w1 e1
    rw [e1]
    simp only
    rw [pIfs_ok ifs s3 b w4 e2, bind_ok]
    split at e3
    · rename_i hb
      rw [if_pos hb]
      obtain ⟨v1, ds1, e4, e5⟩ := pOver_ok e3
      rw [pI_ok it1 s3 _ w5 e4, bind_ok]
      refine ⟨wipeS s3 own1, ?_, ((L3.trans (Like.more Like.wiped w0)).wipe).trans (Like.wipe Like.wiped)⟩
      unfold runLc1
      show (match lcGo own1 (turnLc t1 (evIfs call ifs1) (evE call e)) ds1 (wipeS s3 own1) acc with
        | .ok acc1 s7 => _ | .exc c d s7 => _ | .bad => _) = _
      rw [lcGo_p (f := fun d1 => (bindT t1 d1 (wipeS s3 own1)).bind fun s4 => (pIfs call ifs1 s4).bind fun b1 => if b1 = true then (pev call e s4).bind fun y => pone s4 y else some []) (fun d1 a1 acc1 hf1 hl1 => ?_) ds1 a acc e5 hl]
      · rfl
      · simp only [Option.bind_eq_some_iff] at hf1
        obtain ⟨s4, g1, b1, g2, g3⟩ := hf1
        refine ⟨s4, ?_, (bindT_like t1 w2 g1).wipe.trans (Like.wipe Like.wiped)⟩
        unfold turnLc
        rw [g1]
        show (evIfs call ifs1 s4).bind _ = _
        rw [pIfs_ok ifs1 s4 b1 w6 g2, bind_ok]
        split at g3
        · rename_i hb
          rw [if_pos hb]
          obtain ⟨y, g4, g5⟩ := Option.bind_eq_some_iff.mp g3
          rw [pev_ok e s4 y w7 g4, bind_ok]
          exact keep1_p g5 hl1
        · rename_i hb
          rw [if_neg hb]
          cases g3
          simp
    · rename_i hb
      rw [if_neg hb]
      cases e3
      exact ⟨s3, by simp, L3.wipe.trans (Like.wipe Like.wiped)⟩
  | .call f as, s, r, w, h => by
    simp only [wfE] at w
    simp only [pev, Option.bind_eq_some_iff] at h
    obtain ⟨x, h1, h3⟩ := h
    rw [evE, pXs_ok as s x w h1, bind_ok, pcall_ok h3]
  | .callK f as ks bs perm, s, r, w, h => by
    simp only [wfE, Bool.and_eq_true] at w
    simp only [pev, Option.bind_eq_some_iff] at h
    obtain ⟨x, h1, y, h2, h3⟩ := h
    rw [evE, pXs_ok as s x w.1 h1, bind_ok, pXs_ok bs s y w.2 h2, bind_ok, pcall_ok h3]
  | .callV i as, s, r, w, h => by
    simp only [wfE] at w
    simp only [pev] at h
    rw [evE]
    split at h
    · rename_i f hf
      simp only [Option.bind_eq_some_iff] at h
      obtain ⟨x, h1, h3⟩ := h
      try rw [hf]
      try simp only
      rw [pXs_ok as s x w h1, bind_ok, pcall_ok h3]
    · cases h
  | .bi b as, s, r, w, h => by
    simp only [wfE] at w
    simp only [pev, Option.bind_eq_some_iff] at h
    obtain ⟨x, h1, h3⟩ := h
    rw [evE, pXs_ok as s x w h1, bind_ok, got_ok keeps_bi h3]
  | .isi t a, s, r, w, h => by
    simp only [wfE] at w
    simp only [pev, Option.bind_eq_some_iff] at h
    obtain ⟨x, h1, h3⟩ := h
    rw [evE, pev_ok a s x w h1, bind_ok, got_ok keeps_isi h3]
  | .rng t g, s, r, w, h => by
    simp only [wfE] at w
    simp only [pev, Option.bind_eq_some_iff] at h
    obtain ⟨x, h1, h3⟩ := h
    rw [evE, pRg_ok g s x w h1, bind_ok, got_ok keeps_rng h3]
  | .lenSet a, s, r, w, h => by
    simp only [wfE] at w
    simp only [pev, Option.bind_eq_some_iff] at h
    obtain ⟨x, h1, h3⟩ := h
    rw [evE, pev_ok a s x w h1, bind_ok, got_ok keeps_lenSet h3]
  | .srt t a, s, r, w, h => by
    simp only [wfE] at w
    simp only [pev, Option.bind_eq_some_iff] at h
    obtain ⟨x, h1, h3⟩ := h
    rw [evE, pev_ok a s x w h1, bind_ok, got_ok keeps_srt h3]
  | .frz a, s, r, w, h => by
    simp only [wfE] at w
    simp only [pev, Option.bind_eq_some_iff, Option.some.injEq] at h
    obtain ⟨x, h1, d, h2, rfl⟩ := h
    rw [evE, pev_ok a s x w h1, bind_ok, kFrz, pfrz_ok h2]
  | .dnew b, s, r, w, h => by simp only [pev, Option.some.injEq] at h; subst h; rfl
  | .dIn neg a i, s, r, w, h => by
    simp only [wfE] at w
    simp only [pev, Option.bind_eq_some_iff] at h
    obtain ⟨x, h1, h3⟩ := h
    rw [evE, pev_ok a s x w h1, bind_ok, got_ok keeps_dIn h3]
  | .dGet i a, s, r, w, h => by
    simp only [wfE] at w
    simp only [pev, pguard] at h
    split at h
    · rename_i hd
      simp only [Option.bind_eq_some_iff] at h
      obtain ⟨x, h1, h3⟩ := h
      rw [evE, if_pos hd, pev_ok a s x w h1, bind_ok, got_ok keeps_dGet h3]
    · cases h
  | .dSrt t i, s, r, w, h => by
    simp only [pev] at h
    rw [evE, got_ok keeps_dSrt h]
  | .app _ _, s, r, w, h => by simp [pev] at h
  | .ext _ _, s, r, w, h => by simp [pev] at h
  | .pop _, s, r, w, h => by simp [pev] at h
  | .popAt _ _, s, r, w, h => by simp [pev] at h
theorem pXs_ok : ∀ (as : Xs) (s : S) (r : List Rv), wfXs as = true → pXs call as s = some r → evXs call as s = .ok r s
  | .nil, s, r, w, h => by simp only [pXs, Option.some.injEq] at h; subst h; rfl
  | .cons a as, s, r, w, h => by
    simp only [wfXs, Bool.and_eq_true] at w
    simp only [pXs, Option.bind_eq_some_iff, Option.some.injEq] at h
    obtain ⟨x, h1, xs, h2, rfl⟩ := h
    rw [evXs, pev_ok a s x w.1 h1, bind_ok, pXs_ok as s xs w.2 h2, bind_ok]
theorem pAnd_ok : ∀ (as : Xs) (s : S) (b : Bool), wfXs as = true → pAnd call as s = some b → evAnd call as s = .ok b s
  | .nil, s, b, w, h => by simp [pAnd] at h
  | .cons a as, s, b, w, h => by
    simp only [wfXs, Bool.and_eq_true] at w
    simp only [pAnd, Option.bind_eq_some_iff] at h
    obtain ⟨k, h1, h2⟩ := h
    rw [evAnd, ptst_ok (fun r q => pev_ok a s r w.1 q) h1, bind_ok]
    split at h2
    · rename_i hk; rw [if_pos hk]; exact pAnd1_ok as s b w.2 h2
    · rename_i hk; rw [if_neg hk]; cases h2; rfl
theorem pAnd1_ok : ∀ (as : Xs) (s : S) (b : Bool), wfXs as = true → pAnd1 call as s = some b → evAnd1 call as s = .ok b s
  | .nil, s, b, w, h => by simp only [pAnd1, Option.some.injEq] at h; subst h; rfl
  | .cons a as, s, b, w, h => by
    simp only [wfXs, Bool.and_eq_true] at w
    simp only [pAnd1, Option.bind_eq_some_iff] at h
    obtain ⟨k, h1, h2⟩ := h
    rw [evAnd1, ptst_ok (fun r q => pev_ok a s r w.1 q) h1, bind_ok]
    split at h2
    · rename_i hk; rw [if_pos hk]; exact pAnd1_ok as s b w.2 h2
    · rename_i hk; rw [if_neg hk]; cases h2; rfl
theorem pOr_ok : ∀ (as : Xs) (s : S) (b : Bool), wfXs as = true → pOr call as s = some b → evOr call as s = .ok b s
  | .nil, s, b, w, h => by simp [pOr] at h
  | .cons a as, s, b, w, h => by
    simp only [wfXs, Bool.and_eq_true] at w
    simp only [pOr, Option.bind_eq_some_iff] at h
    obtain ⟨k, h1, h2⟩ := h
    rw [evOr, ptst_ok (fun r q => pev_ok a s r w.1 q) h1, bind_ok]
    split at h2
    · rename_i hk; rw [if_pos hk]; cases h2; rfl
    · rename_i hk; rw [if_neg hk]; exact pOr1_ok as s b w.2 h2
theorem pOr1_ok : ∀ (as : Xs) (s : S) (b : Bool), wfXs as = true → pOr1 call as s = some b → evOr1 call as s = .ok b s
  | .nil, s, b, w, h => by simp only [pOr1, Option.some.injEq] at h; subst h; rfl
  | .cons a as, s, b, w, h => by
    simp only [wfXs, Bool.and_eq_true] at w
    simp only [pOr1, Option.bind_eq_some_iff] at h
    obtain ⟨k, h1, h2⟩ := h
    rw [evOr1, ptst_ok (fun r q => pev_ok a s r w.1 q) h1, bind_ok]
    split at h2
    · rename_i hk; rw [if_pos hk]; cases h2; rfl
    · rename_i hk; rw [if_neg hk]; exact pOr1_ok as s b w.2 h2
theorem pXo_ok : ∀ (o : Xo) (s : S) (i : Option Int), wfXo o = true → pXo call o s = some i → evXo call o s = .ok i s
  | .no, s, i, w, h => by simp only [pXo, Option.some.injEq] at h; subst h; rfl
  | .so a, s, i, w, h => by
    simp only [wfXo] at w
    simp only [pXo, Option.bind_eq_some_iff, Option.some.injEq] at h
    obtain ⟨x, h1, j, h2, rfl⟩ := h
    rw [evXo, pev_ok a s x w h1, bind_ok, pint_ok h2]; rfl
theorem pRg_ok : ∀ (g : Rg) (s : S) (p : Int × Int), wfRg g = true → pRg call g s = some p → evRg call g s = .ok p s
  | .r1 a, s, p, w, h => by
    simp only [wfRg] at w
    simp only [pRg, Option.bind_eq_some_iff, Option.some.injEq] at h
    obtain ⟨x, h1, j, h2, rfl⟩ := h
    rw [evRg, pev_ok a s x w h1, bind_ok, pint_ok h2]; rfl
  | .r2 a b, s, p, w, h => by
    simp only [wfRg, Bool.and_eq_true] at w
    simp only [pRg, Option.bind_eq_some_iff, Option.some.injEq] at h
    obtain ⟨x, h1, y, h2, j, h3, k, h4, rfl⟩ := h
    rw [evRg, pev_ok a s x w.1 h1, bind_ok, pev_ok b s y w.2 h2, bind_ok, pint_ok h3, pint_ok h4]; rfl
theorem pIfs_ok : ∀ (o : Xo) (s : S) (b : Bool), wfXo o = true → pIfs call o s = some b → evIfs call o s = .ok b s
  | .no, s, b, w, h => by simp only [pIfs, Option.some.injEq] at h; subst h; rfl
  | .so a, s, b, w, h => by
    simp only [wfXo] at w
    simp only [pIfs] at h
    rw [evIfs, ptst_ok (fun r q => pev_ok a s r w q) h]
theorem pI_ok : ∀ (i : I) (s : S) (p : Rv × List D), wfI i = true → pI call i s = some p → evI call i s = .ok p s
  | .seq a, s, p, w, h => by
    simp only [wfI] at w
    simp only [pI, Option.bind_eq_some_iff] at h
    obtain ⟨x, h1, h2⟩ := h
    rw [evI, pev_ok a s x w h1, bind_ok, goti_seq h2]
  | .rng g, s, p, w, h => by
    simp only [wfI] at w
    simp only [pI, Option.bind_eq_some_iff] at h
    obtain ⟨x, h1, h2⟩ := h
    rw [evI, pRg_ok g s x w h1, bind_ok, goti_rg h2]
  | .zip a b, s, p, w, h => by
    simp only [wfI, Bool.and_eq_true] at w
    simp only [pI, Option.bind_eq_some_iff] at h
    obtain ⟨x, h1, y, h2, h3⟩ := h
    rw [evI, pev_ok a s x w.1 h1, bind_ok, pev_ok b s y w.2 h2, bind_ok, goti_zip h3]
  | .enm a, s, p, w, h => by
    simp only [wfI] at w
    simp only [pI, Option.bind_eq_some_iff] at h
    obtain ⟨x, h1, h2⟩ := h
    rw [evI, pev_ok a s x w h1, bind_ok, goti_enm h2]
end
end
end Ax
/-! P2: the plain functions in plain words. -/
namespace Ax
open PySem
theorem pMap_map {α β : Type} (g : β → α) (f : α → Option (List D)) : ∀ xs : List β, pMap f (xs.map g) = pMap (fun x => f (g x)) xs
  | [] => rfl
  | x :: xs => by rw [List.map_cons, pMap, pMap, pMap_map]
theorem pMap_some {α : Type} (f : α → List D) : ∀ xs : List α, pMap (fun x => some (f x)) xs = some (xs.flatMap f)
  | [] => rfl
  | x :: xs => by rw [pMap, pMap_some]; rfl
theorem pMap_nil {α : Type} (f : α → Option (List D)) : pMap f [] = some [] := rfl
theorem pMap_cons {α : Type} (f : α → Option (List D)) (x : α) (xs : List α) : pMap f (x :: xs) = (f x).bind fun a => (pMap f xs).bind fun b => some (a ++ b) := rfl
theorem pMap_on {α : Type} {f : α → Option (List D)} {g : α → List D} : ∀ {xs : List α}, (∀ x ∈ xs, f x = some (g x)) → pMap f xs = some (xs.flatMap g)
  | [], _ => rfl
  | x :: xs, h => by rw [pMap, h x (by simp), pMap_on fun y hy => h y (by simp [hy])]; rfl
theorem obind_m {α β : Type} (o : Option α) (f : α → Option β) : o.bind f = match o with
    | some x => f x
    | none => none := by cases o <;> rfl
theorem pOver_m (f : D → Option (List D)) (o : Option (Rv × List D)) : pOver f o = match o with
    | some (.m _, ds) => pMap f ds
    | _ => none := rfl
theorem rbind_m {σ α β : Type} (r : R σ α) (f : α → σ → R σ β) : r.bind f = match r with
    | .ok a s => f a s
    | .exc c d s => .exc c d s
    | .bad => .bad := by cases r <;> rfl
theorem obind_ite {α β : Type} (p : Prop) [Decidable p] (x y : Option α) (f : α → Option β) : (if p then x else y).bind f = if p then x.bind f else y.bind f := by split <;> rfl
theorem some_ite {α : Type} (p : Prop) [Decidable p] (x y : α) : (if p then some x else some y) = some (if p then x else y) := by split <;> rfl
theorem obool_and (p : Prop) [Decidable p] (b : Bool) : (if p then b else false) = (decide p && b) := by split <;> simp [*]
theorem obool_or (p : Prop) [Decidable p] (b : Bool) : (if p then true else b) = (decide p || b) := by split <;> simp [*]
theorem fm_one {α β : Type} (f : α → β) (xs : List α) : xs.flatMap (fun x => [f x]) = xs.map f := flat1 f xs
theorem fm_ite {α β : Type} (p : α → Prop) [DecidablePred p] (f : α → β) (xs : List α) : xs.flatMap (fun x => if p x then [f x] else []) = (xs.filter fun x => decide (p x)).map f := by
  induction xs with
  | nil => rfl
  | cons x xs ih => by_cases h : p x <;> simp [List.flatMap_cons, h, ih]
theorem fm_iteD {α β : Type} (p : α → Prop) [DecidablePred p] (f : α → β) (xs : List α) : xs.flatMap (fun x => if p x then [] else [f x]) = (xs.filter fun x => !decide (p x)).map f := by
  induction xs with
  | nil => rfl
  | cons x xs ih => by_cases h : p x <;> simp [List.flatMap_cons, h, ih]
theorem fm_bool {α β : Type} (p : α → Bool) (f : α → β) (xs : List α) : xs.flatMap (fun x => if p x = true then [f x] else []) = (xs.filter p).map f := by
  induction xs with
  | nil => rfl
  | cons x xs ih => by_cases h : p x = true <;> simp [List.flatMap_cons, h, ih]
theorem eqv_int (a b : Int) : PyData.eqv (.int a) (.int b) = decide (a = b) := by
  rw [PyData.eqv]; exact Bool.beq_eq_decide_eq a b
theorem hasD_int (x : Int) (xs : List Int) : hasD (.int x) (xs.map .int) = decide (x ∈ xs) := by
  induction xs with
  | nil => rfl
  | cons y ys ih =>
    rw [List.map_cons]
    unfold hasD at ih ⊢
    rw [List.any_cons, ih, eqv_int, Bool.eq_iff_iff, Bool.or_eq_true, decide_eq_true_eq, decide_eq_true_eq, decide_eq_true_eq, List.mem_cons, eq_comm]
theorem hasD_nil (x : D) : hasD x [] = false := rfl
theorem hasD_cons (x y : D) (ys : List D) : hasD x (y :: ys) = (PyData.eqv y x || hasD x ys) := by
  unfold hasD; rw [List.any_cons]
theorem pfit_ok {l : List D} (h : l.length < 16777216) : pfit l = some (.m (.lst l)) := if_pos h
/-- a pair of numbers -/
abbrev tie (p : Int × Int) : D := .tuple [.int p.1, .int p.2]
theorem eqv_tie (p q : Int × Int) : PyData.eqv (tie p) (tie q) = decide (p = q) := by
  obtain ⟨a, b⟩ := p
  obtain ⟨c, d⟩ := q
  have e : PyData.eqv (tie (a, b)) (tie (c, d)) = (decide (a = c) && decide (b = d)) := by
    simp [tie, PyData.eqv, PyData.eqvAll, Bool.beq_eq_decide_eq]
  rw [e, Bool.eq_iff_iff]
  simp
theorem hasD_tie (a b : Int) (ts : List (Int × Int)) : hasD (.tuple [.int a, .int b]) (ts.map tie) = decide ((a, b) ∈ ts) := by
  induction ts with
  | nil => rfl
  | cons y ys ih =>
    rw [List.map_cons]
    unfold hasD at ih ⊢
    have e : PyData.eqv (tie y) (.tuple [.int a, .int b]) = decide (y = (a, b)) := eqv_tie y (a, b)
    rw [List.any_cons, ih, e, Bool.eq_iff_iff, Bool.or_eq_true, decide_eq_true_eq, decide_eq_true_eq, decide_eq_true_eq, List.mem_cons, eq_comm]
theorem hasD_tie2 (p : Int × Int) (ts : List (Int × Int)) : hasD (tie p) (ts.map tie) = decide (p ∈ ts) := hasD_tie p.1 p.2 ts
/-- a row of numbers -/
abbrev row (xs : List Int) : D := .tuple (xs.map .int)
theorem eqv_ints : ∀ xs ys : List Int, PyData.eqvAll (xs.map .int) (ys.map .int) = decide (xs = ys)
  | [], [] => by simp [PyData.eqvAll]
  | [], y :: ys => by simp [PyData.eqvAll]
  | x :: xs, [] => by simp [PyData.eqvAll]
  | x :: xs, y :: ys => by
    rw [List.map_cons, List.map_cons, PyData.eqvAll, eqv_int, eqv_ints, Bool.eq_iff_iff]
    simp
theorem eqv_row (xs ys : List Int) : PyData.eqv (row xs) (row ys) = decide (xs = ys) := by
  rw [row, row, PyData.eqv, eqv_ints]
theorem hasD_row (xs : List Int) (rs : List (List Int)) : hasD (row xs) (rs.map row) = decide (xs ∈ rs) := by
  induction rs with
  | nil => rfl
  | cons y ys ih =>
    rw [List.map_cons]
    unfold hasD at ih ⊢
    rw [List.any_cons, ih, eqv_row, Bool.eq_iff_iff, Bool.or_eq_true, decide_eq_true_eq, decide_eq_true_eq, decide_eq_true_eq, List.mem_cons, eq_comm]

/-! ### statements -/
section
variable {call : Nat → List Arg → List M → R (List M) M} {as : Sts} {s : S} {x : Ex}
def thn (r : R S Fl) (k : S → R S Fl) : R S Fl := r.bind fun f s1 => match f with
  | .next => k s1
  | .ret v => .ok (.ret v) s1
theorem thn_next {k : S → R S Fl} {s1 : S} : thn (.ok .next s1) k = k s1 := rfl
theorem thn_ret {k : S → R S Fl} {s1 : S} {v : M} : thn (.ok (.ret v) s1) k = .ok (.ret v) s1 := rfl
theorem ss_cons {a : St} : evSs call (.cons a as) s = thn (evS call a s) (evSs call as) := by rw [evSs]; rfl
theorem ret_p (v : M) (w : wfE x = true) (h : pev call x s = some (.m v)) : evSs call (.cons (.ret x) as) s = .ok (.ret v) s := by
  rw [ss_cons, evS, pev_ok x s _ w h]; rfl
theorem asg_p {i : Nat} (v : M) (w : wfE x = true) (h : pev call x s = some (.m v)) : evSs call (.cons (.asg (.nm i) x) as) s = evSs call as (s.set i v) := by
  rw [ss_cons, evS, pev_ok x s _ w h]; rfl
theorem ite_p {a e : Sts} (b : Bool) (w : wfE x = true) (h : pev call x s = some (.m (.fro (.bool b)))) : evSs call (.cons (.ite x a e) as) s = thn (if b = true then evSs call a s else evSs call e s) (evSs call as) := by
  rw [ss_cons, evS, pev_ok x s _ w h]; rfl
theorem expr_p (r : Rv) (w : wfE x = true) (h : pev call x s = some r) : evSs call (.cons (.expr x) as) s = evSs call as s := by
  rw [ss_cons, evS, pev_ok x s _ w h]; rfl
theorem asgt_p {ts : Ts} (d : D) (s' : S) (w : wfE x = true) (h : pev call x s = some (.m (.fro d))) (hb : bindT (.tp ts) d s = some s') : evSs call (.cons (.asg (.tp ts) x) as) s = evSs call as s' := by
  rw [ss_cons, evS, pev_ok x s _ w h]
  simp only [bind_ok, hb]
  rfl
/-- xs is appended -/
theorem ext_p {i : Nat} {ds es : List D} (ho : s.at i = some (.lst ds)) (w : wfE x = true) (h : pev call x s = some (.m (.lst es))) (hl : ds.length + es.length ≤ line) :
    evSs call (.cons (.expr (.ext i x)) as) s = evSs call as (s.put i (.lst (ds ++ es))) := by
  have o : ownS s i = true := by unfold ownS; rw [ho]; rfl
  rw [ss_cons, evS, evE, if_pos o, pev_ok x s _ w h]
  simp only [bind_ok, kExt, view, M.cont, ho, hl, if_true]
  rfl
theorem app_p {i : Nat} {ds : List D} (d : D) (ho : s.at i = some (.lst ds)) (w : wfE x = true) (h : pev call x s = some (.m (.fro d))) (hl : ds.length < line) :
    evSs call (.cons (.expr (.app i x)) as) s = evSs call as (s.put i (.lst (ds ++ [d]))) := by
  have o : ownS s i = true := by unfold ownS; rw [ho]; rfl
  rw [ss_cons, evS, evE, if_pos o, pev_ok x s _ w h]
  simp only [bind_ok, kApp, frz, M.cont, Option.map_some, ho, hl, if_true]
  rfl
variable {t : T} {it : I} {b : Sts}
/-- a loop that goes through -/
theorem for_f {α γ : Type} {v : M} (enc : α → D) (xs : List α) (J : γ → S → Prop) (f : γ → α → γ) (g0 : γ) (w : wfI it = true) (hi : pI call it s = some (.m v, xs.map enc)) (j0 : J g0 s)
    (h : ∀ g x s, x ∈ xs → J g s → ∃ s3 s', bindT t (enc x) s = some s3 ∧ evSs call b s3 = .ok .next s' ∧ J (f g x) s') :
    ∃ s', J (xs.foldl f g0) s' ∧ evSs call (.cons (.for_ t it b) as) s = evSs call as s' := by
  have go : ∀ (ys : List α) (g : γ) (s : S), (∀ y ∈ ys, y ∈ xs) → J g s → ∃ s', J (ys.foldl f g) s' ∧ forGo (fun d s => match bindT t d s with
        | some s3 => evSs call b s3
        | none => .bad) (ys.map enc) s = .ok .next s' := by
    intro ys
    induction ys with
    | nil => intro g s _ j; exact ⟨s, j, rfl⟩
    | cons y ys ih =>
      intro g s hy j
      obtain ⟨s3, s1, e1, e2, j1⟩ := h g y s (hy y (by simp)) j
      obtain ⟨s2, j2, e3⟩ := ih (f g y) s1 (fun z hz => hy z (by simp [hz])) j1
      refine ⟨s2, j2, ?_⟩
      rw [List.map_cons, forGo]
      simp only [e1, e2, bind_ok]
      exact e3
  obtain ⟨s', j, e⟩ := go xs g0 s (fun _ h => h) j0
  refine ⟨s', j, ?_⟩
  rw [ss_cons, evS, pI_ok it s _ w hi]
  exact (congrArg (fun r => thn (forEnd s (.m v) r) (evSs call as)) e).trans rfl
/-- a loop that may end the def, with v -/
theorem for_r {α : Type} {v : M} (enc : α → D) (xs : List α) (J : S → Prop) (p : α → Bool) (rv : M) (w : wfI it = true) (hi : pI call it s = some (.m v, xs.map enc)) (j0 : J s)
    (h : ∀ x s, x ∈ xs → J s → ∃ s3 s', bindT t (enc x) s = some s3 ∧ J s' ∧ evSs call b s3 = (if p x = true then .ok (.ret rv) s' else .ok .next s')) :
    ∃ s', J s' ∧ evSs call (.cons (.for_ t it b) as) s = if xs.any p = true then .ok (.ret rv) s' else evSs call as s' := by
  have go : ∀ (ys : List α) (s : S), (∀ y ∈ ys, y ∈ xs) → J s → ∃ s', J s' ∧ forGo (fun d s => match bindT t d s with
        | some s3 => evSs call b s3
        | none => .bad) (ys.map enc) s = if ys.any p = true then .ok (.ret rv) s' else .ok .next s' := by
    intro ys
    induction ys with
    | nil => intro s _ j; exact ⟨s, j, rfl⟩
    | cons y ys ih =>
      intro s hy j
      obtain ⟨s3, s1, e1, j1, e2⟩ := h y s (hy y (by simp)) j
      rw [List.map_cons, forGo]
      cases hp : p y with
      | true =>
        rw [hp] at e2
        refine ⟨s1, j1, ?_⟩
        simp only [e1, e2, if_true, bind_ok, List.any_cons, hp, Bool.true_or]
      | false =>
        rw [hp] at e2
        obtain ⟨s2, j2, e3⟩ := ih s1 (fun z hz => hy z (by simp [hz])) j1
        refine ⟨s2, j2, ?_⟩
        simp only [e1, e2, bind_ok, List.any_cons, hp, Bool.false_or]
        exact e3
  obtain ⟨s', j, e⟩ := go xs s (fun _ h => h) j0
  refine ⟨s', j, ?_⟩
  rw [ss_cons, evS, pI_ok it s _ w hi]
  refine (congrArg (fun r => thn (forEnd s (.m v) r) (evSs call as)) e).trans ?_
  by_cases hp : xs.any p = true
  · simp only [if_pos hp]; rfl
  · simp only [if_neg hp]; rfl
end
end Ax
/-! P3: sorted rows of numbers and of pairs; founts. -/
namespace Ax
open PySem
def sortI (xs : List Int) : List Int := xs.mergeSort fun a b => decide (a ≤ b)
theorem sortD_ints (xs : List Int) : sortD (xs.map .int) = (sortI xs).map .int := by
  refine (List.map_mergeSort fun a _ b _ => ?_).symm
  show decide (a ≤ b) = !(decide (b < a) || (!decide (a < b) && false))
  by_cases h : a ≤ b
  · have : ¬ b < a := by omega
    simp [h, this]
  · have : b < a := by omega
    simp [h, this]
theorem sortD_intsF {α : Type} (f : α → Int) (xs : List α) : sortD (xs.map fun x => .int (f x)) = (sortI (xs.map f)).map .int := by
  rw [← sortD_ints, List.map_map]; rfl
theorem mem_sortI {x : Int} {xs : List Int} : x ∈ sortI xs ↔ x ∈ xs := (List.mergeSort_perm _ _).mem_iff
theorem len_sortI (xs : List Int) : (sortI xs).length = xs.length := (List.mergeSort_perm _ _).length_eq
def ltP (p q : Int × Int) : Bool := decide (p.1 < q.1) || (decide (p.1 = q.1) && decide (p.2 < q.2))
def leP (p q : Int × Int) : Bool := !ltP q p
def sortP (ts : List (Int × Int)) : List (Int × Int) := ts.mergeSort leP
theorem sortD_ties (ts : List (Int × Int)) : sortD (ts.map tie) = (sortP ts).map tie := by
  refine (List.map_mergeSort fun p _ q _ => ?_).symm
  obtain ⟨a, b⟩ := p
  obtain ⟨c, d⟩ := q
  show leP (a, b) (c, d) = !(decide (1 < 1) || (!decide (1 < 1) && (decide (c < a) || (!decide (a < c) && (decide (1 < 1) || (!decide (1 < 1) && (decide (d < b) || (!decide (b < d) && (decide (0 < 0) || (!decide (0 < 0) && false)))))))))) 
  simp only [leP, ltP]
  by_cases h1 : c < a
  · simp [h1]
  · by_cases h2 : a < c
    · have : c ≠ a := by omega
      simp [h1, h2, this]
    · have : a = c := by omega
      subst this
      by_cases h3 : d < b
      · simp [h3]
      · simp [h3]
theorem mem_sortP {x : Int × Int} {xs : List (Int × Int)} : x ∈ sortP xs ↔ x ∈ xs := (List.mergeSort_perm _ _).mem_iff
theorem len_sortP (xs : List (Int × Int)) : (sortP xs).length = xs.length := (List.mergeSort_perm _ _).length_eq
theorem srtD_int {α : Type} (f : α → Int) (xs : List α) (h : xs.length < 16777216) : srtD .int (xs.map fun x => .int (f x)) = some ((sortI (xs.map f)).map .int) := by
  unfold srtD
  rw [if_pos]
  · rw [sortD_intsF]
  · refine ⟨by simp [line]; omega, by decide, ?_⟩
    simp [hasTy, full]
theorem srtD_int0 (xs : List Int) (h : xs.length < 16777216) : srtD .int (xs.map .int) = some ((sortI xs).map .int) := by
  have := srtD_int (fun x => x) xs h
  simpa using this
theorem srtD_tie (xs : List (Int × Int)) (h : xs.length < 16777216) : srtD (.pr .int .int) (xs.map tie) = some ((sortP xs).map tie) := by
  unfold srtD
  rw [if_pos]
  · rw [sortD_ties]
  · refine ⟨by simp [line]; omega, by decide, ?_⟩
    simp [hasTy, full, tie]
theorem flen {α : Type} (p : α → Bool) {xs : List α} {k : Nat} (h : xs.length < k) : (xs.filter p).length < k := Nat.lt_of_le_of_lt (List.length_filter_le _ _) h
theorem fm_len {α β : Type} (f : α → List β) {k m : Nat} : ∀ {xs : List α}, (∀ x ∈ xs, (f x).length ≤ k) → xs.length ≤ m → (xs.flatMap f).length ≤ m * k := by
  intro xs
  induction xs generalizing m with
  | nil => intro _ _; simp
  | cons x xs ih =>
    intro h hl
    cases m with
    | zero => simp at hl
    | succ m =>
      rw [List.flatMap_cons, List.length_append, Nat.succ_mul]
      have h1 := ih (m := m) (fun y hy => h y (by simp [hy])) (by simpa using hl)
      have h2 := h x (by simp)
      omega
theorem boolsD_flat {α β : Type} (f : α → List β) (g : α → β → Bool) (xs : List α) : boolsD (xs.flatMap fun x => (f x).map fun y => .bool (g x y)) = some (xs.flatMap fun x => (f x).map (g x)) := by
  have : (xs.flatMap fun x => (f x).map fun y => (PyData.bool (g x y))) = (xs.flatMap fun x => (f x).map (g x)).map .bool := by
    rw [List.map_flatMap]
    simp [Function.comp_def]
  rw [this, boolsD_map]
theorem cut1 {α : Type} (ds : List α) : cutD ds (some 1) none = ds.tail := by
  cases ds <;> simp [cutD, HT.sIx]
theorem nthD_map {α : Type} (f : α → D) (xs : List α) (i : Int) : nthD (xs.map f) i = (nthD xs i).map f := by
  unfold nthD
  simp only [List.getElem?_map, List.length_map]
  split
  · rfl
  · split <;> rfl
theorem cutD_map {α β : Type} (f : α → β) (xs : List α) (a b : Option Int) : cutD (xs.map f) a b = (cutD xs a b).map f := by
  unfold cutD
  simp [List.map_take, List.map_drop]
/-- the whole numbers from lo on below hi -/
def rangeI (lo hi : Int) : List Int := (List.range (hi - lo).toNat).map fun (i : Nat) => lo + (i : Int)
theorem rgD_eq (lo hi : Int) : rgD lo hi = (rangeI lo hi).map .int := by
  simp [rgD, rangeI]
theorem mem_rangeI {x lo hi : Int} : x ∈ rangeI lo hi ↔ lo ≤ x ∧ x < hi := by
  simp only [rangeI, List.mem_map, List.mem_range]
  constructor
  · rintro ⟨i, h, rfl⟩; omega
  · rintro ⟨h1, h2⟩; exact ⟨(x - lo).toNat, by omega, by omega⟩
theorem len_rangeI (lo hi : Int) : (rangeI lo hi).length = (hi - lo).toNat := by simp [rangeI]
theorem rgOk_of {lo hi : Int} (h1 : -1000 ≤ lo) (h2 : lo ≤ 1000) (h3 : -1000 ≤ hi) (h4 : hi ≤ 1000) : rgOk lo hi = true := by
  simp only [rgOk, Bool.and_eq_true, decide_eq_true_eq]
  omega
theorem qRgI_ok {lo hi : Int} {s : S} (h1 : -1000 ≤ lo) (h2 : lo ≤ 1000) (h3 : -1000 ≤ hi) (h4 : hi ≤ 1000) : kRgI (lo, hi) s = .ok (.m (.fro .none), (rangeI lo hi).map .int) s := by
  rw [kRgI, if_pos (rgOk_of h1 h2 h3 h4), rgD_eq]
theorem qRng_ok {t : Bool} {lo hi : Int} {s : S} (h1 : -1000 ≤ lo) (h2 : lo ≤ 1000) (h3 : -1000 ≤ hi) (h4 : hi ≤ 1000) : kRng t (lo, hi) s = .ok (.m (if t = true then .fro (.tuple ((rangeI lo hi).map .int)) else .lst ((rangeI lo hi).map .int))) s := by
  rw [kRng, if_pos ⟨rgOk_of h1 h2 h3 h4, by simp only [line]; omega⟩, rgD_eq]
theorem nthD_last {α : Type} (xs : List α) : nthD xs (-1) = xs.getLast? := by
  unfold nthD
  rw [if_neg (by omega)]
  cases xs with
  | nil => rfl
  | cons x xs =>
    rw [if_pos (by simp; omega), List.getLast?_eq_getElem?]
    congr 1
    simp
    omega
theorem nthD_nat {α : Type} (xs : List α) (i : Nat) : nthD xs (i : Int) = xs[i]? := by
  unfold nthD
  rw [if_pos (by omega)]; simp
theorem eqv_nil (ds : List D) : PyData.eqvAll ds [] = decide (ds = []) := by
  cases ds <;> simp [PyData.eqvAll]
theorem tst_p {call : Nat → List Arg → List M → R (List M) M} {s : S} {x : Ex} (b : Bool) (w : wfE x = true) (h : pev call x s = some (.m (.fro (.bool b)))) : tst (evE call x s) = .ok b s := by
  rw [pev_ok x s _ w h]; rfl
theorem asgN2_p {call : Nat → List Arg → List M → R (List M) M} {s : S} {as : Sts} {i j : Nat} {x y : Ex} (v w : M) (hx : wfE x = true) (hy : wfE y = true) (h1 : pev call x s = some (.m v)) (h2 : pev call y s = some (.m w)) :
    evSs call (.cons (.asgN [i, j] (.cons x (.cons y .nil))) as) s = evSs call as ((s.set i v).set j w) := by
  rw [ss_cons, evS, evXs, pev_ok x s _ hx h1, bind_ok, evXs, pev_ok y s _ hy h2]; rfl
def wh (call : Nat → List Arg → List M → R (List M) M) (c : Ex) (b : Sts) (n : Nat) (s : S) : R S Fl := whileGo (fun s => tst (evE call c s)) (fun s => evSs call b s) n s
section
variable {call : Nat → List Arg → List M → R (List M) M} {c : Ex} {b as : Sts} {n : Nat} {s s' : S}
theorem while_s : evSs call (.cons (.while_ c b) as) s = thn (wh call c b most s) (evSs call as) := by
  rw [ss_cons, evS]; rfl
theorem wh_end (h : tst (evE call c s) = .ok false s) : wh call c b (n + 1) s = .ok .next s := by
  rw [wh, whileGo, h]; rfl
theorem wh_next (h : tst (evE call c s) = .ok true s) (h2 : evSs call b s = .ok .next s') : wh call c b (n + 1) s = wh call c b n s' := by
  rw [wh, whileGo, h]; simp only [bind_ok, if_true, h2]; rfl
theorem wh_ret {v : M} (h : tst (evE call c s) = .ok true s) (h2 : evSs call b s = .ok (.ret v) s') : wh call c b (n + 1) s = .ok (.ret v) s' := by
  rw [wh, whileGo, h]; simp only [bind_ok, if_true, h2]
/-- a loop by what it has, a measure, and what comes of it -/
theorem while_w {γ : Type} (J : γ → S → Prop) (μ : γ → Nat) (res : γ → R (List M) M)
    (h : ∀ g s, J g s → (tst (evE call c s) = .ok false s ∧ fin (evSs call as s) = res g) ∨ (tst (evE call c s) = .ok true s ∧
      ((∃ v s', evSs call b s = .ok (.ret v) s' ∧ .ok v s'.u = res g) ∨ (∃ s' g', evSs call b s = .ok .next s' ∧ J g' s' ∧ μ g' < μ g ∧ res g' = res g)))) (g : γ) (hm : μ g < most) (j : J g s) :
    fin (evSs call (.cons (.while_ c b) as) s) = res g := by
  have go : ∀ (n : Nat) (g : γ) (s : S), μ g < n → J g s → fin (thn (wh call c b n s) (evSs call as)) = res g := by
    intro n
    induction n with
    | zero => intro g s hm; omega
    | succ n ih =>
      intro g s hm j
      rcases h g s j with ⟨h1, h2⟩ | ⟨h1, ⟨v, s', h2, h3⟩ | ⟨s', g', h2, h3, h4, h5⟩⟩
      · rw [wh_end h1]; exact h2
      · rw [wh_ret h1 h2]; exact h3
      · rw [wh_next h1 h2, ih g' s' (by omega) h3, h5]
  rw [while_s]
  exact go most g s hm j
end
theorem asgIx_p {call : Nat → List Arg → List M → R (List M) M} {s : S} {as : Sts} {i : Nat} {k x : Ex} {ds : List D} (d : D) (j : Nat) (hx : wfE x = true) (hk : wfE k = true) (h1 : pev call x s = some (.m (.fro d))) (h2 : pev call k s = some (.m (.fro (.int j)))) (ho : s.at i = some (.lst ds)) (hj : j < ds.length) :
    evSs call (.cons (.asgIx i k x) as) s = evSs call as (s.put i (.lst (ds.set j d))) := by
  have o : ownS s i = true := by unfold ownS; rw [ho]; rfl
  rw [ss_cons, evS, pev_ok x s _ hx h1, bind_ok, if_pos o, pev_ok k s _ hk h2, bind_ok, kSet]
  simp only [frz, M.cont, Option.map_some, ho]
  rw [if_pos ⟨by omega, by omega⟩]
  simp [thn, bind_ok]
theorem pow_ok {a : Int} {k : Nat} (h : a.natAbs < 2 ^ 200) (hk : k ≤ 1000) : binD .Pow (.int a) (.int k) = some (.fro (.int (a ^ k))) := by
  have : a.natAbs < 2 ^ 4000 := Nat.lt_of_lt_of_le h (Nat.pow_le_pow_right (by omega) (by omega))
  show (if _ then _ else _) = _
  rw [if_pos ⟨by omega, by omega, this⟩]; rfl
theorem mul_ok {a b : Int} (h : a.natAbs < 2 ^ 64) : binD .Mult (.int a) (.int b) = some (.fro (.int (a * b))) := by
  show (if _ then _ else _) = _
  rw [if_pos (.inl h)]
theorem mul_ok2 {a b : Int} (h : b.natAbs < 2 ^ 64) : binD .Mult (.int a) (.int b) = some (.fro (.int (a * b))) := by
  show (if _ then _ else _) = _
  rw [if_pos (.inr (.inl h))]
theorem mod_ok {a b : Int} (h : 0 < b) : binD .Mod (.int a) (.int b) = some (.fro (.int (a % b))) := if_pos h
theorem div_ok {a b : Int} (h : 0 < b) (h2 : b < 1073741824) : binD .FloorDiv (.int a) (.int b) = some (.fro (.int (a / b))) := if_pos ⟨h, by omega⟩
theorem add_ok (a b : Int) : binD .Add (.int a) (.int b) = some (.fro (.int (a + b))) := rfl
theorem add_tup (a b : List D) : binD .Add (.tuple a) (.tuple b) = if a.length + b.length ≤ 16777216 then some (.fro (.tuple (a ++ b))) else none := rfl
theorem add_lst (a b : List D) : binD .Add (.list a) (.list b) = if a.length + b.length ≤ 16777216 then some (.lst (a ++ b)) else none := rfl
theorem sub_ok (a b : Int) : binD .Sub (.int a) (.int b) = some (.fro (.int (a - b))) := rfl
/-- a fount: what is left of a cell, a number, how many draws there were -/
def Fo (N : Int) (v : M) : Prop := ∃ a b c : Int, v = .lst [.int a, .int b, .int c] ∧ 0 ≤ a ∧ 0 ≤ b ∧ b < 10 ^ 27 + 103 ∧ 0 ≤ c ∧ c ≤ N
theorem Fo.mono {N N' : Int} {v : M} (h : Fo N v) (l : N ≤ N') : Fo N' v := by
  obtain ⟨a, b, c, h1, h2, h3, h4, h5, h6⟩ := h
  exact ⟨a, b, c, h1, h2, h3, h4, h5, by omega⟩
theorem dokI (n : Nat) (i : Int) : dok n (.int i) = true := by cases n <;> simp [dok]
theorem dokAll_ints (n : Nat) (xs : List Int) : dokAll n (xs.map .int) = true := by
  induction xs with
  | nil => simp [dokAll]
  | cons x xs ih => rw [List.map_cons, dokAll, ih, dokI]; rfl
theorem dokAll_ties (n : Nat) (ts : List (Int × Int)) : dokAll (n + 1) (ts.map tie) = true := by
  induction ts with
  | nil => simp [dokAll]
  | cons x xs ih => rw [List.map_cons, dokAll, ih, dok, dokAll, dokAll, dokAll, dokI, dokI]; rfl
theorem dokAll_rows (n : Nat) (rs : List (List Int)) : dokAll (n + 1) (rs.map row) = true := by
  induction rs with
  | nil => simp [dokAll]
  | cons x xs ih => rw [List.map_cons, dokAll, ih, dok, dokAll_ints]; rfl
theorem nthD_0 {α : Type} (x : α) (xs : List α) : nthD (x :: xs) 0 = some x := rfl
theorem nthD_1 {α : Type} (x y : α) (xs : List α) : nthD (x :: y :: xs) 1 = some y := rfl
theorem nthD_2 {α : Type} (x y z : α) (xs : List α) : nthD (x :: y :: z :: xs) 2 = some z := rfl
def optRow : Option (List Int) → D
  | none => .none
  | some xs => row xs
end Ax
/-! P4: blocks whose turns change things; webs. -/
namespace Ax
open PySem
section
variable {call : Nat → List Arg → List M → R (List M) M} {s : S} {as : Sts}
theorem take_next {α : Type} {xs : List α} {k : Nat} {x : α} (h : xs[k]? = some x) : xs.take (k + 1) = xs.take k ++ [x] := by
  rw [List.take_add_one, h]; rfl
theorem runLc_inv {α : Type} {own : List Nat} {turn : D → S → List D → R S (List D)} {v : M} (enc : α → D) (xs : List α) (I : Nat → List D → S → Prop) (h0 : I 0 [] (wipeS s own))
    (h : ∀ k x acc s, xs[k]? = some x → I k acc s → ∃ acc' s', turn (enc x) s acc = .ok acc' s' ∧ I (k + 1) acc' (wipeS s' own)) :
    ∃ ds s1, runLc own (.m v) turn (xs.map enc) s = .ok (.m (.lst ds)) (unwipe s s1 own) ∧ I xs.length ds s1 := by
  have go : ∀ (ys : List α) (k : Nat) (acc : List D) (s : S), (∀ i, ys[i]? = xs[k + i]?) → I k acc s → ∃ acc' s', lcGo own turn (ys.map enc) s acc = .ok acc' s' ∧ I (k + ys.length) acc' s' := by
    intro ys
    induction ys with
    | nil => intro k acc s _ i; exact ⟨acc, s, rfl, i⟩
    | cons y ys ih =>
      intro k acc s hy i
      obtain ⟨acc1, s1, e1, i1⟩ := h k y acc s (by have := hy 0; simp at this; exact this.symm) i
      obtain ⟨acc2, s2, e2, i2⟩ := ih (k + 1) acc1 (wipeS s1 own) (fun i => by have := hy (i + 1); simp at this; rw [this]; congr 1; omega) i1
      refine ⟨acc2, s2, ?_, by rw [List.length_cons, show k + (ys.length + 1) = k + 1 + ys.length by omega]; exact i2⟩
      rw [List.map_cons, lcGo, e1]
      exact e2
  obtain ⟨ds, s1, e, i⟩ := go xs 0 [] (wipeS s own) (fun i => by simp) h0
  rw [Nat.zero_add] at i
  refine ⟨ds, s1, ?_, i⟩
  unfold runLc
  show (match lcEnd own s (lcGo own turn (xs.map enc) (wipeS s own) []) with | .ok v s3 => _ | .exc c d s3 => _ | .bad => _) = _
  rw [e]
  rfl
theorem lc_inv {α : Type} {own : List Nat} {t : T} {it : I} {ifs : Xo} {e : Ex} {v : M} (enc : α → D) (xs : List α) (I : Nat → List D → S → Prop) (w : wfI it = true) (hi : pI call it s = some (.m v, xs.map enc)) (h0 : I 0 [] (wipeS s own))
    (h : ∀ k x acc s, xs[k]? = some x → I k acc s → ∃ s3 b s4, bindT t (enc x) s = some s3 ∧ evIfs call ifs s3 = .ok b s4 ∧ ((b = false ∧ I (k + 1) acc (wipeS s4 own)) ∨ (b = true ∧ ∃ d s5, evE call e s4 = .ok (.m (.fro d)) s5 ∧ acc.length < line ∧ I (k + 1) (acc ++ [d]) (wipeS s5 own)))) :
    ∃ ds s1, evE call (.lc own t it ifs e) s = .ok (.m (.lst ds)) (unwipe s s1 own) ∧ I xs.length ds s1 := by
  obtain ⟨ds, s1, e1, i⟩ := runLc_inv (own := own) (turn := turnLc t (evIfs call ifs) (evE call e)) (v := v) enc xs I h0 fun k x acc s hx i => by
    obtain ⟨s3, b, s4, e1, e2, ⟨rfl, i1⟩ | ⟨rfl, d, s5, e3, hl, i1⟩⟩ := h k x acc s hx i
    · exact ⟨acc, s4, by unfold turnLc; rw [e1]; simp only [e2, bind_ok]; rfl, i1⟩
    · refine ⟨acc ++ [d], s5, ?_, i1⟩
      unfold turnLc
      rw [e1]
      simp only [e2, bind_ok, if_true, e3, keep1, frz, M.cont, Option.map_some, hl, own_fro, if_false]
  refine ⟨ds, s1, ?_, i⟩
  rw [evE, pI_ok it s _ w hi]
  exact e1
theorem ext_e {i : Nat} {x : Ex} {ds es : List D} {s1 : S} (o : ownS s i = true) (h : evE call x s = .ok (.m (.lst es)) s1) (ho : s1.at i = some (.lst ds)) (hl : ds.length + es.length ≤ line) :
    evSs call (.cons (.expr (.ext i x)) as) s = evSs call as (s1.put i (.lst (ds ++ es))) := by
  rw [ss_cons, evS, evE, if_pos o, h]
  simp only [bind_ok, kExt, view, M.cont, ho, hl, if_true]
  rfl
theorem app_e {i : Nat} {x : Ex} {ds : List D} {d : D} {s1 : S} (o : ownS s i = true) (h : evE call x s = .ok (.m (.fro d)) s1) (ho : s1.at i = some (.lst ds)) (hl : ds.length < line) :
    evSs call (.cons (.expr (.app i x)) as) s = evSs call as (s1.put i (.lst (ds ++ [d]))) := by
  rw [ss_cons, evS, evE, if_pos o, h]
  simp only [bind_ok, kApp, frz, M.cont, Option.map_some, ho, hl, if_true]
  rfl
theorem asg_e {i : Nat} {x : Ex} {v : M} {s1 : S} (h : evE call x s = .ok (.m v) s1) : evSs call (.cons (.asg (.nm i) x) as) s = evSs call as (s1.set i v) := by
  rw [ss_cons, evS, h]; rfl
theorem ret_e {x : Ex} {v : M} {s1 : S} (h : evE call x s = .ok (.m v) s1) : evSs call (.cons (.ret x) as) s = .ok (.ret v) s1 := by
  rw [ss_cons, evS, h]; rfl
theorem ite_e {x : Ex} {a e : Sts} {b : Bool} {s1 : S} (h : evE call x s = .ok (asBool b) s1) : evSs call (.cons (.ite x a e) as) s = thn (if b = true then evSs call a s1 else evSs call e s1) (evSs call as) := by
  rw [ss_cons, evS, h]; rfl
theorem expr_e {x : Ex} {r : Rv} {s1 : S} (h : evE call x s = .ok r s1) : evSs call (.cons (.expr x) as) s = evSs call as s1 := by
  rw [ss_cons, evS, h]; rfl
end

section
variable {call : Nat → List Arg → List M → R (List M) M} {s : S} {as b : Sts} {t : T} {it : I}
/-- a loop by what holds behind k turns -/
theorem for_nE {α : Type} {v : M} {s0 : S} (enc : α → D) (xs : List α) (J : Nat → S → Prop) (hi : evI call it s = .ok (.m v, xs.map enc) s0) (j0 : J 0 s0)
    (h : ∀ k x s, xs[k]? = some x → J k s → ∃ s3 s', bindT t (enc x) s = some s3 ∧ evSs call b s3 = .ok .next s' ∧ J (k + 1) s') :
    ∃ s', J xs.length s' ∧ evSs call (.cons (.for_ t it b) as) s = evSs call as s' := by
  have go : ∀ (ys : List α) (k : Nat) (s : S), (∀ i, ys[i]? = xs[k + i]?) → J k s → ∃ s', J (k + ys.length) s' ∧ forGo (fun d s => match bindT t d s with
        | some s3 => evSs call b s3
        | none => .bad) (ys.map enc) s = .ok .next s' := by
    intro ys
    induction ys with
    | nil => intro k s _ j; exact ⟨s, j, rfl⟩
    | cons y ys ih =>
      intro k s hy j
      obtain ⟨s3, s1, e1, e2, j1⟩ := h k y s (by have := hy 0; simp at this; exact this.symm) j
      obtain ⟨s2, j2, e3⟩ := ih (k + 1) s1 (fun i => by have := hy (i + 1); simp at this; rw [this]; congr 1; omega) j1
      refine ⟨s2, by rw [List.length_cons]; rw [show k + (ys.length + 1) = k + 1 + ys.length by omega]; exact j2, ?_⟩
      rw [List.map_cons, forGo]
      simp only [e1, e2, bind_ok]
      exact e3
  obtain ⟨s', j, e⟩ := go xs 0 s0 (fun i => by simp) j0
  rw [Nat.zero_add] at j
  refine ⟨s', j, ?_⟩
  rw [ss_cons, evS, hi]
  exact (congrArg (fun r => thn (forEnd s0 (.m v) r) (evSs call as)) e).trans rfl
theorem for_n {α : Type} {v : M} (enc : α → D) (xs : List α) (J : Nat → S → Prop) (w : wfI it = true) (hi : pI call it s = some (.m v, xs.map enc)) (j0 : J 0 s)
    (h : ∀ k x s, xs[k]? = some x → J k s → ∃ s3 s', bindT t (enc x) s = some s3 ∧ evSs call b s3 = .ok .next s' ∧ J (k + 1) s') :
    ∃ s', J xs.length s' ∧ evSs call (.cons (.for_ t it b) as) s = evSs call as s' := for_nE enc xs J (pI_ok it s _ w hi) j0 h
end
theorem lc_lock {call : Nat → List Arg → List M → R (List M) M} {own : List Nat} {t : T} {ifs : Xo} {e : Ex} {s : S} {i : Nat} {ds : List D} (l : List D) (hi : s.r[i]? = some (.m (.lst ds))) (w : (tInW own t && wfXo ifs && wfE e) = true)
    (h : pMap (fun d => (bindT t d (wipeS ⟨s.r.set i (.m (.lock ds)), s.u⟩ own)).bind fun s3 => (pIfs call ifs s3).bind fun b => if b = true then (pev call e s3).bind fun y => pone s3 y else some []) ds = some l) (hl : l.length < line) :
    evE call (.lc own t (.seq (.var i)) ifs e) s = .ok (.m (.lst l)) s := by
  simp only [Bool.and_eq_true] at w
  have ha : s.at i = some (.lst ds) := by unfold S.at; rw [hi]
  have hp : lockS s (.bor i) = ⟨s.r.set i (.m (.lock ds)), s.u⟩ := by
    simp only [lockS, ha, S.put, hi]
  have hI : evI call (.seq (.var i)) s = .ok (.bor i, ds) s := by
    rw [evI, evE, ha]
    simp only [own_lst, if_true, bind_ok, kSeq, viewS, ha, Option.bind_some, M.contS, M.cont, itemsD]
  rw [evE, hI, bind_ok]
  unfold runLc
  simp only [hp]
  rw [lcGo_p (f := fun d => (bindT t d (wipeS ⟨s.r.set i (.m (.lock ds)), s.u⟩ own)).bind fun s3 => (pIfs call ifs s3).bind fun b => if b = true then (pev call e s3).bind fun y => pone s3 y else some []) (fun d a acc hf hl => ?_) ds l [] h (by simp only [List.length_nil]; omega)]
  · simp only [lcEnd, List.nil_append, unwipe_wipe]
    have hlen : i < s.r.length := (List.getElem?_eq_some_iff.mp hi).1
    simp only [unlockS, ownerOf, hi, unlockO, ha, S.get, List.getElem?_set_self hlen, S.upO, List.set_set]
    congr 1
    apply S.ext'
    · apply List.ext_getElem?
      intro j
      by_cases e : i = j
      · subst e; simp [hlen, hi]
        rw [List.getElem?_eq_getElem hlen] at hi; exact (Option.some.inj hi).symm
      · simp [List.getElem?_set_ne e]
    · rfl
  · simp only [Option.bind_eq_some_iff] at hf
    obtain ⟨s3, e1, b, e2, e3⟩ := hf
    refine ⟨s3, ?_, (bindT_like t w.1.1 e1).wipe.trans (Like.wipe Like.wiped)⟩
    unfold turnLc
    rw [e1]
    show (evIfs call ifs s3).bind _ = _
    rw [pIfs_ok ifs s3 b w.1.2 e2, bind_ok]
    split at e3
    · rename_i hb
      rw [if_pos hb]
      obtain ⟨y, e4, e5⟩ := Option.bind_eq_some_iff.mp e3
      rw [pev_ok e s3 y w.2 e4, bind_ok]
      exact keep1_p e5 hl
    · rename_i hb
      rw [if_neg hb]
      cases e3
      simp
theorem rangeI_get {lo hi x : Int} {k : Nat} (h : (rangeI lo hi)[k]? = some x) : x = lo + k ∧ lo + k < hi := by
  obtain ⟨hk, e⟩ := List.getElem?_eq_some_iff.mp h
  rw [len_rangeI] at hk
  simp only [rangeI, List.getElem_map, List.getElem_range] at e
  omega
theorem Fo.at {N : Int} {v : M} (h : Fo N v) : ∃ a b c : Int, v = .lst [.int a, .int b, .int c] := by
  obtain ⟨a, b, c, h, _⟩ := h; exact ⟨a, b, c, h⟩
theorem erase_perm {α : Type} {l : List α} {i : Nat} (h : i < l.length) : (l.eraseIdx i ++ [l[i]]).Perm l := by
  rw [List.eraseIdx_eq_take_drop_succ, List.append_assoc]
  have e : l = l.take i ++ ([l[i]] ++ l.drop (i + 1)) := by
    rw [List.singleton_append, List.getElem_cons_drop, List.take_append_drop]
  exact List.Perm.trans (List.Perm.append_left _ List.perm_append_comm) (List.Perm.of_eq e.symm)
theorem cut_to {α : Type} (ds : List α) (k : Nat) : cutD ds none (some (k : Int)) = ds.take k := by
  have e : HT.sIx ds.length 0 none = 0 := rfl
  have e2 : HT.sIx ds.length ds.length (some (k : Int)) = min k ds.length := HT.sIx_nat _ _ k
  rw [cutD, e, e2, List.drop_zero, Nat.sub_zero, List.take_eq_take_iff]
  omega
theorem kEnm_map {α : Type} (f : α → D) (xs : List α) (s : S) : kEnm (.m (.fro (.tuple (xs.map f)))) s = .ok (.m (.fro .none), xs.zipIdx.map fun p => .tuple [.int (p.2 : Nat), f p.1]) s := by
  simp [kEnm, List.zipIdx_map, Function.comp_def]
theorem not_any {α : Type} (p : α → Bool) (xs : List α) : (xs.any fun x => !p x) = !(xs.all p) := by
  simp [List.all_eq_not_any_not]
theorem ite_tf (b : Bool) {s : S} : (if (!b) = true then (R.ok (.ret (.fro (.bool false))) s : R S Fl) else R.ok (.ret (.fro (.bool true))) s) = R.ok (.ret (.fro (.bool b))) s := by cases b <;> rfl
theorem cut_tm {α β : Type} (f : α → β) (xs : List α) (k : Nat) : cutD (xs.map f) none (some (k : Int)) = (xs.take k).map f := by rw [cutD_map, cut_to]
theorem guard_p {call : Nat → List Arg → List M → R (List M) M} {s : S} {x : Ex} {as : Sts} {r : Bool} (b : Bool) (w : wfE x = true) (h : pev call x s = some (.m (.fro (.bool b)))) :
    evSs call (.cons (.ite x (.cons (.ret (.bl r)) .nil) .nil) as) s = if b = true then .ok (.ret (.fro (.bool r))) s else evSs call as s := by
  rw [ite_p b w h]; cases b <;> rfl
theorem pev_lc {call : Nat → List Arg → List M → R (List M) M} {own : List Nat} {t : T} {it : I} {ifs : Xo} {e : Ex} {s : S} {α : Type} {v : M} {xs : List α} {enc : α → D} (g : α → List D) (hi : pI call it s = some (.m v, xs.map enc))
    (h : ∀ x ∈ xs, ((bindT t (enc x) (wipeS s own)).bind fun s3 => (pIfs call ifs s3).bind fun b => if b = true then (pev call e s3).bind fun y => pone s3 y else some []) = some (g x)) (hl : (xs.flatMap g).length < line) :
    pev call (.lc own t it ifs e) s = some (.m (.lst (xs.flatMap g))) := by
  rw [pev, hi, pOver_m]
  simp only
  rw [pMap_map, pMap_on h]
  show pfit _ = _
  exact if_pos hl
theorem ite_skip {call : Nat → List Arg → List M → R (List M) M} {s : S} {x : Ex} {a e as : Sts} (b : Bool) (w : wfE x = true) (h : pev call x s = some (.m (.fro (.bool b)))) (h2 : (if b = true then evSs call a s else evSs call e s) = .ok .next s) :
    evSs call (.cons (.ite x a e) as) s = evSs call as s := by
  rw [ite_p b w h, h2]; rfl
theorem pev_frz {call : Nat → List Arg → List M → R (List M) M} {s : S} {x : Ex} {l : List D} (h : pev call x s = some (.m (.lst l))) : pev call (.frz x) s = some (.m (.fro (.list l))) := by
  rw [pev, h]; rfl
theorem mul_lst (a : List D) (k : Int) : binD .Mult (.list a) (.int k) = if k.natAbs ≤ 16777216 ∧ a.length * k.toNat ≤ 16777216 then some (.lst (List.replicate k.toNat a).flatten) else none := rfl
theorem mul_tup1 (d : D) (k : Int) (h1 : 1 ≤ k) (h2 : k ≤ 1000) : binD .Mult (.tuple [d]) (.int k) = some (.fro (.tuple (List.replicate k.toNat d))) := by
  show (if _ then _ else _) = _
  rw [if_pos ⟨h1, h2, by simp, by simp⟩]
  congr 4
  generalize k.toNat = n
  induction n with
  | zero => rfl
  | succ n ih => rw [List.replicate_succ, List.flatten_cons, ih]; rfl
theorem cut_1 {α β : Type} (f : α → β) (xs : List α) : cutD (xs.map f) (some 1) none = xs.tail.map f := by rw [cut1, List.map_tail]
theorem dPut_p {call : Nat → List Arg → List M → R (List M) M} {s : S} {as : Sts} {i : Nat} {k x : Ex} {b : Bool} {kvs : List (List L2.Key × D)} (d kd : D) (kk : List L2.Key) (hx : wfE x = true) (hk : wfE k = true) (h1 : pev call x s = some (.m (.fro d))) (h2 : pev call k s = some (.m (.fro kd))) (ho : s.at i = some (.dct b kvs)) (hkk : keyD b kd = some kk) (hl : kvs.length < line) :
    evSs call (.cons (.dPut i k x) as) s = evSs call as (s.put i (.dct b (putK kvs kk d))) := by
  have o : dctS s i = true := by unfold dctS; rw [ho]; rfl
  rw [ss_cons, evS, pev_ok x s _ hx h1, bind_ok, if_pos o, pev_ok k s _ hk h2, bind_ok, kDPut]
  simp only [frz, M.cont, Option.map_some, ho, hkk, hl, if_true]
  rfl
theorem cut_mid {α β : Type} (f : α → β) (xs : List α) : cutD (xs.map f) (some 1) (some (-1)) = xs.tail.dropLast.map f := by
  rw [cutD_map]
  congr 1
  cases xs with
  | nil => rfl
  | cons x xs =>
    have e1 : HT.sIx (x :: xs).length 0 (some 1) = 1 := by
      show HT.sIx (x :: xs).length 0 (some ((1 : Nat) : Int)) = 1
      rw [HT.sIx_nat, List.length_cons]
      omega
    have e2 : HT.sIx (x :: xs).length (x :: xs).length (some (-1)) = xs.length := by
      unfold HT.sIx
      simp only
      rw [if_pos (by decide)]
      simp only [List.length_cons]; omega
    rw [cutD, e1, e2, List.drop_one, List.tail_cons, List.dropLast_eq_take]
/-- a loop that may end the def, by what comes of it -/
theorem for_w {call : Nat → List Arg → List M → R (List M) M} {s : S} {as b : Sts} {t : T} {it : I} {α : Type} {v : M} (enc : α → D) (xs : List α) (J : Nat → S → Prop) (res : Nat → R (List M) M) (w : wfI it = true) (hi : pI call it s = some (.m v, xs.map enc)) (j0 : J 0 s)
    (h : ∀ k x s, xs[k]? = some x → J k s → ∃ s3, bindT t (enc x) s = some s3 ∧ ((∃ v s', evSs call b s3 = .ok (.ret v) s' ∧ .ok v s'.u = res k) ∨ ∃ s', evSs call b s3 = .ok .next s' ∧ J (k + 1) s' ∧ res (k + 1) = res k))
    (he : ∀ s, J xs.length s → fin (evSs call as s) = res xs.length) : fin (evSs call (.cons (.for_ t it b) as) s) = res 0 := by
  have go : ∀ (ys : List α) (k : Nat) (s : S), (∀ i, ys[i]? = xs[k + i]?) → J k s → (∃ v s', forGo (fun d s => match bindT t d s with
        | some s3 => evSs call b s3
        | none => .bad) (ys.map enc) s = .ok (.ret v) s' ∧ .ok v s'.u = res k) ∨ ∃ s', forGo (fun d s => match bindT t d s with
        | some s3 => evSs call b s3
        | none => .bad) (ys.map enc) s = .ok .next s' ∧ J (k + ys.length) s' ∧ res (k + ys.length) = res k := by
    intro ys
    induction ys with
    | nil => intro k s _ j; exact .inr ⟨s, rfl, j, rfl⟩
    | cons y ys ih =>
      intro k s hy j
      obtain ⟨s3, e1, ⟨v, s', e2, e3⟩ | ⟨s', e2, j1, e3⟩⟩ := h k y s (by have := hy 0; simp at this; exact this.symm) j
      · refine .inl ⟨v, s', ?_, e3⟩
        rw [List.map_cons, forGo]
        simp only [e1, e2, bind_ok]
      · rw [List.map_cons, forGo]
        simp only [e1, e2, bind_ok]
        have := ih (k + 1) s' (fun i => by have := hy (i + 1); simp at this; rw [this]; congr 1; omega) j1
        rw [List.length_cons, show k + (ys.length + 1) = k + 1 + ys.length by omega, ← e3]
        exact this
  rw [ss_cons, evS, pI_ok it s _ w hi]
  rcases go xs 0 s (fun i => by simp) j0 with ⟨v', s', e, e2⟩ | ⟨s', e, j, e2⟩
  · rw [← e2]
    exact (congrArg (fun r => fin (thn (forEnd s (.m v) r) (evSs call as))) e).trans rfl
  · rw [Nat.zero_add] at j e2
    rw [← e2, ← he s' j]
    exact (congrArg (fun r => fin (thn (forEnd s (.m v) r) (evSs call as))) e).trans rfl
/-- whether a block is empty -/
theorem tst_eq {call : Nat → List Arg → List M → R (List M) M} {a : Ex} {s s1 : S} {l : List D} {k : Bool} (h : evE call a s = .ok (.m (.lst l)) s1) (hk : cmpD .Eq (.list l) (.list []) = some k) : tst (evE call (.cmp .Eq a (.lst .nil)) s) = .ok k s1 := by
  rw [evE, h, bind_ok]
  have : evE call (.lst .nil) s1 = .ok (.m (.lst [])) s1 := by rfl
  rw [this, bind_ok]
  simp only [kCmp, viewS, M.contS, M.cont, hk]
  rfl
theorem and3 {call : Nat → List Arg → List M → R (List M) M} {a b c : Ex} {s s1 s2 s3 : S} {k : Bool} (h1 : tst (evE call a s) = .ok true s1) (h2 : tst (evE call b s1) = .ok true s2) (h3 : tst (evE call c s2) = .ok k s3) :
    evE call (.and (.cons a (.cons b (.cons c .nil)))) s = .ok (asBool k) s3 := by
  rw [evE, evAnd, h1]
  simp only [bind_ok, if_true, evAnd1, h2, h3]
  cases k <;> rfl
/-! ### webs -/
/-- a tie of a web with m things -/
def Tie (m : Int) (p : Int × Int) : Prop := 0 ≤ p.1 ∧ p.1 < p.2 ∧ p.2 < m
def asc (ts : List (Int × Int)) : Bool := (ts.zip ts.tail).all fun p => ltP p.1 p.2
theorem asc_of : ∀ {ts : List (Int × Int)}, ts.Pairwise (fun p q => ltP p q = true) → asc ts = true
  | [], _ => rfl
  | [p], _ => rfl
  | p :: q :: ts, h => by
    have h2 := asc_of (List.pairwise_cons.mp h).2
    have h1 := (List.pairwise_cons.mp h).1 q (by simp)
    unfold asc at h2 ⊢
    simp only [List.tail_cons, List.zip_cons_cons, List.all_cons, h1, Bool.true_and] at h2 ⊢
    exact h2
theorem ltP_iff {p q : Int × Int} : ltP p q = true ↔ p.1 < q.1 ∨ (p.1 = q.1 ∧ p.2 < q.2) := by
  simp [ltP]
def allPairs (m : Int) : List (Int × Int) := (rangeI 0 m).flatMap fun i => (rangeI (i + 1) m).map fun j => (i, j)
theorem rangeI_asc (lo hi : Int) : (rangeI lo hi).Pairwise (· < ·) := by
  unfold rangeI
  rw [List.pairwise_map]
  exact List.pairwise_lt_range.imp fun h => by omega
theorem allPairs_asc (m : Int) : (allPairs m).Pairwise (fun p q => ltP p q = true) := by
  unfold allPairs
  rw [List.pairwise_flatMap]
  refine ⟨fun i _ => ?_, ?_⟩
  · rw [List.pairwise_map]
    exact (rangeI_asc (i + 1) m).imp (S := fun j k => ltP (i, j) (i, k) = true) fun {j k} h => ltP_iff.mpr (.inr ⟨rfl, h⟩)
  · refine (rangeI_asc 0 m).imp fun {i j} h => ?_
    intro p hp q hq
    obtain ⟨x, _, rfl⟩ := List.mem_map.mp hp
    obtain ⟨y, _, rfl⟩ := List.mem_map.mp hq
    exact ltP_iff.mpr (.inl h)
theorem mem_allPairs {m : Int} {p : Int × Int} : p ∈ allPairs m ↔ Tie m p := by
  obtain ⟨a, b⟩ := p
  simp only [allPairs, List.mem_flatMap, List.mem_map, mem_rangeI, Tie, Prod.mk.injEq]
  constructor
  · rintro ⟨i, hi, j, hj, rfl, rfl⟩; omega
  · rintro ⟨h1, h2, h3⟩; exact ⟨a, by omega, b, by omega, rfl, rfl⟩
theorem len_allPairs {m : Int} (h : m ≤ 30) : (allPairs m).length ≤ 900 := by
  unfold allPairs
  refine Nat.le_trans (fm_len (k := 30) (m := 30) _ (fun i hi => ?_) ?_) (by omega)
  · rw [List.length_map, len_rangeI]
    have := mem_rangeI.mp hi
    omega
  · rw [len_rangeI]; omega
structure Web (m : Int) (ts : List (Int × Int)) : Prop where
  len : ts.length < 1000
  lo : 0 ≤ m
  tie : ∀ p ∈ ts, Tie m p
  asc : asc ts = true
theorem Web.of_sub {m : Int} {ts : List (Int × Int)} (h0 : 0 ≤ m) (h : m ≤ 30) (s : ts.Sublist (allPairs m)) : Web m ts :=
  ⟨Nat.lt_of_le_of_lt (Nat.le_trans s.length_le (len_allPairs h)) (by omega), h0, fun p hp => mem_allPairs.mp (s.subset hp), asc_of ((allPairs_asc m).sublist s)⟩
abbrev webD (m : Int) (ts : List (Int × Int)) : D := .tuple [.int m, .tuple (ts.map tie)]
/-- the tie of two things -/
def mm (a b : Int) : Int × Int := (if b < a then b else a, if a < b then b else a)
theorem mm_comm (a b : Int) : mm a b = mm b a := by
  unfold mm
  by_cases h : a < b
  · have : ¬ b < a := by omega
    simp [h, this]
  · by_cases h2 : b < a
    · simp [h, h2]
    · have : a = b := by omega
      subst this; rfl
theorem mm_lt {a b : Int} (h : a < b) : mm a b = (a, b) := by
  unfold mm
  have : ¬ b < a := by omega
  simp [h, this]
theorem mm_tie {m a b : Int} (ha : 0 ≤ a ∧ a < m) (hb : 0 ≤ b ∧ b < m) (h : a ≠ b) : Tie m (mm a b) := by
  rcases Int.lt_or_gt_of_ne h with l | l
  · rw [mm_lt l]; exact ⟨ha.1, l, hb.2⟩
  · rw [mm_comm, mm_lt l]; exact ⟨hb.1, l, ha.2⟩
theorem mm_inj {a b c d : Int} (h : mm a b = mm c d) : (a = c ∧ b = d) ∨ (a = d ∧ b = c) := by
  unfold mm at h
  simp only [Prod.mk.injEq] at h
  obtain ⟨h1, h2⟩ := h
  split at h1 <;> split at h1 <;> split at h2 <;> split at h2 <;> omega
theorem sortP_asc {ts : List (Int × Int)} (h : ts.Nodup) : (sortP ts).Pairwise (fun p q => ltP p q = true) := by
  have h1 : (sortP ts).Pairwise (fun p q => leP p q = true) := by
    refine List.pairwise_mergeSort (fun p q r a b => ?_) (fun p q => ?_) ts
    · obtain ⟨p1, p2⟩ := p
      obtain ⟨q1, q2⟩ := q
      obtain ⟨r1, r2⟩ := r
      simp only [leP, ltP, Bool.not_eq_true', Bool.or_eq_false_iff, Bool.and_eq_false_iff, decide_eq_false_iff_not] at a b ⊢
      omega
    · obtain ⟨p1, p2⟩ := p
      obtain ⟨q1, q2⟩ := q
      simp only [leP, ltP, Bool.or_eq_true, Bool.not_eq_true', Bool.or_eq_false_iff, Bool.and_eq_false_iff, decide_eq_false_iff_not]
      omega
  have h2 : (sortP ts).Nodup := (List.mergeSort_perm ts leP).nodup_iff.mpr h
  refine List.Pairwise.imp₂ (fun p q a b => ?_) h1 h2
  obtain ⟨p1, p2⟩ := p
  obtain ⟨q1, q2⟩ := q
  have b : (p1, p2) ≠ (q1, q2) := b
  simp only [leP, ltP, Bool.not_eq_true', Bool.or_eq_false_iff, Bool.and_eq_false_iff, decide_eq_false_iff_not, Bool.or_eq_true, Bool.and_eq_true, decide_eq_true_eq] at a ⊢
  have : ¬ (p1 = q1 ∧ p2 = q2) := fun ⟨e1, e2⟩ => b (by rw [e1, e2])
  omega
theorem Web.of_sort {m : Int} {ts : List (Int × Int)} (h0 : 0 ≤ m) (hl : ts.length < 1000) (ht : ∀ p ∈ ts, Tie m p) (hn : ts.Nodup) : Web m (sortP ts) :=
  ⟨by rw [len_sortP]; exact hl, h0, fun p hp => ht p (mem_sortP.mp hp), asc_of (sortP_asc hn)⟩
end Ax
/-! M1: chordal webs as they are drawn; perfect orders. -/
namespace Ax
open PySem
/-- thing by thing, each is tied with a lot of earlier ones that are all tied -/
inductive Chord : List Int → List (Int × Int) → Prop
  | nil : Chord [] []
  | add {done : List Int} {ts : List (Int × Int)} {c : Int} {ys : List Int} : Chord done ts → c ∉ done → ys.Nodup → (∀ y ∈ ys, y ∈ done) → (∀ x ∈ ys, ∀ y ∈ ys, x ≠ y → mm x y ∈ ts) → Chord (done ++ [c]) (ts ++ ys.map fun x => mm x c)
theorem Chord.ends {done : List Int} {ts : List (Int × Int)} (h : Chord done ts) : ∀ p ∈ ts, ∃ x ∈ done, ∃ y ∈ done, x ≠ y ∧ p = mm x y := by
  induction h with
  | nil => intro p hp; cases hp
  | @add done ts c ys h1 h2 h3 h4 h5 ih =>
    intro p hp
    rcases List.mem_append.mp hp with hp | hp
    · obtain ⟨x, hx, y, hy, hn, e⟩ := ih p hp
      exact ⟨x, by simp [hx], y, by simp [hy], hn, e⟩
    · obtain ⟨x, hx, rfl⟩ := List.mem_map.mp hp
      exact ⟨x, by simp [h4 x hx], c, by simp, fun e => h2 (e ▸ h4 x hx), rfl⟩
theorem Chord.mem {done : List Int} {ts : List (Int × Int)} (h : Chord done ts) {x y : Int} (hm : mm x y ∈ ts) : x ∈ done ∧ y ∈ done ∧ x ≠ y := by
  obtain ⟨a, ha, b, hb, hn, e⟩ := h.ends _ hm
  rcases mm_inj e with ⟨rfl, rfl⟩ | ⟨rfl, rfl⟩
  · exact ⟨ha, hb, hn⟩
  · exact ⟨hb, ha, fun e => hn e.symm⟩
theorem Chord.nodup {done : List Int} {ts : List (Int × Int)} (h : Chord done ts) : ts.Nodup := by
  induction h with
  | nil => exact List.nodup_nil
  | @add done ts c ys h1 h2 h3 h4 h5 ih =>
    rw [List.nodup_append]
    refine ⟨ih, ?_, ?_⟩
    · rw [List.Nodup, List.pairwise_map]
      refine List.Pairwise.imp_of_mem (fun {x y} hx hy hn e => ?_) h3
      rcases mm_inj e with ⟨e, _⟩ | ⟨e, _⟩
      · exact hn e
      · exact h2 (e ▸ h4 x hx)
    · intro p hp q hq e
      subst e
      obtain ⟨x, hx, rfl⟩ := List.mem_map.mp hq
      exact h2 (h1.mem hp).2.1
theorem Chord.tie {done : List Int} {ts : List (Int × Int)} {m : Int} (h : Chord done ts) (hr : ∀ x ∈ done, 0 ≤ x ∧ x < m) : ∀ p ∈ ts, Tie m p := by
  intro p hp
  obtain ⟨x, hx, y, hy, hn, rfl⟩ := h.ends p hp
  exact mm_tie (hr x hx) (hr y hy) hn
theorem Chord.web {done : List Int} {ts : List (Int × Int)} {m : Int} (h : Chord done ts) (hr : ∀ x ∈ done, 0 ≤ x ∧ x < m) (h0 : 0 ≤ m) (hm : m ≤ 30) : Web m (sortP ts) := by
  have ht := h.tie hr
  refine Web.of_sort h0 (Nat.lt_of_le_of_lt (Nat.le_trans (h.nodup.length_le_of_subset fun p hp => ?_) (len_allPairs hm)) (by omega)) ht h.nodup
  exact mem_allPairs.mpr (ht p hp)
end Ax
/-! P5: data that are shown in a short text. -/
namespace Ax
open PySem
structure Fit (d : D) (n : Nat) : Prop where
  s : d.showable = true
  l : d.shown.length ≤ n
structure FitAll (ds : List D) (n : Nat) : Prop where
  s : PyData.showableAll ds = true
  l : piled (PyData.shownAll ds) ≤ n
theorem FitAll.nil : FitAll [] 0 := ⟨by simp [PyData.showableAll], by simp [PyData.shownAll, piled]⟩
theorem FitAll.cons {d : D} {ds : List D} {a b : Nat} (h : Fit d a) (t : FitAll ds b) : FitAll (d :: ds) (a + 2 + b) :=
  ⟨by rw [PyData.showableAll, h.s, t.s]; rfl, by
    have h1 := h.l
    have h2 := t.l
    rw [PyData.shownAll, piled_cons]
    omega⟩
theorem text_le : ∀ (ts : List Str) (k : Nat) (acc : Str), (textFrom k acc ts).length ≤ acc.length + piled ts
  | [], k, acc => by simp [textFrom, piled]
  | t :: r, k, acc => by
    have h := text_le r (k + 1) (acc ++ (if k > 0 then ", " else "" : String) ++ t)
    have e : (acc ++ (if k > 0 then ", " else "" : String) ++ t).length = acc.length + (if k > 0 then 2 else 0) + t.length := by
      rw [strLen_append, strLen_append]
      split <;> rfl
    rw [e] at h
    rw [textFrom, piled_cons]
    refine Nat.le_trans h ?_
    split <;> omega
theorem Fit.list {ds : List D} {n : Nat} (h : FitAll ds n) : Fit (.list ds) (n + 2) :=
  ⟨by rw [PyData.showable]; exact h.s, by
    have h1 := text_le (PyData.shownAll ds) 0 "["
    have h2 := h.l
    rw [PyData.shown, listText, strLen_append]
    have e1 : ((("[" : String) : Str)).length = 1 := rfl
    have e2 : ((("]" : String) : Str)).length = 1 := rfl
    rw [e2]
    rw [e1] at h1
    omega⟩
theorem join_le (ts : List Str) : (Str.join ", " ts).length ≤ piled ts := by
  cases ts with
  | nil => simp [piled]; rfl
  | cons t r =>
    have := join_length_add (t :: r) (by simp)
    omega
theorem Fit.tuple {ds : List D} {n : Nat} (h : FitAll ds n) : Fit (.tuple ds) (n + 3) :=
  ⟨by rw [PyData.showable]; exact h.s, by
    have h1 := join_le (PyData.shownAll ds)
    have h2 := h.l
    rw [PyData.shown, tupleText, strLen_append, strLen_append]
    have e1 : ((("(" : String) : Str)).length = 1 := rfl
    rw [e1]
    split
    · have e2 : (((",)" : String) : Str)).length = 2 := rfl
      rw [e2]; omega
    · have e2 : (((")" : String) : Str)).length = 1 := rfl
      rw [e2]; omega⟩
theorem small : ∀ n : Fin 100, PyData.showable (.int (n.val : Int)) = true ∧ (PyData.shown (.int (n.val : Int))).length ≤ 2 := by decide +kernel
theorem Fit.int {i : Int} (h : 0 ≤ i) (h2 : i < 100) : Fit (.int i) 2 := by
  obtain ⟨n, rfl⟩ : ∃ n : Nat, i = n := ⟨i.toNat, by omega⟩
  exact ⟨(small ⟨n, by omega⟩).1, (small ⟨n, by omega⟩).2⟩
theorem Fit.non : Fit .none 4 := ⟨by decide, by decide⟩
theorem Fit.bool (b : Bool) : Fit (.bool b) 5 := by cases b <;> exact ⟨by decide, by decide⟩
theorem FitAll.ints : ∀ {xs : List Int}, (∀ x ∈ xs, 0 ≤ x ∧ x < 100) → FitAll (xs.map .int) (4 * xs.length)
  | [], _ => .nil
  | x :: xs, h => by
    have h1 := FitAll.cons (Fit.int (h x (by simp)).1 (h x (by simp)).2) (FitAll.ints (xs := xs) fun y hy => h y (List.mem_cons_of_mem _ hy))
    rw [List.length_cons, List.map_cons, show 4 * (xs.length + 1) = 2 + 2 + 4 * xs.length by omega]
    exact h1
theorem Fit.row {xs : List Int} (h : ∀ x ∈ xs, 0 ≤ x ∧ x < 100) : Fit (row xs) (4 * xs.length + 3) := .tuple (.ints h)
theorem Fit.mono {d : D} {m n : Nat} (h : Fit d m) (l : m ≤ n) : Fit d n := ⟨h.s, Nat.le_trans h.l l⟩
theorem FitAll.mono {d : List D} {m n : Nat} (h : FitAll d m) (l : m ≤ n) : FitAll d n := ⟨h.s, Nat.le_trans h.l l⟩
theorem FitAll.all {α : Type} (f : α → D) {n : Nat} : ∀ {xs : List α}, (∀ x ∈ xs, Fit (f x) n) → FitAll (xs.map f) (xs.length * (n + 2))
  | [], _ => by simpa using FitAll.nil
  | x :: xs, h => by
    have h1 := FitAll.cons (h x (by simp)) (FitAll.all f (xs := xs) fun y hy => h y (List.mem_cons_of_mem _ hy))
    rw [List.length_cons, List.map_cons, Nat.succ_mul, Nat.add_comm (xs.length * (n + 2))]
    exact h1
end Ax
namespace K82
open PySem Ax
def top (i : Nat) : Stmt := PySem.Challenge.pw_arrowsalike_k82_bare_rings.main.body.getD i (.Pass ⟨0, 0, 0, 0⟩)
/-- law -/
abbrev t0 : Stmt := top 36
/-- _law_fount -/
abbrev t1 : Stmt := top 24
/-- _law_right -/
abbrev t2 : Stmt := top 35
/-- _law_ring_web -/
abbrev t3 : Stmt := top 34
/-- _law_sip -/
abbrev t4 : Stmt := top 25
/-- _law_shuffled -/
abbrev t5 : Stmt := top 28
/-- _law_web -/
abbrev t6 : Stmt := top 29
/-- _law_chordal_web -/
abbrev t7 : Stmt := top 33
/-- _law_choose -/
abbrev t8 : Stmt := top 26
/-- _law_rings -/
abbrev t9 : Stmt := top 31
/-- _law_is_ring -/
abbrev t10 : Stmt := top 32
/-- _law_equal -/
abbrev t11 : Stmt := top 27
/-- bare_ring -/
abbrev t12 : Stmt := top 22
/-- check_web -/
abbrev t13 : Stmt := top 16
/-- fault_of -/
abbrev t14 : Stmt := top 15
/-- is_tuple -/
abbrev t15 : Stmt := top 7
/-- is_from -/
abbrev t16 : Stmt := top 5
/-- is_integer -/
abbrev t17 : Stmt := top 4
/-- pairs_fault -/
abbrev t18 : Stmt := top 11
/-- is_ascending -/
abbrev t19 : Stmt := top 8
/-- is_tie -/
abbrev t20 : Stmt := top 10
/-- is_pair -/
abbrev t21 : Stmt := top 9
/-- is_below -/
abbrev t22 : Stmt := top 6
/-- bare_ring_in -/
abbrev t23 : Stmt := top 20
/-- bare_ways -/
abbrev t24 : Stmt := top 19
/-- near_in -/
abbrev t25 : Stmt := top 13
/-- is_bare_ring -/
abbrev t26 : Stmt := top 18
/-- is_chordal -/
abbrev t27 : Stmt := top 21
def b0_1 : Sts := (.cons (.ite (.not (.call 2 (.cons (.var 2) .nil))) (.cons (.ret (.bl false)) .nil) .nil) .nil)
def b0_0 : Sts := (.cons (.asg (.nm 2) (.call 1 (.cons (.var 0) (.cons (.var 1) .nil)))) (.cons (.for_ (.nm 3) (.rng (.r1 (.int 2))) b0_1) .nil))
def b0 : Sts := (.cons (.for_ (.nm 1) (.rng (.r1 (.bi .max2 (.cons (.int 1) (.cons (.bi .min2 (.cons (.int 3) (.cons (.bi .len (.cons (.var 0) .nil)) .nil))) .nil))))) b0_0) (.cons (.ret (.bl true)) .nil))
def b1_0 : Sts := (.cons (.asg (.nm 2) (.bin .Mod (.bi .int (.cons (.bin .Add (.bin .Add (.bin .Mult (.var 2) (.int 15486719)) (.bin .Mult (.bi .int (.cons (.var 3) .nil)) (.int 472882027))) (.int 6151)) .nil)) (.bin .Add (.bin .Pow (.int 10) (.int 27)) (.int 103)))) .nil)
def b1 : Sts := (.cons (.asg (.nm 2) (.bin .Add (.bin .Add (.bin .Mult (.int 904573) (.var 1)) (.bin .Mult (.int 2713) (.bi .len (.cons (.sl (.var 0) .no (.so (.int 63))) .nil)))) (.int 41))) (.cons (.for_ (.nm 3) (.seq (.sl (.var 0) .no (.so (.int 63)))) b1_0) (.cons (.asg (.nm 4) (.frz (.ite (.cmp .Lt (.var 1) (.bi .len (.cons (.var 0) .nil))) (.bi .abs (.cons (.bi .int (.cons (.ix (.var 0) (.var 1)) .nil)) .nil)) (.int 0)))) (.cons (.ret (.lst (.cons (.bi .max2 (.cons (.int 0) (.cons (.bin .Sub (.var 4) (.bin .Pow (.int 10) (.int 17))) .nil))) (.cons (.var 2) (.cons (.int 0) .nil))))) .nil))))
def b2_0 : Sts := (.cons (.asg (.nm 3) (.frz (.call 9 (.cons (.var 2) .nil)))) (.cons (.asg (.nm 4) (.frz (.ite (.cmp .NotEq (.var 3) (.lst .nil)) (.ix (.var 3) (.int 0)) .non))) (.cons (.ite (.not (.call 11 (.cons (.lst (.cons (.call 12 (.cons (.var 2) .nil)) (.cons (.callK 12 .nil ["web"] (.cons (.var 2) .nil) [0]) (.cons (.call 27 (.cons (.var 2) .nil)) (.cons (.callK 27 .nil ["web"] (.cons (.var 2) .nil) [0]) .nil))))) (.cons (.lst (.cons (.var 4) (.cons (.var 4) (.cons (.isN false (.var 4)) (.cons (.isN false (.var 4)) .nil))))) .nil)))) (.cons (.ret (.bl false)) .nil) .nil) .nil)))
def b2 : Sts := (.cons (.asg (.nm 1) (.frz (.lst (.cons (.call 3 (.cons (.var 0) .nil)) (.cons (.call 6 (.cons (.var 0) (.cons (.call 8 (.cons (.var 0) (.cons (.lst (.cons (.int 5) (.cons (.int 6) (.cons (.int 4) (.cons (.int 3) (.cons (.int 2) (.cons (.int 1) (.cons (.int 0) .nil)))))))) .nil))) (.cons (.bin .Add (.int 2) (.call 4 (.cons (.var 0) (.cons (.int 2) .nil)))) .nil)))) (.cons (.call 7 (.cons (.var 0) (.cons (.bin .Add (.int 1) (.call 4 (.cons (.var 0) (.cons (.int 6) .nil)))) .nil))) .nil)))))) (.cons (.for_ (.nm 2) (.seq (.var 1)) b2_0) (.cons (.ret (.cmp .Is (.call 27 (.cons (.ix (.var 1) (.int 2)) .nil)) (.bl true))) .nil)))
def b3_0 : Sts := (.cons (.asg (.nm 7) (.frz (.srt .int (.sl (.call 5 (.cons (.var 0) (.cons (.var 5) .nil))) .no (.so (.int 2)))))) (.cons (.dPut 6 (.tup (.cons (.ix (.var 7) (.int 0)) (.cons (.ix (.var 7) (.int 1)) .nil))) (.bl true)) .nil))
def b3_1 : Sts := (.cons (.asgN [8, 9] (.cons (.frz (.ite (.cmp .Gt (.var 3) (.int 0)) (.ix (.var 5) (.bin .Sub (.var 3) (.int 1))) (.ix (.var 5) (.bin .Sub (.var 1) (.int 1))))) (.cons (.ix (.var 5) (.var 3)) .nil))) (.cons (.dPut 6 (.tup (.cons (.bi .min2 (.cons (.var 8) (.cons (.var 9) .nil))) (.cons (.bi .max2 (.cons (.var 8) (.cons (.var 9) .nil))) .nil))) (.bl true)) .nil))
def b3 : Sts := (.cons (.asg (.nm 1) (.bin .Add (.int 4) (.call 4 (.cons (.var 0) (.cons (.int 3) .nil))))) (.cons (.asg (.nm 2) (.bi .min2 (.cons (.int 6) (.cons (.bin .Add (.var 1) (.call 4 (.cons (.var 0) (.cons (.int 2) .nil)))) .nil)))) (.cons (.asgN [5, 6] (.cons (.frz (.call 5 (.cons (.var 0) (.cons (.rng false (.r1 (.var 2))) .nil)))) (.cons (.dnew true) .nil))) (.cons (.for_ (.nm 3) (.rng (.r1 (.var 1))) b3_1) (.cons (.for_ (.nm 4) (.rng (.r1 (.call 4 (.cons (.var 0) (.cons (.int 3) .nil))))) b3_0) (.cons (.ret (.tup (.cons (.var 2) (.cons (.bi .tuple (.cons (.dSrt (.pr .int .int) 6) .nil)) .nil)))) .nil))))))
def b4 : Sts := (.cons (.ite (.cmp .Gt (.ix (.var 0) (.int 0)) (.int 0)) (.cons (.asg (.nm 4) (.bin .Mod (.bi .int (.cons (.ix (.var 0) (.int 0)) .nil)) (.var 1))) (.cons (.asgIx 0 (.int 0) (.bin .FloorDiv (.ix (.var 0) (.int 0)) (.var 1))) (.cons (.ret (.var 4)) .nil))) .nil) (.cons (.asgIx 0 (.int 2) (.bin .Add (.ix (.var 0) (.int 2)) (.int 1))) (.cons (.asg (.nm 2) (.bin .Mod (.bi .int (.cons (.bin .Add (.bin .Add (.bin .Pow (.bin .Add (.ix (.var 0) (.int 1)) (.bin .Mult (.int 86028157) (.ix (.var 0) (.int 2)))) (.int 3)) (.bin .Mult (.int 122949829) (.ix (.var 0) (.int 2)))) (.int 5)) .nil)) (.bin .Add (.bin .Pow (.int 10) (.int 26)) (.int 67)))) (.cons (.asg (.nm 3) (.bin .Mod (.bi .int (.cons (.bin .Add (.bin .Add (.bin .Pow (.var 2) (.int 2)) (.bin .Mult (.int 67867979) (.ix (.var 0) (.int 2)))) (.ix (.var 0) (.int 1))) .nil)) (.bin .Add (.bin .Pow (.int 10) (.int 25)) (.int 13)))) (.cons (.ret (.bin .Mod (.bi .int (.cons (.bin .FloorDiv (.var 3) (.bin .Pow (.int 10) (.int 7))) .nil)) (.var 1))) .nil)))))
def b5_0 : Sts := (.cons (.expr (.app 4 (.popAt 3 (.call 4 (.cons (.var 0) (.cons (.bi .len (.cons (.var 3) .nil)) .nil)))))) .nil)
def b5 : Sts := (.cons (.asgN [3, 4] (.cons (.bi .list (.cons (.var 1) .nil)) (.cons (.lst .nil) .nil))) (.cons (.for_ (.nm 2) (.rng (.r1 (.bi .len (.cons (.var 1) .nil)))) b5_0) (.cons (.ret (.var 4)) .nil)))
def b6_0 : Sts := (.cons (.expr (.ext 3 (.lc [5] (.nm 5) (.rng (.r2 (.bin .Add (.var 4) (.int 1)) (.var 1))) (.so (.cmp .Gt (.call 4 (.cons (.var 0) (.cons (.var 2) .nil))) (.int 0))) (.tup (.cons (.var 4) (.cons (.var 5) .nil)))))) .nil)
def b6 : Sts := (.cons (.asg (.nm 3) (.lst .nil)) (.cons (.for_ (.nm 4) (.rng (.r1 (.var 1))) b6_0) (.cons (.ret (.tup (.cons (.var 1) (.cons (.bi .tuple (.cons (.var 3) .nil)) .nil)))) .nil)))
def b7_1 : Sts := (.cons (.ite (.and (.cons (.cmp .NotIn (.var 7) (.var 6)) (.cons (.cmp .Gt (.call 4 (.cons (.var 0) (.cons (.int 3) .nil))) (.int 0)) (.cons (.cmp .Eq (.lc [8] (.nm 8) (.seq (.var 6)) (.so (.cmp .NotIn (.tup (.cons (.bi .min2 (.cons (.var 7) (.cons (.var 8) .nil))) (.cons (.bi .max2 (.cons (.var 7) (.cons (.var 8) .nil))) .nil))) (.var 4))) (.var 8)) (.lst .nil)) .nil)))) (.cons (.expr (.app 6 (.var 7))) .nil) .nil) .nil)
def b7_0 : Sts := (.cons (.asg (.nm 5) (.frz (.call 4 (.cons (.var 0) (.cons (.bin .Add (.var 2) (.int 1)) .nil))))) (.cons (.ite (.cmp .Lt (.var 5) (.var 2)) (.cons (.asg (.nm 6) (.lst (.cons (.ix (.var 3) (.var 5)) .nil))) (.cons (.for_ (.nm 7) (.seq (.sl (.var 3) .no (.so (.var 2)))) b7_1) (.cons (.expr (.ext 4 (.lc [7] (.nm 7) (.seq (.var 6)) .no (.tup (.cons (.bi .min2 (.cons (.var 7) (.cons (.ix (.var 3) (.var 2)) .nil))) (.cons (.bi .max2 (.cons (.var 7) (.cons (.ix (.var 3) (.var 2)) .nil))) .nil)))))) .nil))) .nil) .nil))
def b7 : Sts := (.cons (.asgN [3, 4] (.cons (.frz (.call 5 (.cons (.var 0) (.cons (.rng false (.r1 (.var 1))) .nil)))) (.cons (.lst .nil) .nil))) (.cons (.for_ (.nm 2) (.rng (.r2 (.int 1) (.var 1))) b7_0) (.cons (.ret (.tup (.cons (.var 1) (.cons (.bi .tuple (.cons (.srt (.pr .int .int) (.var 4)) .nil)) .nil)))) .nil)))
def b8 : Sts := (.cons (.ret (.ix (.var 1) (.call 4 (.cons (.var 0) (.cons (.bi .len (.cons (.var 1) .nil)) .nil))))) .nil)
def b9_1 : Sts := (.cons (.expr (.ext 4 (.lc [7] (.nm 7) (.rng (.r1 (.ix (.var 0) (.int 0)))) (.so (.and (.cons (.cmp .NotIn (.var 7) (.var 5)) (.cons (.cmp .In (.tup (.cons (.bi .min2 (.cons (.var 7) (.cons (.ix (.var 5) (.neg (.int 1))) .nil))) (.cons (.bi .max2 (.cons (.var 7) (.cons (.ix (.var 5) (.neg (.int 1))) .nil))) .nil))) (.ix (.var 0) (.int 1))) .nil)))) (.bin .Add (.var 5) (.tup (.cons (.var 7) .nil)))))) .nil)
def b9_0 : Sts := (.cons (.asg (.nm 4) (.lst .nil)) (.cons (.for_ (.nm 5) (.seq (.var 2)) b9_1) (.cons (.asg (.nm 2) (.var 4)) (.cons (.ite (.cmp .Gt (.var 1) (.int 3)) (.cons (.expr (.ext 3 (.lc [5] (.nm 5) (.seq (.var 2)) (.so (.call 10 (.cons (.var 0) (.cons (.var 5) .nil)))) (.var 5)))) .nil) .nil) .nil))))
def b9 : Sts := (.cons (.asgN [2, 3] (.cons (.frz (.lc [6] (.nm 6) (.rng (.r1 (.ix (.var 0) (.int 0)))) .no (.tup (.cons (.var 6) .nil)))) (.cons (.lst .nil) .nil))) (.cons (.for_ (.nm 1) (.rng (.r2 (.int 2) (.bin .Add (.ix (.var 0) (.int 0)) (.int 1)))) b9_0) (.cons (.ret (.var 3)) .nil)))
def b10_0 : Sts := (.cons (.expr (.app 5 (.tup (.cons (.bi .min2 (.cons (.ix (.var 1) (.bin .Sub (.var 2) (.int 1))) (.cons (.ix (.var 1) (.var 2)) .nil))) (.cons (.bi .max2 (.cons (.ix (.var 1) (.bin .Sub (.var 2) (.int 1))) (.cons (.ix (.var 1) (.var 2)) .nil))) .nil))))) .nil)
def b10 : Sts := (.cons (.asgN [4, 5] (.cons (.bi .len (.cons (.var 1) .nil)) (.cons (.lst .nil) .nil))) (.cons (.for_ (.nm 2) (.rng (.r1 (.var 4))) b10_0) (.cons (.asg (.nm 3) (.frz (.lc [6] (.nm 6) (.seq (.ix (.var 0) (.int 1))) (.so (.and (.cons (.cmp .In (.ix (.var 6) (.int 0)) (.var 1)) (.cons (.cmp .In (.ix (.var 6) (.int 1)) (.var 1)) .nil)))) (.var 6)))) (.cons (.ret (.cmp .Eq (.srt (.pr .int .int) (.var 5)) (.srt (.pr .int .int) (.var 3)))) .nil))))
def b11 : Sts := (.cons (.ret (.cmp .Eq (.bi .repr (.cons (.var 0) .nil)) (.bi .repr (.cons (.var 1) .nil)))) .nil)
def b12 : Sts := (.cons (.expr (.call 13 (.cons (.var 0) .nil))) (.cons (.ret (.call 23 (.cons (.var 0) .nil))) .nil))
def b13 : Sts := (.cons (.asg (.nm 1) (.frz (.call 14 (.cons (.var 0) .nil)))) (.cons (.ite (.isN true (.var 1)) (.cons .never .nil) .nil) .nil))
def b14 : Sts := (.cons (.ite (.not (.call 15 (.cons (.int 2) (.cons (.var 0) .nil)))) (.cons (.ret (.tup .nil)) .nil) .nil) (.cons (.ite (.not (.call 16 (.cons (.int 0) (.cons (.ix (.var 0) (.int 0)) .nil)))) (.cons (.ret (.tup (.cons (.int 0) .nil))) .nil) .nil) (.cons (.asg (.nm 1) (.frz (.call 18 (.cons (.ix (.var 0) (.int 0)) (.cons (.ix (.var 0) (.int 1)) (.cons (.fnv 20) .nil)))))) (.cons (.ret (.ite (.isN false (.var 1)) .non (.bin .Add (.tup (.cons (.int 1) .nil)) (.var 1)))) .nil))))
def b15 : Sts := (.cons (.ret (.and (.cons (.isi "tuple" (.var 1)) (.cons (.or (.cons (.isN false (.var 0)) (.cons (.cmp .Eq (.bi .len (.cons (.var 1) .nil)) (.var 0)) .nil))) .nil)))) .nil)
def b16 : Sts := (.cons (.ret (.and (.cons (.call 17 (.cons (.var 1) .nil)) (.cons (.cmp .GtE (.var 1) (.var 0)) .nil)))) .nil)
def b17 : Sts := (.cons (.ret (.and (.cons (.isi "int" (.var 0)) (.cons (.not (.isi "bool" (.var 0))) .nil)))) .nil)
def b18_0 : Sts := (.cons (.ite (.not (.callV 2 (.cons (.var 0) (.cons (.var 4) .nil)))) (.cons (.ret (.tup (.cons (.var 3) .nil))) .nil) .nil) .nil)
def b18 : Sts := (.cons (.ite (.not (.call 15 (.cons .non (.cons (.var 1) .nil)))) (.cons (.ret (.tup .nil)) .nil) .nil) (.cons (.for_ (.tp (.cons (.nm 3) (.cons (.nm 4) .nil))) (.enm (.var 1)) b18_0) (.cons (.ret (.ite (.call 19 (.cons (.var 1) .nil)) .non (.tup .nil))) .nil)))
def b19 : Sts := (.cons (.ret (.bi .all (.cons (.lc [1, 2] (.tp (.cons (.nm 1) (.cons (.nm 2) .nil))) (.zip (.var 0) (.sl (.var 0) (.so (.int 1)) .no)) .no (.cmp .Lt (.var 1) (.var 2))) .nil))) .nil)
def b20 : Sts := (.cons (.ret (.and (.cons (.call 21 (.cons (.var 0) (.cons (.var 1) .nil))) (.cons (.cmp .Lt (.ix (.var 1) (.int 0)) (.ix (.var 1) (.int 1))) .nil)))) .nil)
def b21 : Sts := (.cons (.ret (.and (.cons (.call 15 (.cons (.int 2) (.cons (.var 1) .nil))) (.cons (.bi .all (.cons (.lc [2] (.nm 2) (.seq (.var 1)) .no (.call 22 (.cons (.var 0) (.cons (.var 2) .nil)))) .nil)) (.cons (.cmp .NotEq (.ix (.var 1) (.int 0)) (.ix (.var 1) (.int 1))) .nil))))) .nil)
def b22 : Sts := (.cons (.ret (.and (.cons (.call 16 (.cons (.int 0) (.cons (.var 1) .nil))) (.cons (.cmp .Lt (.var 1) (.var 0)) .nil)))) .nil)
def b23_0 : Sts := (.cons (.asg (.nm 1) (.frz (.call 24 (.cons (.var 0) (.cons (.var 1) .nil))))) (.cons (.asg (.nm 3) (.frz (.lc [5] (.nm 5) (.seq (.var 1)) (.so (.and (.cons (.cmp .Gt (.var 2) (.int 3)) (.cons (.call 26 (.cons (.var 0) (.cons (.var 5) .nil))) .nil)))) (.var 5)))) (.cons (.ite (.cmp .NotEq (.var 3) (.lst .nil)) (.cons (.ret (.ix (.var 3) (.int 0))) .nil) .nil) .nil)))
def b23 : Sts := (.cons (.asg (.nm 1) (.frz (.lc [4] (.nm 4) (.rng (.r1 (.ix (.var 0) (.int 0)))) .no (.tup (.cons (.var 4) .nil))))) (.cons (.for_ (.nm 2) (.rng (.r2 (.int 2) (.bin .Add (.ix (.var 0) (.int 0)) (.int 1)))) b23_0) (.cons (.ret .non) .nil)))
def b24_1 : Sts := (.cons (.ite (.and (.cons (.cmp .NotIn (.var 4) (.var 3)) (.cons (.not (.bi .any (.cons (.lc [5] (.nm 5) (.seq (.sl (.var 3) (.so (.int 1)) (.so (.neg (.int 1))))) .no (.cmp .In (.var 5) (.call 25 (.cons (.ix (.var 0) (.int 1)) (.cons (.var 4) .nil))))) .nil))) .nil))) (.cons (.expr (.app 2 (.bin .Add (.var 3) (.tup (.cons (.var 4) .nil))))) .nil) .nil) .nil)
def b24_0 : Sts := (.cons (.for_ (.nm 4) (.seq (.call 25 (.cons (.ix (.var 0) (.int 1)) (.cons (.ix (.var 3) (.neg (.int 1))) .nil)))) b24_1) .nil)
def b24 : Sts := (.cons (.asg (.nm 2) (.lst .nil)) (.cons (.for_ (.nm 3) (.seq (.var 1)) b24_0) (.cons (.ret (.var 2)) .nil)))
def b25 : Sts := (.cons (.ret (.bi .tuple (.cons (.srt .int (.lc [2, 3] (.tp (.cons (.nm 2) (.cons (.nm 3) .nil))) (.seq (.var 0)) (.so (.cmp .In (.var 1) (.tup (.cons (.var 2) (.cons (.var 3) .nil))))) (.bin .Sub (.bin .Add (.var 2) (.var 3)) (.var 1)))) .nil))) .nil)
def b26_1 : Sts := (.cons (.asg (.nm 5) (.or (.cons (.cmp .Eq (.var 4) (.bin .Add (.var 3) (.int 1))) (.cons (.and (.cons (.cmp .Eq (.var 3) (.int 0)) (.cons (.cmp .Eq (.var 4) (.bin .Sub (.var 2) (.int 1))) .nil))) .nil)))) (.cons (.ite (.cmp .NotEq (.cmp .In (.tup (.cons (.bi .min2 (.cons (.ix (.var 1) (.var 3)) (.cons (.ix (.var 1) (.var 4)) .nil))) (.cons (.bi .max2 (.cons (.ix (.var 1) (.var 3)) (.cons (.ix (.var 1) (.var 4)) .nil))) .nil))) (.ix (.var 0) (.int 1))) (.var 5)) (.cons (.ret (.bl false)) .nil) .nil) .nil))
def b26_0 : Sts := (.cons (.for_ (.nm 4) (.rng (.r2 (.bin .Add (.var 3) (.int 1)) (.var 2))) b26_1) .nil)
def b26 : Sts := (.cons (.asg (.nm 2) (.bi .len (.cons (.var 1) .nil))) (.cons (.for_ (.nm 3) (.rng (.r1 (.var 2))) b26_0) (.cons (.ret (.bl true)) .nil)))
def b27 : Sts := (.cons (.expr (.call 13 (.cons (.var 0) .nil))) (.cons (.ret (.isN false (.call 23 (.cons (.var 0) .nil)))) .nil))
def N0 : List Str := ["script", "at", "fount", "turn"]
def P0 : List Str := ["script"]
def N1 : List Str := ["script", "at", "stirred", "cell", "own"]
def P1 : List Str := ["script", "at"]
def N2 : List Str := ["fount", "webs", "web", "rings", "due"]
def P2 : List Str := ["fount"]
def N3 : List Str := ["fount", "many", "things", "at", "turn", "order", "ties", "pair", "one", "other"]
def P3 : List Str := ["fount"]
def N4 : List Str := ["fount", "many", "one", "two", "digit"]
def P4 : List Str := ["fount", "many"]
def N5 : List Str := ["fount", "rows", "turn", "left", "found"]
def P5 : List Str := ["fount", "rows"]
def N6 : List Str := ["fount", "things", "odds", "ties", "one", "other"]
def P6 : List Str := ["fount", "things", "odds"]
def N7 : List Str := ["fount", "things", "at", "order", "ties", "first", "lot", "one", "other"]
def P7 : List Str := ["fount", "things"]
def N8 : List Str := ["fount", "rows"]
def P8 : List Str := ["fount", "rows"]
def N9 : List Str := ["web", "many", "ways", "found", "longer", "way", "thing", "later"]
def P9 : List Str := ["web"]
def N10 : List Str := ["web", "way", "at", "own", "many", "due", "pair"]
def P10 : List Str := ["web", "way"]
def N11 : List Str := ["told", "due"]
def P11 : List Str := ["told", "due"]
def N12 : List Str := ["web"]
def P12 : List Str := ["web"]
def N13 : List Str := ["thing", "part"]
def P13 : List Str := ["thing"]
def N14 : List Str := ["thing", "fault"]
def P14 : List Str := ["thing"]
def N15 : List Str := ["many", "thing"]
def P15 : List Str := ["many", "thing"]
def N16 : List Str := ["low", "thing"]
def P16 : List Str := ["low", "thing"]
def N17 : List Str := ["thing"]
def P17 : List Str := ["thing"]
def N18 : List Str := ["things", "thing", "rule", "index", "one"]
def P18 : List Str := ["things", "thing", "rule"]
def N19 : List Str := ["members", "one", "later"]
def P19 : List Str := ["members"]
def N20 : List Str := ["things", "thing"]
def P20 : List Str := ["things", "thing"]
def N21 : List Str := ["things", "thing", "one"]
def P21 : List Str := ["things", "thing"]
def N22 : List Str := ["many", "thing"]
def P22 : List Str := ["many", "thing"]
def N23 : List Str := ["web", "ways", "many", "rings", "thing", "way"]
def P23 : List Str := ["web"]
def N24 : List Str := ["web", "ways", "found", "way", "later", "one"]
def P24 : List Str := ["web", "ways"]
def N25 : List Str := ["ties", "thing", "one", "other"]
def P25 : List Str := ["ties", "thing"]
def N26 : List Str := ["web", "ring", "many", "at", "later", "is_next"]
def P26 : List Str := ["web", "ring"]
def N27 : List Str := ["web"]
def P27 : List Str := ["web"]
def fnl : List Str := ["law", "_law_fount", "_law_right", "_law_ring_web", "_law_sip", "_law_shuffled", "_law_web", "_law_chordal_web", "_law_choose", "_law_rings", "_law_is_ring", "_law_equal", "bare_ring", "check_web", "fault_of", "is_tuple", "is_from", "is_integer", "pairs_fault", "is_ascending", "is_tie", "is_pair", "is_below", "bare_ring_in", "bare_ways", "near_in", "is_bare_ring", "is_chordal"]
def fnm (i : Nat) : Str := fnl.getD i Str.empty
def kwt : List (Nat × List Str × List Nat) := [(27, ["web"], [0]), (12, ["web"], [0]), (20, [], [])]
def prog : Nat → Option Fn
  | 0 => some ⟨1, N0.length, b0⟩
  | 1 => some ⟨2, N1.length, b1⟩
  | 2 => some ⟨1, N2.length, b2⟩
  | 3 => some ⟨1, N3.length, b3⟩
  | 4 => some ⟨2, N4.length, b4⟩
  | 5 => some ⟨2, N5.length, b5⟩
  | 6 => some ⟨3, N6.length, b6⟩
  | 7 => some ⟨2, N7.length, b7⟩
  | 8 => some ⟨2, N8.length, b8⟩
  | 9 => some ⟨1, N9.length, b9⟩
  | 10 => some ⟨2, N10.length, b10⟩
  | 11 => some ⟨2, N11.length, b11⟩
  | 12 => some ⟨1, N12.length, b12⟩
  | 13 => some ⟨1, N13.length, b13⟩
  | 14 => some ⟨1, N14.length, b14⟩
  | 15 => some ⟨2, N15.length, b15⟩
  | 16 => some ⟨2, N16.length, b16⟩
  | 17 => some ⟨1, N17.length, b17⟩
  | 18 => some ⟨3, N18.length, b18⟩
  | 19 => some ⟨1, N19.length, b19⟩
  | 20 => some ⟨2, N20.length, b20⟩
  | 21 => some ⟨2, N21.length, b21⟩
  | 22 => some ⟨2, N22.length, b22⟩
  | 23 => some ⟨1, N23.length, b23⟩
  | 24 => some ⟨2, N24.length, b24⟩
  | 25 => some ⟨2, N25.length, b25⟩
  | 26 => some ⟨2, N26.length, b26⟩
  | 27 => some ⟨1, N27.length, b27⟩
  | _ => none
end K82
namespace K82
open PySem Ax
--# 
theorem is_integer {n : Nat} (d : Int) (u : List M) : callF prog (n + 1) 17 [.m (.fro (.int d))] u = .ok (.fro (.bool true)) u := rfl
--# 
theorem is_from {n : Nat} (m d : Int) (u : List M) : callF prog (n + 2) 16 [.m (.fro (.int m)), .m (.fro (.int d))] u = .ok (.fro (.bool (decide (m ≤ d)))) u := by
  rw [callF_at (fn := ⟨2, N16.length, b16⟩) rfl rfl]
  simp [b16, N16, evSs, line, M.isL, kFrz, evS, evE, evAnd, evAnd1, evOr, evOr1, evXs, evXo, evRg, evIfs, evI, bind_ok, bind_ite, rk_ite, rk_ite2, rk_and, rk_or, fin_ite, bindA, S.at, S.set, S.put, Ax.callWith, lend, apart, M.own, tst, truth, ofO, kBin, kCmp, kIsN, kNeg, kTup, kLst, kIx, kSl, kBi, kIsi, kSeq, kInt, kR1, kR2, kZip, kEnm, view, viewS, M.contS, M.cont, binD, biD, ixD, slD, itemsD, asBool, isiD, back, give, giveAll, setAll, giveBack, frz, frzAll, views, List.range, List.range.loop, Ax.fin, bindT, bindTs, keep1, lockS, unlockS, wipeS, unwipe, ownerOf, cmpD, is_integer]
--# 
theorem is_below {n : Nat} (m d : Int) (u : List M) : callF prog (n + 3) 22 [.m (.fro (.int m)), .m (.fro (.int d))] u = .ok (.fro (.bool (decide (0 ≤ d) && decide (d < m)))) u := by
  rw [callF_at (fn := ⟨2, N22.length, b22⟩) rfl rfl]
  by_cases h : 0 ≤ d <;> simp [b22, N22, evSs, line, M.isL, kFrz, evS, evE, evAnd, evAnd1, evOr, evOr1, evXs, evXo, evRg, evIfs, evI, bind_ok, bind_ite, rk_ite, rk_ite2, rk_and, rk_or, fin_ite, bindA, S.at, S.set, S.put, Ax.callWith, lend, apart, M.own, tst, truth, ofO, kBin, kCmp, kIsN, kNeg, kTup, kLst, kIx, kSl, kBi, kIsi, kSeq, kInt, kR1, kR2, kZip, kEnm, view, viewS, M.contS, M.cont, binD, biD, ixD, slD, itemsD, asBool, isiD, back, give, giveAll, setAll, giveBack, frz, frzAll, views, List.range, List.range.loop, Ax.fin, bindT, bindTs, keep1, lockS, unlockS, wipeS, unwipe, ownerOf, cmpD, is_from, h]
--# 
theorem is_tuple2 {n : Nat} (k : Int) (ds : List D) (u : List M) : callF prog (n + 1) 15 [.m (.fro (.int k)), .m (.fro (.tuple ds))] u = .ok (.fro (.bool (decide ((ds.length : Int) = k)))) u := by
  rw [callF_at (fn := ⟨2, N15.length, b15⟩) rfl rfl]
  simp [b15, N15, evSs, line, M.isL, kFrz, evS, evE, evAnd, evAnd1, evOr, evOr1, evXs, evXo, evRg, evIfs, evI, bind_ok, bind_ite, rk_ite, rk_ite2, rk_and, rk_or, fin_ite, bindA, S.at, S.set, S.put, Ax.callWith, lend, apart, M.own, tst, truth, ofO, kBin, kCmp, kIsN, kNeg, kTup, kLst, kIx, kSl, kBi, kIsi, kSeq, kInt, kR1, kR2, kZip, kEnm, view, viewS, M.contS, M.cont, binD, biD, ixD, slD, itemsD, asBool, isiD, back, give, giveAll, setAll, giveBack, frz, frzAll, views, List.range, List.range.loop, Ax.fin, bindT, bindTs, keep1, lockS, unlockS, wipeS, unwipe, ownerOf, cmpD, dok, PyData.eqv, Bool.beq_eq_decide_eq]
--# 
theorem is_pair {n : Nat} (m a b : Int) (u : List M) : callF prog (n + 4) 21 [.m (.fro (.int m)), .m (.fro (.tuple [.int a, .int b]))] u =
    .ok (.fro (.bool (decide (0 ≤ a) && decide (a < m) && (decide (0 ≤ b) && decide (b < m)) && decide (a ≠ b)))) u := by
  rw [callF_at (fn := ⟨2, N21.length, b21⟩) rfl rfl]
  simp [b21, N21, evSs, line, M.isL, kFrz, evS, evE, evAnd, evAnd1, evOr, evOr1, evXs, evXo, evRg, evIfs, evI, bind_ok, bind_ite, rk_ite, rk_ite2, rk_and, rk_or, fin_ite, bindA, S.at, S.set, S.put, Ax.callWith, lend, apart, M.own, tst, truth, ofO, kBin, kCmp, kIsN, kNeg, kTup, kLst, kIx, kSl, kBi, kIsi, kSeq, kInt, kR1, kR2, kZip, kEnm, view, viewS, M.contS, M.cont, binD, biD, ixD, slD, itemsD, asBool, isiD, back, give, giveAll, setAll, giveBack, frz, frzAll, views, List.range, List.range.loop, Ax.fin, bindT, bindTs, keep1, lockS, unlockS, wipeS, unwipe, ownerOf, cmpD, is_tuple2, is_below, lcGo, boolsD, runLc, lcEnd, turnLc, dok, PyData.eqv, nthD, Bool.beq_eq_decide_eq, line, and_assoc, Bool.and_assoc]
  done
--# 
theorem is_tie {n : Nat} (m a b : Int) (u : List M) : callF prog (n + 5) 20 [.m (.fro (.int m)), .m (.fro (.tuple [.int a, .int b]))] u =
    .ok (.fro (.bool ((decide (0 ≤ a) && decide (a < m) && (decide (0 ≤ b) && decide (b < m)) && decide (a ≠ b)) && decide (a < b)))) u := by
  rw [callF_at (fn := ⟨2, N20.length, b20⟩) rfl rfl]
  simp [b20, N20, evSs, line, M.isL, kFrz, evS, evE, evAnd, evAnd1, evOr, evOr1, evXs, evXo, evRg, evIfs, evI, bind_ok, bind_ite, rk_ite, rk_ite2, rk_and, rk_or, fin_ite, bindA, S.at, S.set, S.put, Ax.callWith, lend, apart, M.own, tst, truth, ofO, kBin, kCmp, kIsN, kNeg, kTup, kLst, kIx, kSl, kBi, kIsi, kSeq, kInt, kR1, kR2, kZip, kEnm, view, viewS, M.contS, M.cont, binD, biD, ixD, slD, itemsD, asBool, isiD, back, give, giveAll, setAll, giveBack, frz, frzAll, views, List.range, List.range.loop, Ax.fin, bindT, bindTs, keep1, lockS, unlockS, wipeS, unwipe, ownerOf, cmpD, is_pair, nthD, and_assoc, Bool.and_assoc]
--# 
theorem cmp_tie (p q : Int × Int) : cmpD .Lt (tie p) (tie q) = some (ltP p q) := by
  obtain ⟨a, b⟩ := p
  obtain ⟨c, d⟩ := q
  have e : PySem.W.dataLt (tie (a, b)) (tie (c, d)) = ltP (a, b) (c, d) := by
    show (decide (1 < 1) || (!decide (1 < 1) && (decide (a < c) || (!decide (c < a) && (decide (1 < 1) || (!decide (1 < 1) && (decide (b < d) || (!decide (d < b) && (decide (0 < 0) || (!decide (0 < 0) && false)))))))))) = _
    simp only [ltP]
    by_cases h1 : a < c
    · simp [h1]
    · by_cases h2 : c < a
      · have : a ≠ c := by omega
        simp [h1, h2, this]
      · have : a = c := by omega
        subst this
        by_cases h3 : b < d
        · simp [h3]
        · simp [h3]
  have f : (dok 50 (tie (a, b)) && PySem.W.alike (tie (a, b)) (tie (c, d))) = true := rfl
  show (if (dok 50 (tie (a, b)) && PySem.W.alike (tie (a, b)) (tie (c, d))) = true then some (PySem.W.dataLt (tie (a, b)) (tie (c, d))) else none) = _
  rw [if_pos f, e]
--# 
def tie2 (p : (Int × Int) × (Int × Int)) : D := .tuple [tie p.1, tie p.2]
--# 
theorem is_ascending {n : Nat} (ts : List (Int × Int)) (hl : ts.length < 1000) (u : List M) : callF prog (n + 1) 19 [.m (.fro (.tuple (ts.map tie)))] u = .ok (.fro (.bool (asc ts))) u := by
  rw [callF_at (fn := ⟨1, N19.length, b19⟩) rfl rfl]
  have z : ((ts.map tie).zip (ts.map tie).tail).map (fun p => (PyData.tuple [p.1, p.2] : D)) = (ts.zip ts.tail).map tie2 := by
    rw [← List.map_tail, List.zip_map, List.map_map]
    rfl
  have y := runLc_map (own := [1, 2]) (turn := turnLc (.tp (.cons (.nm 1) (.cons (.nm 2) .nil))) (evIfs (callF prog n) .no) (evE (callF prog n) (.cmp .Lt (.var 1) (.var 2)))) (s1 := ⟨[.m (.fro (.tuple (ts.map tie))), .un, .un], u⟩) (v := .fro .none) tie2 (fun p => [.bool (ltP p.1 p.2)]) (ts.zip ts.tail)
    (fun p _ acc ha => by
      have c := cmp_tie p.1 p.2
      refine ⟨⟨[.m (.fro (.tuple (ts.map tie))), .m (.fro (tie p.1)), .m (.fro (tie p.2))], u⟩, ?_, rfl⟩
      have ha' : acc.length < 16777216 := ha
      simp [turnLc, tie2, wipeS, evSs, line, M.isL, kFrz, evS, evE, evAnd, evAnd1, evOr, evOr1, evXs, evXo, evRg, evIfs, evI, bind_ok, bind_ite, rk_ite, rk_ite2, rk_and, rk_or, fin_ite, bindA, S.at, S.set, S.put, Ax.callWith, lend, apart, M.own, tst, truth, ofO, kBin, kCmp, kIsN, kNeg, kTup, kLst, kIx, kSl, kBi, kIsi, kSeq, kInt, kR1, kR2, kZip, kEnm, view, viewS, M.contS, M.cont, binD, biD, ixD, slD, itemsD, asBool, isiD, back, give, giveAll, setAll, giveBack, frz, frzAll, views, List.range, List.range.loop, Ax.fin, bindT, bindTs, keep1, lockS, unlockS, wipeS, unwipe, ownerOf, c, ha', line]) (by rw [flat1, List.length_map, List.length_zip]; simp only [line]; omega) rfl
  have y2 : evE (callF prog n) (.lc [1, 2] (.tp (.cons (.nm 1) (.cons (.nm 2) .nil))) (.zip (.var 0) (.sl (.var 0) (.so (.int 1)) .no)) .no (.cmp .Lt (.var 1) (.var 2))) ⟨[.m (.fro (.tuple (ts.map tie))), .un, .un], u⟩ = .ok (.m (.lst ((ts.zip ts.tail).flatMap fun p => [.bool (ltP p.1 p.2)]))) ⟨[.m (.fro (.tuple (ts.map tie))), .un, .un], u⟩ := by
    rw [← y, ← z, ← cut1]
    rfl
  rw [flat1] at y2
  simp [b19, N19, evSs, line, M.isL, kFrz, evS, evE, evAnd, evAnd1, evOr, evOr1, evXs, evXo, evRg, evIfs, evI, bind_ok, bind_ite, rk_ite, rk_ite2, rk_and, rk_or, fin_ite, bindA, S.at, S.set, S.put, Ax.callWith, lend, apart, M.own, tst, truth, ofO, kBin, kCmp, kIsN, kNeg, kTup, kLst, kIx, kSl, kBi, kIsi, kSeq, kInt, kR1, kR2, kZip, kEnm, view, viewS, M.contS, M.cont, binD, biD, ixD, slD, itemsD, asBool, isiD, back, give, giveAll, setAll, giveBack, frz, frzAll, views, List.range, List.range.loop, Ax.fin, bindT, bindTs, keep1, lockS, unlockS, wipeS, unwipe, ownerOf, ↓y2, boolsD_of, asc]
--# 
theorem is_tupleN {n : Nat} (ds : List D) (u : List M) : callF prog (n + 1) 15 [.m (.fro .none), .m (.fro (.tuple ds))] u = .ok (.fro (.bool true)) u := rfl
--# 
theorem is_tie_ok {n : Nat} {m : Int} {p : Int × Int} (h : Tie m p) (u : List M) : callF prog (n + 5) 20 [.m (.fro (.int m)), .m (.fro (tie p))] u = .ok (.fro (.bool true)) u := by
  obtain ⟨a, b⟩ := p
  obtain ⟨h1, h2, h3⟩ := h
  simp only at h1 h2 h3
  have e := is_tie (n := n) m a b u
  have e2 : ((decide (0 ≤ a) && decide (a < m) && (decide (0 ≤ b) && decide (b < m)) && decide (a ≠ b)) && decide (a < b)) = true := by
    simp; omega
  rw [e2] at e
  exact e
--# 
theorem pairs_fault {n : Nat} {m : Int} {ts : List (Int × Int)} (hl : ts.length < 1000) (ht : ∀ p ∈ ts, Tie m p) (ha : asc ts = true) (u : List M) :
    callF prog (n + 6) 18 [.m (.fro (.int m)), .m (.fro (.tuple (ts.map tie))), .m (.fn 20)] u = .ok (.fro .none) u := by
  rw [callF_at (fn := ⟨3, N18.length, b18⟩) rfl rfl]
  obtain ⟨s', e2, a, b, rfl⟩ := for_inv (call := callF prog (n + 5)) (t := .tp (.cons (.nm 3) (.cons (.nm 4) .nil))) (it := .enm (.var 1)) (b := b18_0)
      (s0 := ⟨[.m (.fro (.int m)), .m (.fro (.tuple (ts.map tie))), .m (.fn 20), .un, .un], u⟩) (fun s => ∃ a b : Sl, s = ⟨[.m (.fro (.int m)), .m (.fro (.tuple (ts.map tie))), .m (.fn 20), a, b], u⟩) rfl ⟨_, _, rfl⟩ fun d hd s => by
    rintro ⟨a, b, rfl⟩
    simp only [List.mem_map] at hd
    obtain ⟨⟨x, j⟩, hx, rfl⟩ := hd
    have hx2 := (List.mem_zipIdx hx).2.2
    obtain ⟨p, hp, rfl⟩ : ∃ p ∈ ts, tie p = x := List.mem_map.1 (hx2 ▸ List.getElem_mem _)
    refine ⟨_, ⟨[.m (.fro (.int m)), .m (.fro (.tuple (ts.map tie))), .m (.fn 20), .m (.fro (.int j)), .m (.fro (tie p))], u⟩, rfl, ?_, _, _, rfl⟩
    have e := is_tie_ok (n := n) (ht p hp) []
    simp [b18_0, evSs, line, M.isL, kFrz, evS, evE, evAnd, evAnd1, evOr, evOr1, evXs, evXo, evRg, evIfs, evI, bind_ok, bind_ite, rk_ite, rk_ite2, rk_and, rk_or, fin_ite, bindA, S.at, S.set, S.put, Ax.callWith, lend, apart, M.own, tst, truth, ofO, kBin, kCmp, kIsN, kNeg, kTup, kLst, kIx, kSl, kBi, kIsi, kSeq, kInt, kR1, kR2, kZip, kEnm, view, viewS, M.contS, M.cont, binD, biD, ixD, slD, itemsD, asBool, isiD, back, give, giveAll, setAll, giveBack, frz, frzAll, views, List.range, List.range.loop, Ax.fin, bindT, bindTs, keep1, lockS, unlockS, wipeS, unwipe, ownerOf, e]
  have ea := is_ascending (n := n + 4) ts hl []
  rw [ha] at ea
  show fin (evSs (callF prog (n + 5)) b18 ⟨[.m (.fro (.int m)), .m (.fro (.tuple (ts.map tie))), .m (.fn 20), .un, .un], u⟩) = _
  rw [b18, ss_next (s1 := ⟨[.m (.fro (.int m)), .m (.fro (.tuple (ts.map tie))), .m (.fn 20), .un, .un], u⟩) (by simp [evSs, line, M.isL, kFrz, evS, evE, evAnd, evAnd1, evOr, evOr1, evXs, evXo, evRg, evIfs, evI, bind_ok, bind_ite, rk_ite, rk_ite2, rk_and, rk_or, fin_ite, bindA, S.at, S.set, S.put, Ax.callWith, lend, apart, M.own, tst, truth, ofO, kBin, kCmp, kIsN, kNeg, kTup, kLst, kIx, kSl, kBi, kIsi, kSeq, kInt, kR1, kR2, kZip, kEnm, view, viewS, M.contS, M.cont, binD, biD, ixD, slD, itemsD, asBool, isiD, back, give, giveAll, setAll, giveBack, frz, frzAll, views, List.range, List.range.loop, Ax.fin, bindT, bindTs, keep1, lockS, unlockS, wipeS, unwipe, ownerOf, is_tupleN]), ss_next e2]
  simp [evSs, line, M.isL, kFrz, evS, evE, evAnd, evAnd1, evOr, evOr1, evXs, evXo, evRg, evIfs, evI, bind_ok, bind_ite, rk_ite, rk_ite2, rk_and, rk_or, fin_ite, bindA, S.at, S.set, S.put, Ax.callWith, lend, apart, M.own, tst, truth, ofO, kBin, kCmp, kIsN, kNeg, kTup, kLst, kIx, kSl, kBi, kIsi, kSeq, kInt, kR1, kR2, kZip, kEnm, view, viewS, M.contS, M.cont, binD, biD, ixD, slD, itemsD, asBool, isiD, back, give, giveAll, setAll, giveBack, frz, frzAll, views, List.range, List.range.loop, Ax.fin, bindT, bindTs, keep1, lockS, unlockS, wipeS, unwipe, ownerOf, ea]
--# 
theorem fault_of {n : Nat} {m : Int} {ts : List (Int × Int)} (W : Web m ts) (u : List M) : callF prog (n + 7) 14 [.m (.fro (webD m ts))] u = .ok (.fro .none) u := by
  have e1 := is_tuple2 (n := n + 5) 2 [.int m, .tuple (ts.map tie)] []
  have e2 := is_from (n := n + 4) 0 m []
  have e3 := pairs_fault (n := n) W.len W.tie W.asc []
  have l := W.lo
  rw [callF_at (fn := ⟨1, N14.length, b14⟩) rfl rfl]
  show fin (evSs (callF prog (n + 6)) b14 ⟨[.m (.fro (webD m ts)), .un], u⟩) = _
  rw [b14, ss_next (s1 := ⟨[.m (.fro (webD m ts)), .un], u⟩) (by simp [evSs, line, M.isL, kFrz, evS, evE, evAnd, evAnd1, evOr, evOr1, evXs, evXo, evRg, evIfs, evI, bind_ok, bind_ite, rk_ite, rk_ite2, rk_and, rk_or, fin_ite, bindA, S.at, S.set, S.put, Ax.callWith, lend, apart, M.own, tst, truth, ofO, kBin, kCmp, kIsN, kNeg, kTup, kLst, kIx, kSl, kBi, kIsi, kSeq, kInt, kR1, kR2, kZip, kEnm, view, viewS, M.contS, M.cont, binD, biD, ixD, slD, itemsD, asBool, isiD, back, give, giveAll, setAll, giveBack, frz, frzAll, views, List.range, List.range.loop, Ax.fin, bindT, bindTs, keep1, lockS, unlockS, wipeS, unwipe, ownerOf, webD, e1]),
    ss_next (s1 := ⟨[.m (.fro (webD m ts)), .un], u⟩) (by simp [evSs, line, M.isL, kFrz, evS, evE, evAnd, evAnd1, evOr, evOr1, evXs, evXo, evRg, evIfs, evI, bind_ok, bind_ite, rk_ite, rk_ite2, rk_and, rk_or, fin_ite, bindA, S.at, S.set, S.put, Ax.callWith, lend, apart, M.own, tst, truth, ofO, kBin, kCmp, kIsN, kNeg, kTup, kLst, kIx, kSl, kBi, kIsi, kSeq, kInt, kR1, kR2, kZip, kEnm, view, viewS, M.contS, M.cont, binD, biD, ixD, slD, itemsD, asBool, isiD, back, give, giveAll, setAll, giveBack, frz, frzAll, views, List.range, List.range.loop, Ax.fin, bindT, bindTs, keep1, lockS, unlockS, wipeS, unwipe, ownerOf, webD, nthD, e2, l]),
    ss_next (s1 := ⟨[.m (.fro (webD m ts)), .m (.fro .none)], u⟩) (by simp [evSs, line, M.isL, kFrz, evS, evE, evAnd, evAnd1, evOr, evOr1, evXs, evXo, evRg, evIfs, evI, bind_ok, bind_ite, rk_ite, rk_ite2, rk_and, rk_or, fin_ite, bindA, S.at, S.set, S.put, Ax.callWith, lend, apart, M.own, tst, truth, ofO, kBin, kCmp, kIsN, kNeg, kTup, kLst, kIx, kSl, kBi, kIsi, kSeq, kInt, kR1, kR2, kZip, kEnm, view, viewS, M.contS, M.cont, binD, biD, ixD, slD, itemsD, asBool, isiD, back, give, giveAll, setAll, giveBack, frz, frzAll, views, List.range, List.range.loop, Ax.fin, bindT, bindTs, keep1, lockS, unlockS, wipeS, unwipe, ownerOf, webD, nthD, e3])]
  simp [evSs, line, M.isL, kFrz, evS, evE, evAnd, evAnd1, evOr, evOr1, evXs, evXo, evRg, evIfs, evI, bind_ok, bind_ite, rk_ite, rk_ite2, rk_and, rk_or, fin_ite, bindA, S.at, S.set, S.put, Ax.callWith, lend, apart, M.own, tst, truth, ofO, kBin, kCmp, kIsN, kNeg, kTup, kLst, kIx, kSl, kBi, kIsi, kSeq, kInt, kR1, kR2, kZip, kEnm, view, viewS, M.contS, M.cont, binD, biD, ixD, slD, itemsD, asBool, isiD, back, give, giveAll, setAll, giveBack, frz, frzAll, views, List.range, List.range.loop, Ax.fin, bindT, bindTs, keep1, lockS, unlockS, wipeS, unwipe, ownerOf]
--# 
theorem check_web {n : Nat} {m : Int} {ts : List (Int × Int)} (W : Web m ts) (u : List M) : callF prog (n + 8) 13 [.m (.fro (webD m ts))] u = .ok (.fro .none) u := by
  have e1 := fault_of (n := n) W []
  rw [callF_at (fn := ⟨2 - 1, N13.length, b13⟩) rfl rfl]
  show fin (evSs (callF prog (n + 7)) b13 ⟨[.m (.fro (webD m ts)), .un], u⟩) = _
  rw [b13, ss_next (s1 := ⟨[.m (.fro (webD m ts)), .m (.fro .none)], u⟩) (by simp [evSs, line, M.isL, kFrz, evS, evE, evAnd, evAnd1, evOr, evOr1, evXs, evXo, evRg, evIfs, evI, bind_ok, bind_ite, rk_ite, rk_ite2, rk_and, rk_or, fin_ite, bindA, S.at, S.set, S.put, Ax.callWith, lend, apart, M.own, tst, truth, ofO, kBin, kCmp, kIsN, kNeg, kTup, kLst, kIx, kSl, kBi, kIsi, kSeq, kInt, kR1, kR2, kZip, kEnm, view, viewS, M.contS, M.cont, binD, biD, ixD, slD, itemsD, asBool, isiD, back, give, giveAll, setAll, giveBack, frz, frzAll, views, List.range, List.range.loop, Ax.fin, bindT, bindTs, keep1, lockS, unlockS, wipeS, unwipe, ownerOf, e1]), ss_next (s1 := ⟨[.m (.fro (webD m ts)), .m (.fro .none)], u⟩) (by simp [evSs, line, M.isL, kFrz, evS, evE, evAnd, evAnd1, evOr, evOr1, evXs, evXo, evRg, evIfs, evI, bind_ok, bind_ite, rk_ite, rk_ite2, rk_and, rk_or, fin_ite, bindA, S.at, S.set, S.put, Ax.callWith, lend, apart, M.own, tst, truth, ofO, kBin, kCmp, kIsN, kNeg, kTup, kLst, kIx, kSl, kBi, kIsi, kSeq, kInt, kR1, kR2, kZip, kEnm, view, viewS, M.contS, M.cont, binD, biD, ixD, slD, itemsD, asBool, isiD, back, give, giveAll, setAll, giveBack, frz, frzAll, views, List.range, List.range.loop, Ax.fin, bindT, bindTs, keep1, lockS, unlockS, wipeS, unwipe, ownerOf])]
  rfl
end K82
namespace K82
open PySem Ax
--# _law_sip
theorem sip {n : Nat} {N k : Int} {v : M} (h : Fo N v) (hN : N ≤ 1000000000) (hk : 0 < k) (hk2 : k < 1000000) : ∃ v' r, callF prog (n + 1) 4 [.lent 0, .m (.fro (.int k))] [v] = .ok (.fro (.int r)) [v'] ∧ Fo (N + 1) v' ∧ 0 ≤ r ∧ r < k := by
  obtain ⟨a, b, c, rfl, h2, h3, h4, h5, h6⟩ := h
  have hk3 : k < 1073741824 := by omega
  by_cases ha : 0 < a
  · refine ⟨.lst [.int (a / k), .int b, .int c], a % k, ?_, ⟨_, _, _, rfl, Int.ediv_nonneg h2 (by omega), h3, h4, h5, by omega⟩, Int.emod_nonneg _ (by omega), Int.emod_lt_of_pos _ hk⟩
    rw [callF_at (fn := ⟨2, N4.length, b4⟩) rfl rfl]
    show fin (evSs (callF prog n) b4 ⟨[.ref 0, .m (.fro (.int k)), .un, .un, .un], [.lst [.int a, .int b, .int c]]⟩) = _
    rw [b4, ite_p true rfl (by simp [pev, pXs, pAnd, pAnd1, pOr, pOr1, pXo, pRg, pIfs, pI, got, goti, kDIn, kDGet, kDSrt, dctS, M.isD, keyD, leafK, leafsK, pfrz, pfrzs, pTup, pLst, pargs, pcall, resM, ptst, pfit_ok, pone, pown, pguard, pint, S.at, M.own, truth, asBool, kBin, kCmp, kIsN, kNeg, kIx, kSl, kBi, kIsi, kSrt, kSeq, qRgI_ok, qRng_ok, kZip, kEnm_map, ofO, view, viewS, M.contS, M.cont, add_ok, add_tup, add_lst, sub_ok, ixD, slD, itemsD, isiD, views, List.range, List.range.loop, bindT, bindTs, wipeS, S.set, List.foldl, ↓obind_m, ↓pOver_m, Option.map_some, Option.map_none, ↓pMap_map, pMap_some, ↓pMap_nil, ↓pMap_cons, some_ite, obool_and, obool_or, fm_one, fm_ite, fm_iteD, fm_bool, boolsD_of, cmpD, dok, dokAll, dokAll_ints, dokAll_ties, dokAll_rows, line, hasD_nil, hasD_cons, hasD_int, hasD_tie, eqv_int, Bool.and_true, Bool.true_and, Bool.or_false, -List.map_take, -List.map_drop, -List.map_tail, -List.map_dropLast, nthD_0, nthD_1, nthD_2, nthD, ha]), if_pos rfl, asg_p (.fro (.int (a % k))) rfl (by simp [pev, pXs, pAnd, pAnd1, pOr, pOr1, pXo, pRg, pIfs, pI, got, goti, kDIn, kDGet, kDSrt, dctS, M.isD, keyD, leafK, leafsK, pfrz, pfrzs, pTup, pLst, pargs, pcall, resM, ptst, pfit_ok, pone, pown, pguard, pint, S.at, M.own, truth, asBool, kBin, kCmp, kIsN, kNeg, kIx, kSl, kBi, kIsi, kSrt, kSeq, qRgI_ok, qRng_ok, kZip, kEnm_map, ofO, view, viewS, M.contS, M.cont, add_ok, add_tup, add_lst, sub_ok, ixD, slD, itemsD, isiD, views, List.range, List.range.loop, bindT, bindTs, wipeS, S.set, List.foldl, ↓obind_m, ↓pOver_m, Option.map_some, Option.map_none, ↓pMap_map, pMap_some, ↓pMap_nil, ↓pMap_cons, some_ite, obool_and, obool_or, fm_one, fm_ite, fm_iteD, fm_bool, boolsD_of, cmpD, dok, dokAll, dokAll_ints, dokAll_ties, dokAll_rows, line, hasD_nil, hasD_cons, hasD_int, hasD_tie, eqv_int, Bool.and_true, Bool.true_and, Bool.or_false, -List.map_take, -List.map_drop, -List.map_tail, -List.map_dropLast, nthD_0, nthD_1, nthD_2, biD, nthD, mod_ok hk]),
      asgIx_p (ds := [.int a, .int b, .int c]) (.int (a / k)) 0 rfl rfl (by simp [pev, pXs, pAnd, pAnd1, pOr, pOr1, pXo, pRg, pIfs, pI, got, goti, kDIn, kDGet, kDSrt, dctS, M.isD, keyD, leafK, leafsK, pfrz, pfrzs, pTup, pLst, pargs, pcall, resM, ptst, pfit_ok, pone, pown, pguard, pint, S.at, M.own, truth, asBool, kBin, kCmp, kIsN, kNeg, kIx, kSl, kBi, kIsi, kSrt, kSeq, qRgI_ok, qRng_ok, kZip, kEnm_map, ofO, view, viewS, M.contS, M.cont, add_ok, add_tup, add_lst, sub_ok, ixD, slD, itemsD, isiD, views, List.range, List.range.loop, bindT, bindTs, wipeS, S.set, List.foldl, ↓obind_m, ↓pOver_m, Option.map_some, Option.map_none, ↓pMap_map, pMap_some, ↓pMap_nil, ↓pMap_cons, some_ite, obool_and, obool_or, fm_one, fm_ite, fm_iteD, fm_bool, boolsD_of, cmpD, dok, dokAll, dokAll_ints, dokAll_ties, dokAll_rows, line, hasD_nil, hasD_cons, hasD_int, hasD_tie, eqv_int, Bool.and_true, Bool.true_and, Bool.or_false, -List.map_take, -List.map_drop, -List.map_tail, -List.map_dropLast, nthD_0, nthD_1, nthD_2, nthD, div_ok hk hk3]) rfl rfl (by simp), ret_p (.fro (.int (a % k))) rfl (by simp [pev, pXs, pAnd, pAnd1, pOr, pOr1, pXo, pRg, pIfs, pI, got, goti, kDIn, kDGet, kDSrt, dctS, M.isD, keyD, leafK, leafsK, pfrz, pfrzs, pTup, pLst, pargs, pcall, resM, ptst, pfit_ok, pone, pown, pguard, pint, S.at, M.own, truth, asBool, kBin, kCmp, kIsN, kNeg, kIx, kSl, kBi, kIsi, kSrt, kSeq, qRgI_ok, qRng_ok, kZip, kEnm_map, ofO, view, viewS, M.contS, M.cont, add_ok, add_tup, add_lst, sub_ok, ixD, slD, itemsD, isiD, views, List.range, List.range.loop, bindT, bindTs, wipeS, S.set, List.foldl, ↓obind_m, ↓pOver_m, Option.map_some, Option.map_none, ↓pMap_map, pMap_some, ↓pMap_nil, ↓pMap_cons, some_ite, obool_and, obool_or, fm_one, fm_ite, fm_iteD, fm_bool, boolsD_of, cmpD, dok, dokAll, dokAll_ints, dokAll_ties, dokAll_rows, line, hasD_nil, hasD_cons, hasD_int, hasD_tie, eqv_int, Bool.and_true, Bool.true_and, Bool.or_false, -List.map_take, -List.map_drop, -List.map_tail, -List.map_dropLast, nthD_0, nthD_1, nthD_2, S.put])]
    rfl
  · have z1 : (b + 86028157 * (c + 1)).natAbs < 2 ^ 200 := by omega
    have z2 : (86028157 : Int).natAbs < 2 ^ 64 := by decide
    have z3 : (122949829 : Int).natAbs < 2 ^ 64 := by decide
    have z4 : (67867979 : Int).natAbs < 2 ^ 64 := by decide
    have p26 : (10 : Int) ^ 26 + 67 = 100000000000000000000000067 := by decide
    have p25 : (10 : Int) ^ 25 + 13 = 10000000000000000000000013 := by decide
    have z5 : ∀ x : Int, (x % 100000000000000000000000067).natAbs < 2 ^ 200 := fun x => by omega
    have q3 : binD .Pow (.int (b + 86028157 * (c + 1))) (.int 3) = some (.fro (.int ((b + 86028157 * (c + 1)) ^ 3))) := pow_ok (k := 3) z1 (by omega)
    have q2 : ∀ x : Int, binD .Pow (.int (x % 100000000000000000000000067)) (.int 2) = some (.fro (.int ((x % 100000000000000000000000067) ^ 2))) := fun x => pow_ok (k := 2) (z5 x) (by omega)
    have t26 : binD .Pow (.int 10) (.int 26) = some (.fro (.int 100000000000000000000000000)) := (pow_ok (a := 10) (k := 26) (by decide) (by omega)).trans (by rw [show (10 : Int) ^ 26 = 100000000000000000000000000 by decide])
    have t25 : binD .Pow (.int 10) (.int 25) = some (.fro (.int 10000000000000000000000000)) := (pow_ok (a := 10) (k := 25) (by decide) (by omega)).trans (by rw [show (10 : Int) ^ 25 = 10000000000000000000000000 by decide])
    have t7 : binD .Pow (.int 10) (.int 7) = some (.fro (.int 10000000)) := (pow_ok (a := 10) (k := 7) (by decide) (by omega)).trans (by rw [show (10 : Int) ^ 7 = 10000000 by decide])
    let x := ((b + 86028157 * (c + 1)) ^ 3 + 122949829 * (c + 1) + 5) % 100000000000000000000000067
    let y := (x ^ 2 + 67867979 * (c + 1) + b) % 10000000000000000000000013
    have qx : binD .Pow (.int x) (.int 2) = some (.fro (.int (x ^ 2))) := q2 _
    refine ⟨.lst [.int a, .int b, .int (c + 1)], y / 10000000 % k, ?_, ⟨_, _, _, rfl, h2, h3, h4, by omega, by omega⟩, Int.emod_nonneg _ (by omega), Int.emod_lt_of_pos _ hk⟩
    rw [callF_at (fn := ⟨2, N4.length, b4⟩) rfl rfl]
    show fin (evSs (callF prog n) b4 ⟨[.ref 0, .m (.fro (.int k)), .un, .un, .un], [.lst [.int a, .int b, .int c]]⟩) = _
    rw [b4, ite_p false rfl (by simp [pev, pXs, pAnd, pAnd1, pOr, pOr1, pXo, pRg, pIfs, pI, got, goti, kDIn, kDGet, kDSrt, dctS, M.isD, keyD, leafK, leafsK, pfrz, pfrzs, pTup, pLst, pargs, pcall, resM, ptst, pfit_ok, pone, pown, pguard, pint, S.at, M.own, truth, asBool, kBin, kCmp, kIsN, kNeg, kIx, kSl, kBi, kIsi, kSrt, kSeq, qRgI_ok, qRng_ok, kZip, kEnm_map, ofO, view, viewS, M.contS, M.cont, add_ok, add_tup, add_lst, sub_ok, ixD, slD, itemsD, isiD, views, List.range, List.range.loop, bindT, bindTs, wipeS, S.set, List.foldl, ↓obind_m, ↓pOver_m, Option.map_some, Option.map_none, ↓pMap_map, pMap_some, ↓pMap_nil, ↓pMap_cons, some_ite, obool_and, obool_or, fm_one, fm_ite, fm_iteD, fm_bool, boolsD_of, cmpD, dok, dokAll, dokAll_ints, dokAll_ties, dokAll_rows, line, hasD_nil, hasD_cons, hasD_int, hasD_tie, eqv_int, Bool.and_true, Bool.true_and, Bool.or_false, -List.map_take, -List.map_drop, -List.map_tail, -List.map_dropLast, nthD_0, nthD_1, nthD_2, nthD, ha]), if_neg (by simp)]
    show fin (evSs _ _ _) = _
    rw [asgIx_p (ds := [.int a, .int b, .int c]) (.int (c + 1)) 2 rfl rfl (by simp [pev, pXs, pAnd, pAnd1, pOr, pOr1, pXo, pRg, pIfs, pI, got, goti, kDIn, kDGet, kDSrt, dctS, M.isD, keyD, leafK, leafsK, pfrz, pfrzs, pTup, pLst, pargs, pcall, resM, ptst, pfit_ok, pone, pown, pguard, pint, S.at, M.own, truth, asBool, kBin, kCmp, kIsN, kNeg, kIx, kSl, kBi, kIsi, kSrt, kSeq, qRgI_ok, qRng_ok, kZip, kEnm_map, ofO, view, viewS, M.contS, M.cont, add_ok, add_tup, add_lst, sub_ok, ixD, slD, itemsD, isiD, views, List.range, List.range.loop, bindT, bindTs, wipeS, S.set, List.foldl, ↓obind_m, ↓pOver_m, Option.map_some, Option.map_none, ↓pMap_map, pMap_some, ↓pMap_nil, ↓pMap_cons, some_ite, obool_and, obool_or, fm_one, fm_ite, fm_iteD, fm_bool, boolsD_of, cmpD, dok, dokAll, dokAll_ints, dokAll_ties, dokAll_rows, line, hasD_nil, hasD_cons, hasD_int, hasD_tie, eqv_int, Bool.and_true, Bool.true_and, Bool.or_false, -List.map_take, -List.map_drop, -List.map_tail, -List.map_dropLast, nthD_0, nthD_1, nthD_2, nthD, add_ok]) rfl rfl (by simp)]
    show fin (evSs _ _ ⟨[.ref 0, .m (.fro (.int k)), .un, .un, .un], [.lst [.int a, .int b, .int (c + 1)]]⟩) = _
    rw [asg_p (.fro (.int x)) rfl (by simp [pev, pXs, pAnd, pAnd1, pOr, pOr1, pXo, pRg, pIfs, pI, got, goti, kDIn, kDGet, kDSrt, dctS, M.isD, keyD, leafK, leafsK, pfrz, pfrzs, pTup, pLst, pargs, pcall, resM, ptst, pfit_ok, pone, pown, pguard, pint, S.at, M.own, truth, asBool, kBin, kCmp, kIsN, kNeg, kIx, kSl, kBi, kIsi, kSrt, kSeq, qRgI_ok, qRng_ok, kZip, kEnm_map, ofO, view, viewS, M.contS, M.cont, add_ok, add_tup, add_lst, sub_ok, ixD, slD, itemsD, isiD, views, List.range, List.range.loop, bindT, bindTs, wipeS, S.set, List.foldl, ↓obind_m, ↓pOver_m, Option.map_some, Option.map_none, ↓pMap_map, pMap_some, ↓pMap_nil, ↓pMap_cons, some_ite, obool_and, obool_or, fm_one, fm_ite, fm_iteD, fm_bool, boolsD_of, cmpD, dok, dokAll, dokAll_ints, dokAll_ties, dokAll_rows, line, hasD_nil, hasD_cons, hasD_int, hasD_tie, eqv_int, Bool.and_true, Bool.true_and, Bool.or_false, -List.map_take, -List.map_drop, -List.map_tail, -List.map_dropLast, nthD_0, nthD_1, nthD_2, biD, nthD, add_ok, mul_ok z2, mul_ok z3, q3, t26, mod_ok, x])]
    show fin (evSs _ _ ⟨[.ref 0, .m (.fro (.int k)), .m (.fro (.int x)), .un, .un], [.lst [.int a, .int b, .int (c + 1)]]⟩) = _
    rw [asg_p (.fro (.int y)) rfl (by simp [pev, pXs, pAnd, pAnd1, pOr, pOr1, pXo, pRg, pIfs, pI, got, goti, kDIn, kDGet, kDSrt, dctS, M.isD, keyD, leafK, leafsK, pfrz, pfrzs, pTup, pLst, pargs, pcall, resM, ptst, pfit_ok, pone, pown, pguard, pint, S.at, M.own, truth, asBool, kBin, kCmp, kIsN, kNeg, kIx, kSl, kBi, kIsi, kSrt, kSeq, qRgI_ok, qRng_ok, kZip, kEnm_map, ofO, view, viewS, M.contS, M.cont, add_ok, add_tup, add_lst, sub_ok, ixD, slD, itemsD, isiD, views, List.range, List.range.loop, bindT, bindTs, wipeS, S.set, List.foldl, ↓obind_m, ↓pOver_m, Option.map_some, Option.map_none, ↓pMap_map, pMap_some, ↓pMap_nil, ↓pMap_cons, some_ite, obool_and, obool_or, fm_one, fm_ite, fm_iteD, fm_bool, boolsD_of, cmpD, dok, dokAll, dokAll_ints, dokAll_ties, dokAll_rows, line, hasD_nil, hasD_cons, hasD_int, hasD_tie, eqv_int, Bool.and_true, Bool.true_and, Bool.or_false, -List.map_take, -List.map_drop, -List.map_tail, -List.map_dropLast, nthD_0, nthD_1, nthD_2, biD, nthD, add_ok, mul_ok z4, qx, t25, mod_ok, y])]
    show fin (evSs _ _ ⟨[.ref 0, .m (.fro (.int k)), .m (.fro (.int x)), .m (.fro (.int y)), .un], [.lst [.int a, .int b, .int (c + 1)]]⟩) = _
    rw [ret_p (.fro (.int (y / 10000000 % k))) rfl (by simp [pev, pXs, pAnd, pAnd1, pOr, pOr1, pXo, pRg, pIfs, pI, got, goti, kDIn, kDGet, kDSrt, dctS, M.isD, keyD, leafK, leafsK, pfrz, pfrzs, pTup, pLst, pargs, pcall, resM, ptst, pfit_ok, pone, pown, pguard, pint, S.at, M.own, truth, asBool, kBin, kCmp, kIsN, kNeg, kIx, kSl, kBi, kIsi, kSrt, kSeq, qRgI_ok, qRng_ok, kZip, kEnm_map, ofO, view, viewS, M.contS, M.cont, add_ok, add_tup, add_lst, sub_ok, ixD, slD, itemsD, isiD, views, List.range, List.range.loop, bindT, bindTs, wipeS, S.set, List.foldl, ↓obind_m, ↓pOver_m, Option.map_some, Option.map_none, ↓pMap_map, pMap_some, ↓pMap_nil, ↓pMap_cons, some_ite, obool_and, obool_or, fm_one, fm_ite, fm_iteD, fm_bool, boolsD_of, cmpD, dok, dokAll, dokAll_ints, dokAll_ties, dokAll_rows, line, hasD_nil, hasD_cons, hasD_int, hasD_tie, eqv_int, Bool.and_true, Bool.true_and, Bool.or_false, -List.map_take, -List.map_drop, -List.map_tail, -List.map_dropLast, nthD_0, nthD_1, nthD_2, biD, t7, div_ok, mod_ok hk])]
    rfl
--# _law_choose _law_sip
theorem choose {n : Nat} {N : Int} {v : M} (h : Fo N v) (hN : N ≤ 1000000000) (ds : List D) (hd : ds ≠ []) (hl : ds.length < 1000000) : ∃ v' d, callF prog (n + 2) 8 [.lent 0, .m (.fro (.list ds))] [v] = .ok (.fro d) [v'] ∧ Fo (N + 1) v' ∧ d ∈ ds := by
  have hp := List.length_pos_iff.mpr hd
  obtain ⟨v', r, e, f, r1, r2⟩ := sip (n := n) h hN (k := (ds.length : Int)) (by omega) (by omega)
  obtain ⟨i, rfl⟩ : ∃ i : Nat, r = i := ⟨r.toNat, by omega⟩
  have hi : i < ds.length := by omega
  refine ⟨v', ds[i], ?_, f, List.getElem_mem hi⟩
  obtain ⟨a, b, c, rfl, _⟩ := h
  rw [callF_at (fn := ⟨2, N8.length, b8⟩) rfl rfl]
  show fin (evSs (callF prog (n + 1)) b8 ⟨[.ref 0, .m (.fro (.list ds))], [.lst [.int a, .int b, .int c]]⟩) = _
  simp [b8, evSs, line, M.isL, kFrz, evS, evE, evAnd, evAnd1, evOr, evOr1, evXs, evXo, evRg, evIfs, evI, bind_ok, bind_ite, rk_ite, rk_ite2, rk_and, rk_or, fin_ite, bindA, S.at, S.set, S.put, Ax.callWith, lend, apart, M.own, tst, truth, ofO, kBin, kCmp, kIsN, kNeg, kTup, kLst, kIx, kSl, kBi, kIsi, kSeq, kInt, kR1, kR2, kZip, kEnm, view, viewS, M.contS, M.cont, binD, biD, ixD, slD, itemsD, asBool, isiD, back, give, giveAll, setAll, giveBack, frz, frzAll, views, List.range, List.range.loop, Ax.fin, bindT, bindTs, keep1, lockS, unlockS, wipeS, unwipe, ownerOf, biD, e, nthD_nat, hi]
end K82
namespace K82
open PySem Ax
--# near_in
def nears (ts : List (Int × Int)) (v : Int) : List Int := sortI ((ts.filter fun p => decide (p.1 = v) || decide (p.2 = v)).map fun p => p.1 + p.2 - v)
theorem near_in {n : Nat} (ts : List (Int × Int)) (v : Int) (hl : ts.length < 1000) (u : List M) : callF prog (n + 1) 25 [.m (.fro (.tuple (ts.map tie))), .m (.fro (.int v))] u = .ok (.fro (.tuple ((nears ts v).map .int))) u := by
  have hf : ∀ p, (ts.filter p).length < 16777216 := fun p => flen p (by omega)
  rw [callF_at (fn := ⟨2, N25.length, b25⟩) rfl rfl]
  show fin (evSs (callF prog n) b25 ⟨[.m (.fro (.tuple (ts.map tie))), .m (.fro (.int v)), .un, .un], u⟩) = _
  rw [b25, ret_p (.fro (.tuple ((nears ts v).map .int))) rfl]
  · rfl
  · simp [pev, pXs, pAnd, pAnd1, pOr, pOr1, pXo, pRg, pIfs, pI, got, goti, kDIn, kDGet, kDSrt, dctS, M.isD, keyD, leafK, leafsK, pfrz, pfrzs, pTup, pLst, pargs, pcall, resM, ptst, pfit_ok, pone, pown, pguard, pint, S.at, M.own, truth, asBool, kBin, kCmp, kIsN, kNeg, kIx, kSl, kBi, kIsi, kSrt, kSeq, qRgI_ok, qRng_ok, kZip, kEnm_map, ofO, view, viewS, M.contS, M.cont, add_ok, add_tup, add_lst, sub_ok, ixD, slD, itemsD, isiD, views, List.range, List.range.loop, bindT, bindTs, wipeS, S.set, List.foldl, ↓obind_m, ↓pOver_m, Option.map_some, Option.map_none, ↓pMap_map, pMap_some, ↓pMap_nil, ↓pMap_cons, some_ite, obool_and, obool_or, fm_one, fm_ite, fm_iteD, fm_bool, boolsD_of, cmpD, dok, dokAll, dokAll_ints, dokAll_ties, dokAll_rows, line, hasD_nil, hasD_cons, hasD_int, hasD_tie, eqv_int, Bool.and_true, Bool.true_and, Bool.or_false, -List.map_take, -List.map_drop, -List.map_tail, -List.map_dropLast, nthD_0, nthD_1, nthD_2, biD, tie, hf, srtD_int, nears]
--# is_permutation
def isPerm (m : Int) (xs : List Int) : Bool := decide ((xs.length : Int) = m) && (xs.all fun x => decide (0 ≤ x) && decide (x < m)) && decide ((dedup xs).length = m)
end K82
namespace K82
open PySem Ax
--# _law_shuffled _law_sip
theorem shuffled {n : Nat} {N : Int} {v : M} (h : Fo N v) (hN : N ≤ 100000000) (ds : List D) (hl : ds.length < 500) : ∃ v' out, callF prog (n + 2) 5 [.lent 0, .m (.fro (.list ds))] [v] = .ok (.lst out) [v'] ∧ Fo (N + 500) v' ∧ out.Perm ds := by
  let J : Nat → S → Prop := fun k s => ∃ left found v2 a, s = ⟨[.ref 0, .m (.fro (.list ds)), a, .m (.lst left), .m (.lst found)], [v2]⟩ ∧ (left ++ found).Perm ds ∧ Fo (N + k) v2 ∧ left.length + k = ds.length
  have step : ∀ k x s, (rangeI 0 ds.length)[k]? = some x → J k s → ∃ s3 s', bindT (.nm 2) (.int x) s = some s3 ∧ evSs (callF prog (n + 1)) b5_0 s3 = .ok .next s' ∧ J (k + 1) s' := by
    rintro k x s hx ⟨left, found, v2, a, rfl, p1, p2, p3⟩
    have hx := rangeI_get hx
    obtain ⟨v3, r, e, f, r1, r2⟩ := sip (n := n) p2 (by omega) (k := (left.length : Int)) (by omega) (by omega)
    obtain ⟨i, rfl⟩ : ∃ i : Nat, r = i := ⟨r.toNat, by omega⟩
    have hi : i < left.length := by omega
    have hlen := p1.length_eq
    rw [List.length_append] at hlen
    refine ⟨⟨[.ref 0, .m (.fro (.list ds)), .m (.fro (.int x)), .m (.lst left), .m (.lst found)], [v2]⟩, ⟨[.ref 0, .m (.fro (.list ds)), .m (.fro (.int x)), .m (.lst (left.eraseIdx i)), .m (.lst (found ++ [left[i]]))], [v3]⟩, rfl, ?_, _, _, _, _, rfl, ?_, ?_, ?_⟩
    · obtain ⟨a1, b1, c1, rfl⟩ := p2.at
      have h1 : i ≤ 16777216 := by omega
      have h2 : found.length < 16777216 := by omega
      simp [b5_0, evSs, line, M.isL, kFrz, evS, evE, evAnd, evAnd1, evOr, evOr1, evXs, evXo, evRg, evIfs, evI, bind_ok, bind_ite, rk_ite, rk_ite2, rk_and, rk_or, fin_ite, bindA, S.at, S.set, S.put, Ax.callWith, lend, apart, M.own, tst, truth, ofO, kBin, kCmp, kIsN, kNeg, kTup, kLst, kIx, kSl, kBi, kIsi, kSeq, kInt, kR1, kR2, kZip, kEnm, view, viewS, M.contS, M.cont, binD, biD, ixD, slD, itemsD, asBool, isiD, back, give, giveAll, setAll, giveBack, frz, frzAll, views, List.range, List.range.loop, Ax.fin, bindT, bindTs, keep1, lockS, unlockS, wipeS, unwipe, ownerOf, biD, e, kApp, kPopAt, popAtD, ownS, hi, h1, h2, line]
    · refine List.Perm.trans ?_ p1
      refine List.Perm.trans (List.Perm.append_left _ List.perm_append_comm) ?_
      rw [← List.append_assoc]
      exact (erase_perm hi).append_right _
    · have := f; rw [show N + ((k + 1 : Nat) : Int) = N + k + 1 by omega]; exact f
    · rw [List.length_eraseIdx_of_lt hi]; omega
  rw [callF_at (fn := ⟨2, N5.length, b5⟩) rfl rfl]
  show ∃ v' out, fin (evSs (callF prog (n + 1)) b5 ⟨[.ref 0, .m (.fro (.list ds)), .un, .un, .un], [v]⟩) = _ ∧ _
  rw [b5, asgN2_p (.lst ds) (.lst []) rfl rfl (by simp [pev, pXs, pAnd, pAnd1, pOr, pOr1, pXo, pRg, pIfs, pI, got, goti, kDIn, kDGet, kDSrt, dctS, M.isD, keyD, leafK, leafsK, pfrz, pfrzs, pTup, pLst, pargs, pcall, resM, ptst, pfit_ok, pone, pown, pguard, pint, S.at, M.own, truth, asBool, kBin, kCmp, kIsN, kNeg, kIx, kSl, kBi, kIsi, kSrt, kSeq, qRgI_ok, qRng_ok, kZip, kEnm_map, ofO, view, viewS, M.contS, M.cont, add_ok, add_tup, add_lst, sub_ok, ixD, slD, itemsD, isiD, views, List.range, List.range.loop, bindT, bindTs, wipeS, S.set, List.foldl, ↓obind_m, ↓pOver_m, Option.map_some, Option.map_none, ↓pMap_map, pMap_some, ↓pMap_nil, ↓pMap_cons, some_ite, obool_and, obool_or, fm_one, fm_ite, fm_iteD, fm_bool, boolsD_of, cmpD, dok, dokAll, dokAll_ints, dokAll_ties, dokAll_rows, line, hasD_nil, hasD_cons, hasD_int, hasD_tie, eqv_int, Bool.and_true, Bool.true_and, Bool.or_false, -List.map_take, -List.map_drop, -List.map_tail, -List.map_dropLast, nthD_0, nthD_1, nthD_2, biD]) (by simp [pev, pXs, pAnd, pAnd1, pOr, pOr1, pXo, pRg, pIfs, pI, got, goti, kDIn, kDGet, kDSrt, dctS, M.isD, keyD, leafK, leafsK, pfrz, pfrzs, pTup, pLst, pargs, pcall, resM, ptst, pfit_ok, pone, pown, pguard, pint, S.at, M.own, truth, asBool, kBin, kCmp, kIsN, kNeg, kIx, kSl, kBi, kIsi, kSrt, kSeq, qRgI_ok, qRng_ok, kZip, kEnm_map, ofO, view, viewS, M.contS, M.cont, add_ok, add_tup, add_lst, sub_ok, ixD, slD, itemsD, isiD, views, List.range, List.range.loop, bindT, bindTs, wipeS, S.set, List.foldl, ↓obind_m, ↓pOver_m, Option.map_some, Option.map_none, ↓pMap_map, pMap_some, ↓pMap_nil, ↓pMap_cons, some_ite, obool_and, obool_or, fm_one, fm_ite, fm_iteD, fm_bool, boolsD_of, cmpD, dok, dokAll, dokAll_ints, dokAll_ties, dokAll_rows, line, hasD_nil, hasD_cons, hasD_int, hasD_tie, eqv_int, Bool.and_true, Bool.true_and, Bool.or_false, -List.map_take, -List.map_drop, -List.map_tail, -List.map_dropLast, nthD_0, nthD_1, nthD_2])]
  obtain ⟨s', ⟨left, found, v2, a, rfl, p1, p2, p3⟩, e⟩ := for_n (call := callF prog (n + 1)) (as := .cons (.ret (.var 4)) .nil) (t := .nm 2) (it := .rng (.r1 (.bi .len (.cons (.var 1) .nil)))) (b := b5_0) (v := .fro .none) PyData.int (rangeI 0 ds.length) J
    (s := ⟨[.ref 0, .m (.fro (.list ds)), .un, .m (.lst ds), .m (.lst [])], [v]⟩) rfl (by simp [pev, pXs, pAnd, pAnd1, pOr, pOr1, pXo, pRg, pIfs, pI, got, goti, kDIn, kDGet, kDSrt, dctS, M.isD, keyD, leafK, leafsK, pfrz, pfrzs, pTup, pLst, pargs, pcall, resM, ptst, pfit_ok, pone, pown, pguard, pint, S.at, M.own, truth, asBool, kBin, kCmp, kIsN, kNeg, kIx, kSl, kBi, kIsi, kSrt, kSeq, qRgI_ok, qRng_ok, kZip, kEnm_map, ofO, view, viewS, M.contS, M.cont, add_ok, add_tup, add_lst, sub_ok, ixD, slD, itemsD, isiD, views, List.range, List.range.loop, bindT, bindTs, wipeS, S.set, List.foldl, ↓obind_m, ↓pOver_m, Option.map_some, Option.map_none, ↓pMap_map, pMap_some, ↓pMap_nil, ↓pMap_cons, some_ite, obool_and, obool_or, fm_one, fm_ite, fm_iteD, fm_bool, boolsD_of, cmpD, dok, dokAll, dokAll_ints, dokAll_ties, dokAll_rows, line, hasD_nil, hasD_cons, hasD_int, hasD_tie, eqv_int, Bool.and_true, Bool.true_and, Bool.or_false, -List.map_take, -List.map_drop, -List.map_tail, -List.map_dropLast, nthD_0, nthD_1, nthD_2, biD, qRgI_ok (lo := 0) (hi := (ds.length : Int)) (by omega) (by omega) (by omega) (by omega)]) ⟨ds, [], v, .un, rfl, by simp, by simpa using h, by simp⟩ step
  rw [len_rangeI] at p2 p3
  have : left = [] := List.length_eq_zero_iff.mp (by omega)
  subst this
  refine ⟨v2, found, ?_, p2.mono (by omega), by simpa using p1⟩
  show fin (evSs _ _ ⟨[.ref 0, .m (.fro (.list ds)), .un, .m (.lst ds), .m (.lst [])], [v]⟩) = _
  rw [e]
  simp [evSs, line, M.isL, kFrz, evS, evE, evAnd, evAnd1, evOr, evOr1, evXs, evXo, evRg, evIfs, evI, bind_ok, bind_ite, rk_ite, rk_ite2, rk_and, rk_or, fin_ite, bindA, S.at, S.set, S.put, Ax.callWith, lend, apart, M.own, tst, truth, ofO, kBin, kCmp, kIsN, kNeg, kTup, kLst, kIx, kSl, kBi, kIsi, kSeq, kInt, kR1, kR2, kZip, kEnm, view, viewS, M.contS, M.cont, binD, biD, ixD, slD, itemsD, asBool, isiD, back, give, giveAll, setAll, giveBack, frz, frzAll, views, List.range, List.range.loop, Ax.fin, bindT, bindTs, keep1, lockS, unlockS, wipeS, unwipe, ownerOf]
--# 
def pairsTo (m : Int) (k : Nat) : List (Int × Int) := (rangeI 0 k).flatMap fun i => (rangeI (i + 1) m).map fun j => (i, j)
theorem rangeI_succ (k : Nat) : rangeI 0 ((k + 1 : Nat) : Int) = rangeI 0 k ++ [(k : Int)] := by
  unfold rangeI
  have h1 : (((k + 1 : Nat) : Int) - 0).toNat = k + 1 := by omega
  have h2 : ((k : Int) - 0).toNat = k := by omega
  rw [h1, h2, List.range_succ, List.map_append]
  simp
theorem pairsTo_succ (m : Int) (k : Nat) : pairsTo m (k + 1) = pairsTo m k ++ (rangeI (k + 1) m).map fun j => ((k : Int), j) := by
  rw [pairsTo, pairsTo, rangeI_succ, List.flatMap_append]
  simp
theorem pairsTo_all {m : Int} (h : 0 ≤ m) : pairsTo m m.toNat = allPairs m := by
  rw [pairsTo, allPairs, show ((m.toNat : Nat) : Int) = m by omega]
theorem pairsTo_sub {m : Int} {k : Nat} (h : (k : Int) ≤ m) : (pairsTo m k).Sublist (allPairs m) := by
  obtain ⟨j, rfl⟩ : ∃ j : Nat, m = k + j := ⟨(m - k).toNat, by omega⟩
  have : ∀ j : Nat, (pairsTo (k + j) k).Sublist (pairsTo (k + j) (k + j)) := fun j => by
    have : ∀ i : Nat, (pairsTo (k + j) k).Sublist (pairsTo (k + j) (k + i)) := fun i => by
      induction i with
      | zero => exact List.Sublist.refl _
      | succ i ih => rw [← Nat.add_assoc, pairsTo_succ]; exact ih.trans (List.sublist_append_left _ _)
    exact this j
  have := this j
  rw [← pairsTo_all (by omega)]
  rw [show (((k : Int) + (j : Int)).toNat) = k + j by omega]
  exact this
--# _law_web _law_sip
theorem law_web_turn {n : Nat} {N m o i : Int} {v : M} {ts : List (Int × Int)} {a : Sl} (h : Fo N v) (hN : N ≤ 100000000) (hi : 0 ≤ i) (hm : i < m) (hm2 : m ≤ 30) (ho : 0 < o) (ho2 : o < 1000) :
    ∃ (ys : List Int) (v' : M), evE (callF prog (n + 1)) (.lc [5] (.nm 5) (.rng (.r2 (.bin .Add (.var 4) (.int 1)) (.var 1))) (.so (.cmp .Gt (.call 4 (.cons (.var 0) (.cons (.var 2) .nil))) (.int 0))) (.tup (.cons (.var 4) (.cons (.var 5) .nil))))
      ⟨[.ref 0, .m (.fro (.int m)), .m (.fro (.int o)), .m (.lst (ts.map tie)), .m (.fro (.int i)), .un], [v]⟩ = .ok (.m (.lst ((ys.map fun j => (i, j)).map tie))) ⟨[.ref 0, .m (.fro (.int m)), .m (.fro (.int o)), .m (.lst (ts.map tie)), .m (.fro (.int i)), .un], [v']⟩ ∧ ys.Sublist (rangeI (i + 1) m) ∧ Fo (N + 30) v' := by
  obtain ⟨ds, s1, e, ys, v', rfl, h1, rfl, h2⟩ := lc_inv (call := callF prog (n + 1)) (own := [5]) (t := .nm 5) (it := .rng (.r2 (.bin .Add (.var 4) (.int 1)) (.var 1))) (ifs := .so (.cmp .Gt (.call 4 (.cons (.var 0) (.cons (.var 2) .nil))) (.int 0))) (e := .tup (.cons (.var 4) (.cons (.var 5) .nil))) (v := .fro .none) PyData.int (rangeI (i + 1) m)
    (s := ⟨[.ref 0, .m (.fro (.int m)), .m (.fro (.int o)), .m (.lst (ts.map tie)), .m (.fro (.int i)), .un], [v]⟩)
    (fun k acc s => ∃ (ys : List Int) (v2 : M), acc = (ys.map fun j => (i, j)).map tie ∧ ys.Sublist ((rangeI (i + 1) m).take k) ∧ s = ⟨[.ref 0, .m (.fro (.int m)), .m (.fro (.int o)), .m (.lst (ts.map tie)), .m (.fro (.int i)), .un], [v2]⟩ ∧ Fo (N + k) v2) rfl
    (by simp [pev, pXs, pAnd, pAnd1, pOr, pOr1, pXo, pRg, pIfs, pI, got, goti, kDIn, kDGet, kDSrt, dctS, M.isD, keyD, leafK, leafsK, pfrz, pfrzs, pTup, pLst, pargs, pcall, resM, ptst, pfit_ok, pone, pown, pguard, pint, S.at, M.own, truth, asBool, kBin, kCmp, kIsN, kNeg, kIx, kSl, kBi, kIsi, kSrt, kSeq, qRgI_ok, qRng_ok, kZip, kEnm_map, ofO, view, viewS, M.contS, M.cont, add_ok, add_tup, add_lst, sub_ok, ixD, slD, itemsD, isiD, views, List.range, List.range.loop, bindT, bindTs, wipeS, S.set, List.foldl, ↓obind_m, ↓pOver_m, Option.map_some, Option.map_none, ↓pMap_map, pMap_some, ↓pMap_nil, ↓pMap_cons, some_ite, obool_and, obool_or, fm_one, fm_ite, fm_iteD, fm_bool, boolsD_of, cmpD, dok, dokAll, dokAll_ints, dokAll_ties, dokAll_rows, line, hasD_nil, hasD_cons, hasD_int, hasD_tie, eqv_int, Bool.and_true, Bool.true_and, Bool.or_false, -List.map_take, -List.map_drop, -List.map_tail, -List.map_dropLast, nthD_0, nthD_1, nthD_2, qRgI_ok (lo := i + 1) (hi := m) (by omega) (by omega) (by omega) (by omega)]) ⟨[], v, rfl, .slnil, rfl, by simpa using h⟩
    (fun k x acc s hx => by
      rintro ⟨ys, v2, rfl, q1, rfl, q2⟩
      have hx2 := rangeI_get hx
      obtain ⟨v3, r, e, f, r1, r2⟩ := sip (n := n) q2 (by omega) ho (by omega)
      obtain ⟨a1, b1, c1, rfl⟩ := q2.at
      have hl : ys.length < 16777216 := by have := q1.length_le; rw [List.length_take] at this; omega
      have f2 : Fo (N + ((k + 1 : Nat) : Int)) v3 := f.mono (by omega)
      refine ⟨⟨[.ref 0, .m (.fro (.int m)), .m (.fro (.int o)), .m (.lst (ts.map tie)), .m (.fro (.int i)), .m (.fro (.int x))], _⟩, decide (0 < r), ⟨[.ref 0, .m (.fro (.int m)), .m (.fro (.int o)), .m (.lst (ts.map tie)), .m (.fro (.int i)), .m (.fro (.int x))], [v3]⟩, rfl, by simp [evSs, line, M.isL, kFrz, evS, evE, evAnd, evAnd1, evOr, evOr1, evXs, evXo, evRg, evIfs, evI, bind_ok, bind_ite, rk_ite, rk_ite2, rk_and, rk_or, fin_ite, bindA, S.at, S.set, S.put, Ax.callWith, lend, apart, M.own, tst, truth, ofO, kBin, kCmp, kIsN, kNeg, kTup, kLst, kIx, kSl, kBi, kIsi, kSeq, kInt, kR1, kR2, kZip, kEnm, view, viewS, M.contS, M.cont, binD, biD, ixD, slD, itemsD, asBool, isiD, back, give, giveAll, setAll, giveBack, frz, frzAll, views, List.range, List.range.loop, Ax.fin, bindT, bindTs, keep1, lockS, unlockS, wipeS, unwipe, ownerOf, cmpD, e], ?_⟩
      rw [take_next hx]
      by_cases hr : 0 < r
      · refine .inr ⟨by simpa using hr, tie (i, x), ⟨[.ref 0, .m (.fro (.int m)), .m (.fro (.int o)), .m (.lst (ts.map tie)), .m (.fro (.int i)), .m (.fro (.int x))], [v3]⟩, by simp [evSs, line, M.isL, kFrz, evS, evE, evAnd, evAnd1, evOr, evOr1, evXs, evXo, evRg, evIfs, evI, bind_ok, bind_ite, rk_ite, rk_ite2, rk_and, rk_or, fin_ite, bindA, S.at, S.set, S.put, Ax.callWith, lend, apart, M.own, tst, truth, ofO, kBin, kCmp, kIsN, kNeg, kTup, kLst, kIx, kSl, kBi, kIsi, kSeq, kInt, kR1, kR2, kZip, kEnm, view, viewS, M.contS, M.cont, binD, biD, ixD, slD, itemsD, asBool, isiD, back, give, giveAll, setAll, giveBack, frz, frzAll, views, List.range, List.range.loop, Ax.fin, bindT, bindTs, keep1, lockS, unlockS, wipeS, unwipe, ownerOf], by simpa using hl, ys ++ [x], v3, by simp, q1.append (List.Sublist.refl _), rfl, f2⟩
      · exact .inl ⟨by simpa using hr, ys, v3, rfl, q1.trans (List.sublist_append_left _ _), rfl, f2⟩)
  rw [List.take_length] at h1
  refine ⟨ys, v', ?_, h1, h2.mono (by rw [len_rangeI]; omega)⟩
  rw [e]
  rfl
theorem law_web {n : Nat} {N m o : Int} {v : M} (h : Fo N v) (hN : N ≤ 10000000) (hm : 0 ≤ m) (hm2 : m ≤ 30) (ho : 0 < o) (ho2 : o < 1000) :
    ∃ (ts : List (Int × Int)) (v' : M), callF prog (n + 2) 6 [.lent 0, .m (.fro (.int m)), .m (.fro (.int o))] [v] = .ok (.fro (webD m ts)) [v'] ∧ Web m ts ∧ Fo (N + 1000) v' := by
  let J : Nat → S → Prop := fun k s => ∃ (ts : List (Int × Int)) (v2 : M) (a : Sl), s = ⟨[.ref 0, .m (.fro (.int m)), .m (.fro (.int o)), .m (.lst (ts.map tie)), a, .un], [v2]⟩ ∧ ts.Sublist (pairsTo m k) ∧ Fo (N + 30 * k) v2
  have step : ∀ k x s, (rangeI 0 m)[k]? = some x → J k s → ∃ s3 s', bindT (.nm 4) (.int x) s = some s3 ∧ evSs (callF prog (n + 1)) b6_0 s3 = .ok .next s' ∧ J (k + 1) s' := by
    rintro k x s hx ⟨ts, v2, a, rfl, p1, p2⟩
    obtain ⟨rfl, hx2⟩ := rangeI_get hx
    rw [Int.zero_add] at hx2 ⊢
    obtain ⟨ys, v3, e, q1, q2⟩ := law_web_turn (n := n) (ts := ts) (i := (k : Int)) (a := .un) p2 (by omega) (by omega) hx2 hm2 ho ho2
    have hl := (p1.trans (pairsTo_sub (by omega))).length_le
    have hl2 := len_allPairs hm2
    have hl3 := q1.length_le
    rw [len_rangeI] at hl3
    refine ⟨⟨[.ref 0, .m (.fro (.int m)), .m (.fro (.int o)), .m (.lst (ts.map tie)), .m (.fro (.int k)), .un], [v2]⟩, ⟨[.ref 0, .m (.fro (.int m)), .m (.fro (.int o)), .m (.lst ((ts ++ ys.map fun j => ((k : Int), j)).map tie)), .m (.fro (.int k)), .un], [v3]⟩, rfl, ?_, _, v3, _, rfl, ?_, q2.mono (by omega)⟩
    · rw [b6_0, ext_e rfl e rfl (by simp only [List.length_map, line]; omega), List.map_append]
      rfl
    · rw [pairsTo_succ]
      exact p1.append (q1.map _)
  rw [callF_at (fn := ⟨3, N6.length, b6⟩) rfl rfl]
  show ∃ (ts : List (Int × Int)) (v' : M), fin (evSs (callF prog (n + 1)) b6 ⟨[.ref 0, .m (.fro (.int m)), .m (.fro (.int o)), .un, .un, .un], [v]⟩) = _ ∧ _
  rw [b6, asg_p (.lst []) rfl (by simp [pev, pXs, pAnd, pAnd1, pOr, pOr1, pXo, pRg, pIfs, pI, got, goti, kDIn, kDGet, kDSrt, dctS, M.isD, keyD, leafK, leafsK, pfrz, pfrzs, pTup, pLst, pargs, pcall, resM, ptst, pfit_ok, pone, pown, pguard, pint, S.at, M.own, truth, asBool, kBin, kCmp, kIsN, kNeg, kIx, kSl, kBi, kIsi, kSrt, kSeq, qRgI_ok, qRng_ok, kZip, kEnm_map, ofO, view, viewS, M.contS, M.cont, add_ok, add_tup, add_lst, sub_ok, ixD, slD, itemsD, isiD, views, List.range, List.range.loop, bindT, bindTs, wipeS, S.set, List.foldl, ↓obind_m, ↓pOver_m, Option.map_some, Option.map_none, ↓pMap_map, pMap_some, ↓pMap_nil, ↓pMap_cons, some_ite, obool_and, obool_or, fm_one, fm_ite, fm_iteD, fm_bool, boolsD_of, cmpD, dok, dokAll, dokAll_ints, dokAll_ties, dokAll_rows, line, hasD_nil, hasD_cons, hasD_int, hasD_tie, eqv_int, Bool.and_true, Bool.true_and, Bool.or_false, -List.map_take, -List.map_drop, -List.map_tail, -List.map_dropLast, nthD_0, nthD_1, nthD_2])]
  obtain ⟨s', ⟨ts, v2, a, rfl, p1, p2⟩, e⟩ := for_n (call := callF prog (n + 1)) (as := .cons (.ret (.tup (.cons (.var 1) (.cons (.bi .tuple (.cons (.var 3) .nil)) .nil)))) .nil) (t := .nm 4) (it := .rng (.r1 (.var 1))) (b := b6_0) (v := .fro .none) PyData.int (rangeI 0 m) J
    (s := ⟨[.ref 0, .m (.fro (.int m)), .m (.fro (.int o)), .m (.lst []), .un, .un], [v]⟩) rfl (by simp [pev, pXs, pAnd, pAnd1, pOr, pOr1, pXo, pRg, pIfs, pI, got, goti, kDIn, kDGet, kDSrt, dctS, M.isD, keyD, leafK, leafsK, pfrz, pfrzs, pTup, pLst, pargs, pcall, resM, ptst, pfit_ok, pone, pown, pguard, pint, S.at, M.own, truth, asBool, kBin, kCmp, kIsN, kNeg, kIx, kSl, kBi, kIsi, kSrt, kSeq, qRgI_ok, qRng_ok, kZip, kEnm_map, ofO, view, viewS, M.contS, M.cont, add_ok, add_tup, add_lst, sub_ok, ixD, slD, itemsD, isiD, views, List.range, List.range.loop, bindT, bindTs, wipeS, S.set, List.foldl, ↓obind_m, ↓pOver_m, Option.map_some, Option.map_none, ↓pMap_map, pMap_some, ↓pMap_nil, ↓pMap_cons, some_ite, obool_and, obool_or, fm_one, fm_ite, fm_iteD, fm_bool, boolsD_of, cmpD, dok, dokAll, dokAll_ints, dokAll_ties, dokAll_rows, line, hasD_nil, hasD_cons, hasD_int, hasD_tie, eqv_int, Bool.and_true, Bool.true_and, Bool.or_false, -List.map_take, -List.map_drop, -List.map_tail, -List.map_dropLast, nthD_0, nthD_1, nthD_2, qRgI_ok (lo := 0) (hi := m) (by omega) (by omega) (by omega) (by omega)]) ⟨[], v, .un, rfl, List.nil_sublist _, by simpa using h⟩ step
  rw [len_rangeI] at p1 p2
  rw [show (m - 0).toNat = m.toNat by omega, pairsTo_all hm] at p1
  refine ⟨ts, v2, ?_, Web.of_sub hm hm2 p1, p2.mono (by omega)⟩
  show fin (evSs _ _ ⟨[.ref 0, .m (.fro (.int m)), .m (.fro (.int o)), .m (.lst []), .un, .un], [v]⟩) = _
  rw [e, ret_p (.fro (webD m ts)) rfl (by simp [pev, pXs, pAnd, pAnd1, pOr, pOr1, pXo, pRg, pIfs, pI, got, goti, kDIn, kDGet, kDSrt, dctS, M.isD, keyD, leafK, leafsK, pfrz, pfrzs, pTup, pLst, pargs, pcall, resM, ptst, pfit_ok, pone, pown, pguard, pint, S.at, M.own, truth, asBool, kBin, kCmp, kIsN, kNeg, kIx, kSl, kBi, kIsi, kSrt, kSeq, qRgI_ok, qRng_ok, kZip, kEnm_map, ofO, view, viewS, M.contS, M.cont, add_ok, add_tup, add_lst, sub_ok, ixD, slD, itemsD, isiD, views, List.range, List.range.loop, bindT, bindTs, wipeS, S.set, List.foldl, ↓obind_m, ↓pOver_m, Option.map_some, Option.map_none, ↓pMap_map, pMap_some, ↓pMap_nil, ↓pMap_cons, some_ite, obool_and, obool_or, fm_one, fm_ite, fm_iteD, fm_bool, boolsD_of, cmpD, dok, dokAll, dokAll_ints, dokAll_ties, dokAll_rows, line, hasD_nil, hasD_cons, hasD_int, hasD_tie, eqv_int, Bool.and_true, Bool.true_and, Bool.or_false, -List.map_take, -List.map_drop, -List.map_tail, -List.map_dropLast, nthD_0, nthD_1, nthD_2, biD])]
  rfl
end K82
namespace K82
open PySem Ax
--# _law_chordal_web _law_sip
theorem chordal_turn {n : Nat} {N m at_ : Int} {v : M} {order ts ys : List _} {c d : Sl} {one : Int} (h : Fo N v) (hN : N ≤ 100000000) (hl : ys.length < 1000) :
    ∃ (b : Bool) (v' : M), evSs (callF prog (n + 1)) b7_1 ⟨[.ref 0, .m (.fro (.int m)), .m (.fro (.int at_)), .m (.fro (.list (order.map .int))), .m (.lst (ts.map tie)), c, .m (.lst (ys.map .int)), .m (.fro (.int one)), .un], [v]⟩ =
      .ok .next ⟨[.ref 0, .m (.fro (.int m)), .m (.fro (.int at_)), .m (.fro (.list (order.map .int))), .m (.lst (ts.map tie)), c, .m (.lst ((if b = true then ys ++ [one] else ys).map .int)), .m (.fro (.int one)), .un], [v']⟩ ∧ Fo (N + 1) v' ∧ (b = true → one ∉ ys ∧ ∀ y ∈ ys, mm one y ∈ ts) := by
  by_cases hin : one ∈ ys
  · refine ⟨false, v, ?_, h.mono (by omega), by simp⟩
    rw [b7_1]
    rw [ite_e (b := false) (s1 := ⟨[.ref 0, .m (.fro (.int m)), .m (.fro (.int at_)), .m (.fro (.list (order.map .int))), .m (.lst (ts.map tie)), c, .m (.lst (ys.map .int)), .m (.fro (.int one)), .un], [v]⟩) (by simp [evSs, line, M.isL, kFrz, evS, evE, evAnd, evAnd1, evOr, evOr1, evXs, evXo, evRg, evIfs, evI, bind_ok, bind_ite, rk_ite, rk_ite2, rk_and, rk_or, fin_ite, bindA, S.at, S.set, S.put, Ax.callWith, lend, apart, M.own, tst, truth, ofO, kBin, kCmp, kIsN, kNeg, kTup, kLst, kIx, kSl, kBi, kIsi, kSeq, kInt, kR1, kR2, kZip, kEnm, view, viewS, M.contS, M.cont, binD, biD, ixD, slD, itemsD, asBool, isiD, back, give, giveAll, setAll, giveBack, frz, frzAll, views, List.range, List.range.loop, Ax.fin, bindT, bindTs, keep1, lockS, unlockS, wipeS, unwipe, ownerOf, cmpD, dok, hasD_int, hin])]
    rfl
  · obtain ⟨v3, r, e, f, r1, r2⟩ := sip (n := n) h (by omega) (k := 3) (by omega) (by omega)
    obtain ⟨a1, b1, c1, rfl⟩ := h.at
    have fl : ∀ p, (ys.filter p).length < 16777216 := fun p => flen p (by omega)
    have L := lc_lock (call := callF prog (n + 1)) (own := [8]) (t := .nm 8) (ifs := .so (.cmp .NotIn (.tup (.cons (.bi .min2 (.cons (.var 7) (.cons (.var 8) .nil))) (.cons (.bi .max2 (.cons (.var 7) (.cons (.var 8) .nil))) .nil))) (.var 4))) (e := .var 8)
      (s := ⟨[.ref 0, .m (.fro (.int m)), .m (.fro (.int at_)), .m (.fro (.list (order.map .int))), .m (.lst (ts.map tie)), c, .m (.lst (ys.map .int)), .m (.fro (.int one)), .un], [v3]⟩) (i := 6) (ds := ys.map .int) ((ys.filter fun o => !decide (mm one o ∈ ts)).map .int) rfl rfl (by simp [pev, pXs, pAnd, pAnd1, pOr, pOr1, pXo, pRg, pIfs, pI, got, goti, kDIn, kDGet, kDSrt, dctS, M.isD, keyD, leafK, leafsK, pfrz, pfrzs, pTup, pLst, pargs, pcall, resM, ptst, pfit_ok, pone, pown, pguard, pint, S.at, M.own, truth, asBool, kBin, kCmp, kIsN, kNeg, kIx, kSl, kBi, kIsi, kSrt, kSeq, qRgI_ok, qRng_ok, kZip, kEnm_map, ofO, view, viewS, M.contS, M.cont, add_ok, add_tup, add_lst, sub_ok, ixD, slD, itemsD, isiD, views, List.range, List.range.loop, bindT, bindTs, wipeS, S.set, List.foldl, ↓obind_m, ↓pOver_m, Option.map_some, Option.map_none, ↓pMap_map, pMap_some, ↓pMap_nil, ↓pMap_cons, some_ite, obool_and, obool_or, fm_one, fm_ite, fm_iteD, fm_bool, boolsD_of, cmpD, dok, dokAll, dokAll_ints, dokAll_ties, dokAll_rows, line, hasD_nil, hasD_cons, hasD_int, hasD_tie, eqv_int, Bool.and_true, Bool.true_and, Bool.or_false, -List.map_take, -List.map_drop, -List.map_tail, -List.map_dropLast, nthD_0, nthD_1, nthD_2, biD, mm]; rfl) (by rw [List.length_map]; exact fl _)
    have h1 : tst (evE (callF prog (n + 1)) (.cmp .NotIn (.var 7) (.var 6)) ⟨[.ref 0, .m (.fro (.int m)), .m (.fro (.int at_)), .m (.fro (.list (order.map .int))), .m (.lst (ts.map tie)), c, .m (.lst (ys.map .int)), .m (.fro (.int one)), .un], [.lst [.int a1, .int b1, .int c1]]⟩) = .ok true ⟨[.ref 0, .m (.fro (.int m)), .m (.fro (.int at_)), .m (.fro (.list (order.map .int))), .m (.lst (ts.map tie)), c, .m (.lst (ys.map .int)), .m (.fro (.int one)), .un], [.lst [.int a1, .int b1, .int c1]]⟩ :=
      tst_p true rfl (by simp [pev, pXs, pAnd, pAnd1, pOr, pOr1, pXo, pRg, pIfs, pI, got, goti, kDIn, kDGet, kDSrt, dctS, M.isD, keyD, leafK, leafsK, pfrz, pfrzs, pTup, pLst, pargs, pcall, resM, ptst, pfit_ok, pone, pown, pguard, pint, S.at, M.own, truth, asBool, kBin, kCmp, kIsN, kNeg, kIx, kSl, kBi, kIsi, kSrt, kSeq, qRgI_ok, qRng_ok, kZip, kEnm_map, ofO, view, viewS, M.contS, M.cont, add_ok, add_tup, add_lst, sub_ok, ixD, slD, itemsD, isiD, views, List.range, List.range.loop, bindT, bindTs, wipeS, S.set, List.foldl, ↓obind_m, ↓pOver_m, Option.map_some, Option.map_none, ↓pMap_map, pMap_some, ↓pMap_nil, ↓pMap_cons, some_ite, obool_and, obool_or, fm_one, fm_ite, fm_iteD, fm_bool, boolsD_of, cmpD, dok, dokAll, dokAll_ints, dokAll_ties, dokAll_rows, line, hasD_nil, hasD_cons, hasD_int, hasD_tie, eqv_int, Bool.and_true, Bool.true_and, Bool.or_false, -List.map_take, -List.map_drop, -List.map_tail, -List.map_dropLast, nthD_0, nthD_1, nthD_2, hin])
    have h2 : tst (evE (callF prog (n + 1)) (.cmp .Gt (.call 4 (.cons (.var 0) (.cons (.int 3) .nil))) (.int 0)) ⟨[.ref 0, .m (.fro (.int m)), .m (.fro (.int at_)), .m (.fro (.list (order.map .int))), .m (.lst (ts.map tie)), c, .m (.lst (ys.map .int)), .m (.fro (.int one)), .un], [.lst [.int a1, .int b1, .int c1]]⟩) = .ok (decide (0 < r)) ⟨[.ref 0, .m (.fro (.int m)), .m (.fro (.int at_)), .m (.fro (.list (order.map .int))), .m (.lst (ts.map tie)), c, .m (.lst (ys.map .int)), .m (.fro (.int one)), .un], [v3]⟩ := by
      simp [evSs, line, M.isL, kFrz, evS, evE, evAnd, evAnd1, evOr, evOr1, evXs, evXo, evRg, evIfs, evI, bind_ok, bind_ite, rk_ite, rk_ite2, rk_and, rk_or, fin_ite, bindA, S.at, S.set, S.put, Ax.callWith, lend, apart, M.own, tst, truth, ofO, kBin, kCmp, kIsN, kNeg, kTup, kLst, kIx, kSl, kBi, kIsi, kSeq, kInt, kR1, kR2, kZip, kEnm, view, viewS, M.contS, M.cont, binD, biD, ixD, slD, itemsD, asBool, isiD, back, give, giveAll, setAll, giveBack, frz, frzAll, views, List.range, List.range.loop, Ax.fin, bindT, bindTs, keep1, lockS, unlockS, wipeS, unwipe, ownerOf, cmpD, e]
    by_cases hr : 0 < r
    · have h3 := and3 (k := decide ((ys.filter fun o => !decide (mm one o ∈ ts)) = [])) h1 (by rw [h2]; simp [hr]) (tst_eq L (by simp [cmpD, PyData.eqv, eqv_nil, dok, dokAll]))
      by_cases hc : (ys.filter fun o => !decide (mm one o ∈ ts)) = []
      · refine ⟨true, v3, ?_, f, fun _ => ⟨hin, fun y hy => ?_⟩⟩
        · rw [b7_1, ite_e h3, hc, if_pos rfl, app_p (ds := ys.map .int) (.int one) rfl rfl (by simp [pev, pXs, pAnd, pAnd1, pOr, pOr1, pXo, pRg, pIfs, pI, got, goti, kDIn, kDGet, kDSrt, dctS, M.isD, keyD, leafK, leafsK, pfrz, pfrzs, pTup, pLst, pargs, pcall, resM, ptst, pfit_ok, pone, pown, pguard, pint, S.at, M.own, truth, asBool, kBin, kCmp, kIsN, kNeg, kIx, kSl, kBi, kIsi, kSrt, kSeq, qRgI_ok, qRng_ok, kZip, kEnm_map, ofO, view, viewS, M.contS, M.cont, add_ok, add_tup, add_lst, sub_ok, ixD, slD, itemsD, isiD, views, List.range, List.range.loop, bindT, bindTs, wipeS, S.set, List.foldl, ↓obind_m, ↓pOver_m, Option.map_some, Option.map_none, ↓pMap_map, pMap_some, ↓pMap_nil, ↓pMap_cons, some_ite, obool_and, obool_or, fm_one, fm_ite, fm_iteD, fm_bool, boolsD_of, cmpD, dok, dokAll, dokAll_ints, dokAll_ties, dokAll_rows, line, hasD_nil, hasD_cons, hasD_int, hasD_tie, eqv_int, Bool.and_true, Bool.true_and, Bool.or_false, -List.map_take, -List.map_drop, -List.map_tail, -List.map_dropLast, nthD_0, nthD_1, nthD_2]) (by simp only [List.length_map, line]; omega)]
          simp only [if_true, List.map_append]
          rfl
        · have := List.filter_eq_nil_iff.mp hc y hy
          simpa using this
      · refine ⟨false, v3, ?_, f, by simp⟩
        rw [b7_1, ite_e h3, if_neg (by simpa using hc)]
        rfl
    · refine ⟨false, v3, ?_, f, by simp⟩
      rw [b7_1]
      rw [ite_e (b := false) (s1 := ⟨[.ref 0, .m (.fro (.int m)), .m (.fro (.int at_)), .m (.fro (.list (order.map .int))), .m (.lst (ts.map tie)), c, .m (.lst (ys.map .int)), .m (.fro (.int one)), .un], [v3]⟩) (by simp [evSs, line, M.isL, kFrz, evS, evE, evAnd, evAnd1, evOr, evOr1, evXs, evXo, evRg, evIfs, evI, bind_ok, bind_ite, rk_ite, rk_ite2, rk_and, rk_or, fin_ite, bindA, S.at, S.set, S.put, Ax.callWith, lend, apart, M.own, tst, truth, ofO, kBin, kCmp, kIsN, kNeg, kTup, kLst, kIx, kSl, kBi, kIsi, kSeq, kInt, kR1, kR2, kZip, kEnm, view, viewS, M.contS, M.cont, binD, biD, ixD, slD, itemsD, asBool, isiD, back, give, giveAll, setAll, giveBack, frz, frzAll, views, List.range, List.range.loop, Ax.fin, bindT, bindTs, keep1, lockS, unlockS, wipeS, unwipe, ownerOf, cmpD, dok, hasD_int, hin, e, hr])]
      rfl
--# _law_chordal_web
theorem chordal_lot {n : Nat} {N m : Int} {k : Nat} {v : M} {order ts : List _} {c d : Sl} {o0 : Int} (h : Fo N v) (hN : N ≤ 10000000) (hk : k ≤ 30) (hk2 : k ≤ order.length) (ho : order.Nodup) (hm0 : o0 ∈ order.take k) (as : Sts) :
    ∃ (v' : M) (ys : List Int) (d' : Sl), evSs (callF prog (n + 1)) (.cons (.for_ (.nm 7) (.seq (.sl (.var 3) .no (.so (.var 2)))) b7_1) as) ⟨[.ref 0, .m (.fro (.int m)), .m (.fro (.int k)), .m (.fro (.list (order.map .int))), .m (.lst (ts.map tie)), c, .m (.lst ([o0].map .int)), d, .un], [v]⟩ =
      evSs (callF prog (n + 1)) as ⟨[.ref 0, .m (.fro (.int m)), .m (.fro (.int k)), .m (.fro (.list (order.map .int))), .m (.lst (ts.map tie)), c, .m (.lst (ys.map .int)), d', .un], [v']⟩ ∧ Fo (N + 30) v' ∧
        ys.Nodup ∧ (∀ y ∈ ys, y ∈ order.take k) ∧ ∀ x ∈ ys, ∀ y ∈ ys, x ≠ y → mm x y ∈ ts := by
  let J : Nat → S → Prop := fun j s => ∃ (ys : List Int) (v2 : M) (d' : Sl), s = ⟨[.ref 0, .m (.fro (.int m)), .m (.fro (.int k)), .m (.fro (.list (order.map .int))), .m (.lst (ts.map tie)), c, .m (.lst (ys.map .int)), d', .un], [v2]⟩ ∧ Fo (N + j) v2 ∧
        ys.Nodup ∧ (∀ y ∈ ys, y ∈ order.take k) ∧ ∀ x ∈ ys, ∀ y ∈ ys, x ≠ y → mm x y ∈ ts
  have step : ∀ j x s, (order.take k)[j]? = some x → J j s → ∃ s3 s', bindT (.nm 7) (.int x) s = some s3 ∧ evSs (callF prog (n + 1)) b7_1 s3 = .ok .next s' ∧ J (j + 1) s' := by
    rintro j x s hx ⟨ys, v2, d', rfl, p1, p2, p3, p4⟩
    have hj : j < k := by have := (List.getElem?_eq_some_iff.mp hx).1; rw [List.length_take] at this; omega
    have hxm := List.mem_of_getElem? hx
    have hyl : ys.length < 1000 := by
      have := p2.length_le_of_subset (fun y hy => p3 y hy)
      rw [List.length_take] at this; omega
    obtain ⟨b, v3, e, f, hb⟩ := chordal_turn (n := n) (m := m) (at_ := k) (order := order) (ts := ts) (c := c) (d := d') (one := x) p1 (by omega) hyl
    refine ⟨_, _, rfl, e, _, v3, _, rfl, f.mono (by omega), ?_⟩
    cases b with
    | false => exact ⟨p2, p3, p4⟩
    | true =>
      obtain ⟨b1, b2⟩ := hb rfl
      simp only [if_true]
      refine ⟨?_, ?_, ?_⟩
      · rw [List.nodup_append]
        refine ⟨p2, by simp, ?_⟩
        intro a ha b hb e5
        simp at hb
        rw [e5, hb] at ha
        exact b1 ha
      · intro y hy
        rcases List.mem_append.mp hy with hy | hy
        · exact p3 y hy
        · simp at hy; subst hy; exact hxm
      · intro a ha b hb hn
        rcases List.mem_append.mp ha with ha | ha <;> rcases List.mem_append.mp hb with hb | hb
        · exact p4 a ha b hb hn
        · simp at hb; rw [hb, mm_comm]; exact b2 a ‹a ∈ ys›
        · simp at ha; rw [ha]; exact b2 b ‹b ∈ ys›
        · simp at ha hb; rw [ha, hb] at hn; exact (hn rfl).elim
  obtain ⟨s', ⟨ys, v2, d', rfl, p1, p2, p3, p4⟩, e⟩ := for_n (call := callF prog (n + 1)) (as := as) (t := .nm 7) (it := .seq (.sl (.var 3) .no (.so (.var 2)))) (b := b7_1) (v := .lst ((order.take k).map .int)) PyData.int (order.take k) J
    (s := ⟨[.ref 0, .m (.fro (.int m)), .m (.fro (.int k)), .m (.fro (.list (order.map .int))), .m (.lst (ts.map tie)), c, .m (.lst ([o0].map .int)), d, .un], [v]⟩) rfl (by simp [pev, pXs, pAnd, pAnd1, pOr, pOr1, pXo, pRg, pIfs, pI, got, goti, kDIn, kDGet, kDSrt, dctS, M.isD, keyD, leafK, leafsK, pfrz, pfrzs, pTup, pLst, pargs, pcall, resM, ptst, pfit_ok, pone, pown, pguard, pint, S.at, M.own, truth, asBool, kBin, kCmp, kIsN, kNeg, kIx, kSl, kBi, kIsi, kSrt, kSeq, qRgI_ok, qRng_ok, kZip, kEnm_map, ofO, view, viewS, M.contS, M.cont, add_ok, add_tup, add_lst, sub_ok, ixD, slD, itemsD, isiD, views, List.range, List.range.loop, bindT, bindTs, wipeS, S.set, List.foldl, ↓obind_m, ↓pOver_m, Option.map_some, Option.map_none, ↓pMap_map, pMap_some, ↓pMap_nil, ↓pMap_cons, some_ite, obool_and, obool_or, fm_one, fm_ite, fm_iteD, fm_bool, boolsD_of, cmpD, dok, dokAll, dokAll_ints, dokAll_ties, dokAll_rows, line, hasD_nil, hasD_cons, hasD_int, hasD_tie, eqv_int, Bool.and_true, Bool.true_and, Bool.or_false, -List.map_take, -List.map_drop, -List.map_tail, -List.map_dropLast, nthD_0, nthD_1, nthD_2, cut_tm]) ⟨[o0], v, d, rfl, by simpa using h, by simp, by simpa using hm0, fun x hx y hy hn => by simp at hx hy; subst hx; subst hy; exact (hn rfl).elim⟩ step
  rw [List.length_take] at p1
  exact ⟨v2, ys, d', e, p1.mono (by omega), p2, p3, p4⟩
theorem chordal_web {n : Nat} {N m : Int} {v : M} (h : Fo N v) (hN : N ≤ 1000000) (hm : 1 ≤ m) (hm2 : m ≤ 30) :
    ∃ (order : List Int) (ts : List (Int × Int)) (v' : M), callF prog (n + 3) 7 [.lent 0, .m (.fro (.int m))] [v] = .ok (.fro (webD m (sortP ts))) [v'] ∧ Fo (N + 2000) v' ∧ order.Perm (rangeI 0 m) ∧ Chord order ts := by
  obtain ⟨v1, out, e1, f1, hp⟩ := shuffled (n := n) h (by omega) ((rangeI 0 m).map .int) (by rw [List.length_map, len_rangeI]; omega)
  obtain ⟨order, rfl⟩ : ∃ order : List Int, out = order.map .int := by
    have : ∀ d ∈ out, ∃ i : Int, PyData.int i = d := fun d hd => by
      obtain ⟨i, _, e⟩ := List.mem_map.mp (hp.mem_iff.mp hd); exact ⟨i, e⟩
    clear e1 hp
    induction out with
    | nil => exact ⟨[], rfl⟩
    | cons d out ih =>
      obtain ⟨o, rfl⟩ := ih fun d hd => this d (by simp [hd])
      obtain ⟨i, rfl⟩ := this d (by simp)
      exact ⟨i :: o, rfl⟩
  have hp : order.Perm (rangeI 0 m) := by
    have := hp.map (fun d => match d with | .int i => i | _ => 0)
    simpa [List.map_map, Function.comp_def] using this
  have hnd : order.Nodup := hp.nodup_iff.mpr ((rangeI_asc 0 m).imp fun h => by omega)
  have hlen : order.length = m.toNat := by rw [hp.length_eq, len_rangeI]; omega
  let J : Nat → S → Prop := fun j s => ∃ (ts : List (Int × Int)) (v2 : M) (a c d e : Sl), s = ⟨[.ref 0, .m (.fro (.int m)), a, .m (.fro (.list (order.map .int))), .m (.lst (ts.map tie)), c, d, e, .un], [v2]⟩ ∧ Fo (N + 500 + 40 * j) v2 ∧ Chord (order.take (j + 1)) ts
  have step : ∀ j x s, (rangeI 1 m)[j]? = some x → J j s → ∃ s3 s', bindT (.nm 2) (.int x) s = some s3 ∧ evSs (callF prog (n + 2)) b7_0 s3 = .ok .next s' ∧ J (j + 1) s' := by
    rintro j x s hx ⟨ts, v2, a, c, d, d', rfl, p1, p2⟩
    obtain ⟨hx1, hx2⟩ := rangeI_get hx
    obtain ⟨k, hk⟩ : ∃ k : Nat, k = j + 1 := ⟨_, rfl⟩
    have hxk : x = (k : Int) := by omega
    subst hxk
    rw [← hk] at p2
    have hkl : k < order.length := by omega
    have hget : order[k]? = some order[k] := List.getElem?_eq_getElem hkl
    have hnot : order[k] ∉ order.take k := by
      intro hmem
      obtain ⟨i, hi, e⟩ := List.mem_iff_getElem.mp hmem
      rw [List.length_take] at hi
      rw [List.getElem_take] at e
      have := (List.getElem_inj hnd).mp e
      omega
    obtain ⟨v3, r, e, f, r1, r2⟩ := sip (n := n + 1) p1 (by omega) (k := (k : Int) + 1) (by omega) (by omega)
    obtain ⟨i, rfl⟩ : ∃ i : Nat, r = i := ⟨r.toNat, by omega⟩
    have e0 : evE (callF prog (n + 2)) (.frz (.call 4 (.cons (.var 0) (.cons (.bin .Add (.var 2) (.int 1)) .nil)))) ⟨[.ref 0, .m (.fro (.int m)), .m (.fro (.int k)), .m (.fro (.list (order.map .int))), .m (.lst (ts.map tie)), c, d, d', .un], [v2]⟩ = .ok (.m (.fro (.int i))) ⟨[.ref 0, .m (.fro (.int m)), .m (.fro (.int k)), .m (.fro (.list (order.map .int))), .m (.lst (ts.map tie)), c, d, d', .un], [v3]⟩ := by
      obtain ⟨a1, b1, c1, rfl⟩ := p1.at
      simp [evSs, line, M.isL, kFrz, evS, evE, evAnd, evAnd1, evOr, evOr1, evXs, evXo, evRg, evIfs, evI, bind_ok, bind_ite, rk_ite, rk_ite2, rk_and, rk_or, fin_ite, bindA, S.at, S.set, S.put, Ax.callWith, lend, apart, M.own, tst, truth, ofO, kBin, kCmp, kIsN, kNeg, kTup, kLst, kIx, kSl, kBi, kIsi, kSeq, kInt, kR1, kR2, kZip, kEnm, view, viewS, M.contS, M.cont, binD, biD, ixD, slD, itemsD, asBool, isiD, back, give, giveAll, setAll, giveBack, frz, frzAll, views, List.range, List.range.loop, Ax.fin, bindT, bindTs, keep1, lockS, unlockS, wipeS, unwipe, ownerOf, e]
    refine ⟨⟨[.ref 0, .m (.fro (.int m)), .m (.fro (.int k)), .m (.fro (.list (order.map .int))), .m (.lst (ts.map tie)), c, d, d', .un], [v2]⟩, ?_⟩
    rw [b7_0, asg_e e0]
    show ∃ s', _ ∧ evSs _ _ ⟨[.ref 0, .m (.fro (.int m)), .m (.fro (.int k)), .m (.fro (.list (order.map .int))), .m (.lst (ts.map tie)), .m (.fro (.int i)), d, d', .un], [v3]⟩ = _ ∧ _
    by_cases hi : i < k
    · have hi2 : i < order.length := by omega
      have higet : order[i]? = some order[i] := List.getElem?_eq_getElem hi2
      have him : order[i] ∈ order.take k := List.mem_take_iff_getElem.mpr ⟨i, by omega, rfl⟩
      obtain ⟨v4, ys, d5, e4, f4, q1, q2, q3⟩ := chordal_lot (n := n + 1) (m := m) (k := k) (order := order) (ts := ts) (c := .m (.fro (.int i))) (d := d') (o0 := order[i]) f (by omega) (by omega) (by omega) hnd him (.cons (.expr (.ext 4 (.lc [7] (.nm 7) (.seq (.var 6)) .no (.tup (.cons (.bi .min2 (.cons (.var 7) (.cons (.ix (.var 3) (.var 2)) .nil))) (.cons (.bi .max2 (.cons (.var 7) (.cons (.ix (.var 3) (.var 2)) .nil))) .nil)))))) .nil)
      have hyl := q1.length_le_of_subset (fun y hy => q2 y hy)
      rw [List.length_take] at hyl
      have htl : ts.length ≤ 900 := by
        refine Nat.le_trans (p2.nodup.length_le_of_subset fun p hpp => mem_allPairs.mpr (p2.tie (fun x hx => ?_) p hpp)) (len_allPairs hm2)
        have := mem_rangeI.mp (hp.mem_iff.mp (List.mem_of_mem_take hx)); exact this
      have L := lc_lock (call := callF prog (n + 2)) (own := [7]) (t := .nm 7) (ifs := .no) (e := .tup (.cons (.bi .min2 (.cons (.var 7) (.cons (.ix (.var 3) (.var 2)) .nil))) (.cons (.bi .max2 (.cons (.var 7) (.cons (.ix (.var 3) (.var 2)) .nil))) .nil)))
        (s := ⟨[.ref 0, .m (.fro (.int m)), .m (.fro (.int k)), .m (.fro (.list (order.map .int))), .m (.lst (ts.map tie)), .m (.fro (.int i)), .m (.lst (ys.map .int)), d5, .un], [v4]⟩) (i := 6) (ds := ys.map .int) ((ys.map fun y => mm y order[k]).map tie) rfl rfl (by simp [pev, pXs, pAnd, pAnd1, pOr, pOr1, pXo, pRg, pIfs, pI, got, goti, kDIn, kDGet, kDSrt, dctS, M.isD, keyD, leafK, leafsK, pfrz, pfrzs, pTup, pLst, pargs, pcall, resM, ptst, pfit_ok, pone, pown, pguard, pint, S.at, M.own, truth, asBool, kBin, kCmp, kIsN, kNeg, kIx, kSl, kBi, kIsi, kSrt, kSeq, qRgI_ok, qRng_ok, kZip, kEnm_map, ofO, view, viewS, M.contS, M.cont, add_ok, add_tup, add_lst, sub_ok, ixD, slD, itemsD, isiD, views, List.range, List.range.loop, bindT, bindTs, wipeS, S.set, List.foldl, ↓obind_m, ↓pOver_m, Option.map_some, Option.map_none, ↓pMap_map, pMap_some, ↓pMap_nil, ↓pMap_cons, some_ite, obool_and, obool_or, fm_one, fm_ite, fm_iteD, fm_bool, boolsD_of, cmpD, dok, dokAll, dokAll_ints, dokAll_ties, dokAll_rows, line, hasD_nil, hasD_cons, hasD_int, hasD_tie, eqv_int, Bool.and_true, Bool.true_and, Bool.or_false, -List.map_take, -List.map_drop, -List.map_tail, -List.map_dropLast, nthD_0, nthD_1, nthD_2, biD, mm, nthD_map, nthD_nat, hget, Function.comp_def]) (by rw [List.length_map, List.length_map]; simp only [line]; omega)
      refine ⟨⟨[.ref 0, .m (.fro (.int m)), .m (.fro (.int k)), .m (.fro (.list (order.map .int))), .m (.lst ((ts ++ ys.map fun y => mm y order[k]).map tie)), .m (.fro (.int i)), .m (.lst (ys.map .int)), d5, .un], [v4]⟩, rfl, ?_, _, v4, _, _, _, _, rfl, f4.mono (by omega), ?_⟩
      · rw [ite_p true rfl (by simp [pev, pXs, pAnd, pAnd1, pOr, pOr1, pXo, pRg, pIfs, pI, got, goti, kDIn, kDGet, kDSrt, dctS, M.isD, keyD, leafK, leafsK, pfrz, pfrzs, pTup, pLst, pargs, pcall, resM, ptst, pfit_ok, pone, pown, pguard, pint, S.at, M.own, truth, asBool, kBin, kCmp, kIsN, kNeg, kIx, kSl, kBi, kIsi, kSrt, kSeq, qRgI_ok, qRng_ok, kZip, kEnm_map, ofO, view, viewS, M.contS, M.cont, add_ok, add_tup, add_lst, sub_ok, ixD, slD, itemsD, isiD, views, List.range, List.range.loop, bindT, bindTs, wipeS, S.set, List.foldl, ↓obind_m, ↓pOver_m, Option.map_some, Option.map_none, ↓pMap_map, pMap_some, ↓pMap_nil, ↓pMap_cons, some_ite, obool_and, obool_or, fm_one, fm_ite, fm_iteD, fm_bool, boolsD_of, cmpD, dok, dokAll, dokAll_ints, dokAll_ties, dokAll_rows, line, hasD_nil, hasD_cons, hasD_int, hasD_tie, eqv_int, Bool.and_true, Bool.true_and, Bool.or_false, -List.map_take, -List.map_drop, -List.map_tail, -List.map_dropLast, nthD_0, nthD_1, nthD_2, hi]), if_pos rfl, asg_p (.lst ([order[i]].map .int)) rfl (by simp [pev, pXs, pAnd, pAnd1, pOr, pOr1, pXo, pRg, pIfs, pI, got, goti, kDIn, kDGet, kDSrt, dctS, M.isD, keyD, leafK, leafsK, pfrz, pfrzs, pTup, pLst, pargs, pcall, resM, ptst, pfit_ok, pone, pown, pguard, pint, S.at, M.own, truth, asBool, kBin, kCmp, kIsN, kNeg, kIx, kSl, kBi, kIsi, kSrt, kSeq, qRgI_ok, qRng_ok, kZip, kEnm_map, ofO, view, viewS, M.contS, M.cont, add_ok, add_tup, add_lst, sub_ok, ixD, slD, itemsD, isiD, views, List.range, List.range.loop, bindT, bindTs, wipeS, S.set, List.foldl, ↓obind_m, ↓pOver_m, Option.map_some, Option.map_none, ↓pMap_map, pMap_some, ↓pMap_nil, ↓pMap_cons, some_ite, obool_and, obool_or, fm_one, fm_ite, fm_iteD, fm_bool, boolsD_of, cmpD, dok, dokAll, dokAll_ints, dokAll_ties, dokAll_rows, line, hasD_nil, hasD_cons, hasD_int, hasD_tie, eqv_int, Bool.and_true, Bool.true_and, Bool.or_false, -List.map_take, -List.map_drop, -List.map_tail, -List.map_dropLast, nthD_0, nthD_1, nthD_2, nthD_map, nthD_nat, higet])]
        show thn (evSs _ _ ⟨[.ref 0, .m (.fro (.int m)), .m (.fro (.int k)), .m (.fro (.list (order.map .int))), .m (.lst (ts.map tie)), .m (.fro (.int i)), .m (.lst ([order[i]].map .int)), d', .un], [v3]⟩) _ = _
        rw [e4, ext_e rfl L rfl (by simp only [List.length_map, line]; omega), List.map_append]
        rfl
      · rw [← hk, take_next hget]
        exact Chord.add p2 hnot q1 q2 q3
    · refine ⟨⟨[.ref 0, .m (.fro (.int m)), .m (.fro (.int k)), .m (.fro (.list (order.map .int))), .m (.lst (ts.map tie)), .m (.fro (.int i)), d, d', .un], [v3]⟩, rfl, ?_, ts, v3, _, _, _, _, rfl, f.mono (by omega), ?_⟩
      · rw [ite_p false rfl (by simp [pev, pXs, pAnd, pAnd1, pOr, pOr1, pXo, pRg, pIfs, pI, got, goti, kDIn, kDGet, kDSrt, dctS, M.isD, keyD, leafK, leafsK, pfrz, pfrzs, pTup, pLst, pargs, pcall, resM, ptst, pfit_ok, pone, pown, pguard, pint, S.at, M.own, truth, asBool, kBin, kCmp, kIsN, kNeg, kIx, kSl, kBi, kIsi, kSrt, kSeq, qRgI_ok, qRng_ok, kZip, kEnm_map, ofO, view, viewS, M.contS, M.cont, add_ok, add_tup, add_lst, sub_ok, ixD, slD, itemsD, isiD, views, List.range, List.range.loop, bindT, bindTs, wipeS, S.set, List.foldl, ↓obind_m, ↓pOver_m, Option.map_some, Option.map_none, ↓pMap_map, pMap_some, ↓pMap_nil, ↓pMap_cons, some_ite, obool_and, obool_or, fm_one, fm_ite, fm_iteD, fm_bool, boolsD_of, cmpD, dok, dokAll, dokAll_ints, dokAll_ties, dokAll_rows, line, hasD_nil, hasD_cons, hasD_int, hasD_tie, eqv_int, Bool.and_true, Bool.true_and, Bool.or_false, -List.map_take, -List.map_drop, -List.map_tail, -List.map_dropLast, nthD_0, nthD_1, nthD_2]; omega), if_neg (by simp)]
        rfl
      · have := Chord.add (ys := []) p2 hnot List.nodup_nil (by simp) (by simp)
        rw [← hk, take_next hget]
        simpa using this
  have h0 : 0 < order.length := by omega
  rw [callF_at (fn := ⟨2, N7.length, b7⟩) rfl rfl]
  show ∃ (order : List Int) (ts : List (Int × Int)) (v' : M), fin (evSs (callF prog (n + 2)) b7 ⟨[.ref 0, .m (.fro (.int m)), .un, .un, .un, .un, .un, .un, .un], [v]⟩) = _ ∧ _
  have e2 : evXs (callF prog (n + 2)) (.cons (.frz (.call 5 (.cons (.var 0) (.cons (.rng false (.r1 (.var 1))) .nil)))) (.cons (.lst .nil) .nil)) ⟨[.ref 0, .m (.fro (.int m)), .un, .un, .un, .un, .un, .un, .un], [v]⟩ = .ok [.m (.fro (.list (order.map .int))), .m (.lst [])] ⟨[.ref 0, .m (.fro (.int m)), .un, .un, .un, .un, .un, .un, .un], [v1]⟩ := by
    obtain ⟨a1, b1, c1, rfl⟩ := h.at
    simp [evSs, line, M.isL, kFrz, evS, evE, evAnd, evAnd1, evOr, evOr1, evXs, evXo, evRg, evIfs, evI, bind_ok, bind_ite, rk_ite, rk_ite2, rk_and, rk_or, fin_ite, bindA, S.at, S.set, S.put, Ax.callWith, lend, apart, M.own, tst, truth, ofO, kBin, kCmp, kIsN, kNeg, kTup, kLst, kIx, kSl, kBi, kIsi, kSeq, kInt, kR1, kR2, kZip, kEnm, view, viewS, M.contS, M.cont, binD, biD, ixD, slD, itemsD, asBool, isiD, back, give, giveAll, setAll, giveBack, frz, frzAll, views, List.range, List.range.loop, Ax.fin, bindT, bindTs, keep1, lockS, unlockS, wipeS, unwipe, ownerOf, qRng_ok (lo := 0) (hi := m) (by omega) (by omega) (by omega) (by omega), e1]
  obtain ⟨s', ⟨ts, v2, a, c, d, d', rfl, p1, p2⟩, e⟩ := for_n (call := callF prog (n + 2)) (as := .cons (.ret (.tup (.cons (.var 1) (.cons (.bi .tuple (.cons (.srt (.pr .int .int) (.var 4)) .nil)) .nil)))) .nil) (t := .nm 2) (it := .rng (.r2 (.int 1) (.var 1))) (b := b7_0) (v := .fro .none) PyData.int (rangeI 1 m) J
    (s := ⟨[.ref 0, .m (.fro (.int m)), .un, .m (.fro (.list (order.map .int))), .m (.lst []), .un, .un, .un, .un], [v1]⟩) rfl (by simp [pev, pXs, pAnd, pAnd1, pOr, pOr1, pXo, pRg, pIfs, pI, got, goti, kDIn, kDGet, kDSrt, dctS, M.isD, keyD, leafK, leafsK, pfrz, pfrzs, pTup, pLst, pargs, pcall, resM, ptst, pfit_ok, pone, pown, pguard, pint, S.at, M.own, truth, asBool, kBin, kCmp, kIsN, kNeg, kIx, kSl, kBi, kIsi, kSrt, kSeq, qRgI_ok, qRng_ok, kZip, kEnm_map, ofO, view, viewS, M.contS, M.cont, add_ok, add_tup, add_lst, sub_ok, ixD, slD, itemsD, isiD, views, List.range, List.range.loop, bindT, bindTs, wipeS, S.set, List.foldl, ↓obind_m, ↓pOver_m, Option.map_some, Option.map_none, ↓pMap_map, pMap_some, ↓pMap_nil, ↓pMap_cons, some_ite, obool_and, obool_or, fm_one, fm_ite, fm_iteD, fm_bool, boolsD_of, cmpD, dok, dokAll, dokAll_ints, dokAll_ties, dokAll_rows, line, hasD_nil, hasD_cons, hasD_int, hasD_tie, eqv_int, Bool.and_true, Bool.true_and, Bool.or_false, -List.map_take, -List.map_drop, -List.map_tail, -List.map_dropLast, nthD_0, nthD_1, nthD_2, qRgI_ok (lo := 1) (hi := m) (by omega) (by omega) (by omega) (by omega)]) ⟨[], v1, .un, .un, .un, .un, rfl, by simpa using f1, by
      have := Chord.add (c := order[0]) (ys := []) Chord.nil (by simp) List.nodup_nil (by simp) (by simp)
      have t1 := take_next (List.getElem?_eq_getElem h0)
      rw [t1]; simpa using this⟩ step
  rw [len_rangeI] at p1 p2
  rw [show (m - 1).toNat + 1 = order.length by omega, List.take_length] at p2
  have W := p2.web (m := m) (fun x hx => mem_rangeI.mp (hp.mem_iff.mp hx)) (by omega) hm2
  have wl := W.len
  rw [len_sortP] at wl
  refine ⟨order, ts, v2, ?_, p1.mono (by omega), hp, p2⟩
  rw [b7, ss_cons, evS, e2]
  show fin (evSs (callF prog (n + 2)) _ ⟨[.ref 0, .m (.fro (.int m)), .un, .m (.fro (.list (order.map .int))), .m (.lst []), .un, .un, .un, .un], [v1]⟩) = _
  rw [e, ret_p (.fro (webD m (sortP ts))) rfl (by simp [pev, pXs, pAnd, pAnd1, pOr, pOr1, pXo, pRg, pIfs, pI, got, goti, kDIn, kDGet, kDSrt, dctS, M.isD, keyD, leafK, leafsK, pfrz, pfrzs, pTup, pLst, pargs, pcall, resM, ptst, pfit_ok, pone, pown, pguard, pint, S.at, M.own, truth, asBool, kBin, kCmp, kIsN, kNeg, kIx, kSl, kBi, kIsi, kSrt, kSeq, qRgI_ok, qRng_ok, kZip, kEnm_map, ofO, view, viewS, M.contS, M.cont, add_ok, add_tup, add_lst, sub_ok, ixD, slD, itemsD, isiD, views, List.range, List.range.loop, bindT, bindTs, wipeS, S.set, List.foldl, ↓obind_m, ↓pOver_m, Option.map_some, Option.map_none, ↓pMap_map, pMap_some, ↓pMap_nil, ↓pMap_cons, some_ite, obool_and, obool_or, fm_one, fm_ite, fm_iteD, fm_bool, boolsD_of, cmpD, dok, dokAll, dokAll_ints, dokAll_ties, dokAll_rows, line, hasD_nil, hasD_cons, hasD_int, hasD_tie, eqv_int, Bool.and_true, Bool.true_and, Bool.or_false, -List.map_take, -List.map_drop, -List.map_tail, -List.map_dropLast, nthD_0, nthD_1, nthD_2, biD]; rw [srtD_tie _ (by omega)]; rfl)]
  rfl
end K82
namespace K82
open PySem Ax
--# _law_fount
theorem fount {n : Nat} (ns : List Int) (hl : ns.length ≤ 63) (at_ : Nat) (ha : at_ < 3) (u : List M) : ∃ v, callF prog (n + 1) 1 [.m (.scr ns), .m (.fro (.int at_))] u = .ok v u ∧ Fo 0 v := by
  have t27 : binD .Pow (.int 10) (.int 27) = some (.fro (.int 1000000000000000000000000000)) := (pow_ok (a := 10) (k := 27) (by decide) (by omega)).trans (by rw [show (10 : Int) ^ 27 = 1000000000000000000000000000 by decide])
  have t17 : binD .Pow (.int 10) (.int 17) = some (.fro (.int 100000000000000000)) := (pow_ok (a := 10) (k := 17) (by decide) (by omega)).trans (by rw [show (10 : Int) ^ 17 = 100000000000000000 by decide])
  have m1 : ∀ a : Int, binD .Mult (.int a) (.int 15486719) = some (.fro (.int (a * 15486719))) := fun a => mul_ok2 (by decide)
  have m2 : ∀ a : Int, binD .Mult (.int a) (.int 472882027) = some (.fro (.int (a * 472882027))) := fun a => mul_ok2 (by decide)
  have m3 : ∀ a : Int, binD .Mult (.int 904573) (.int a) = some (.fro (.int (904573 * a))) := fun a => mul_ok (by decide)
  have m4 : ∀ a : Int, binD .Mult (.int 2713) (.int a) = some (.fro (.int (2713 * a))) := fun a => mul_ok (by decide)
  have hcut : cutD (ns.map PyData.int) none (some 63) = ns.map .int := by
    have := cut_tm PyData.int ns 63
    rw [List.take_of_length_le hl] at this
    exact this
  rw [callF_at (fn := ⟨2, N1.length, b1⟩) rfl rfl]
  show ∃ v, fin (evSs (callF prog n) b1 ⟨[.m (.scr ns), .m (.fro (.int at_)), .un, .un, .un], u⟩) = _ ∧ _
  rw [b1, asg_p (.fro (.int (904573 * at_ + 2713 * ns.length + 41))) rfl (by simp [pev, pXs, pAnd, pAnd1, pOr, pOr1, pXo, pRg, pIfs, pI, got, goti, kDIn, kDGet, kDSrt, dctS, M.isD, keyD, leafK, leafsK, pfrz, pfrzs, pTup, pLst, pargs, pcall, resM, ptst, pfit_ok, pone, pown, pguard, pint, S.at, M.own, truth, asBool, kBin, kCmp, kIsN, kNeg, kIx, kSl, kBi, kIsi, kSrt, kSeq, qRgI_ok, qRng_ok, kZip, kEnm_map, ofO, view, viewS, M.contS, M.cont, add_ok, add_tup, add_lst, sub_ok, ixD, slD, itemsD, isiD, views, List.range, List.range.loop, bindT, bindTs, wipeS, S.set, List.foldl, ↓obind_m, ↓pOver_m, Option.map_some, Option.map_none, ↓pMap_map, pMap_some, ↓pMap_nil, ↓pMap_cons, some_ite, obool_and, obool_or, fm_one, fm_ite, fm_iteD, fm_bool, boolsD_of, cmpD, dok, dokAll, dokAll_ints, dokAll_ties, dokAll_rows, line, hasD_nil, hasD_cons, hasD_int, hasD_tie, eqv_int, Bool.and_true, Bool.true_and, Bool.or_false, -List.map_take, -List.map_drop, -List.map_tail, -List.map_dropLast, nthD_0, nthD_1, nthD_2, biD, m3, m4, hcut])]
  obtain ⟨s', ⟨b, a, rfl, h1, h2⟩, e⟩ := for_n (call := callF prog n) (t := .nm 3) (it := .seq (.sl (.var 0) .no (.so (.int 63)))) (b := b1_0) (v := .lst (ns.map .int)) PyData.int ns (fun _ s => ∃ (b : Int) (a : Sl), s = ⟨[.m (.scr ns), .m (.fro (.int at_)), .m (.fro (.int b)), a, .un], u⟩ ∧ 0 ≤ b ∧ b < 10 ^ 27 + 103)
    (as := .cons (.asg (.nm 4) (.frz (.ite (.cmp .Lt (.var 1) (.bi .len (.cons (.var 0) .nil))) (.bi .abs (.cons (.bi .int (.cons (.ix (.var 0) (.var 1)) .nil)) .nil)) (.int 0)))) (.cons (.ret (.lst (.cons (.bi .max2 (.cons (.int 0) (.cons (.bin .Sub (.var 4) (.bin .Pow (.int 10) (.int 17))) .nil))) (.cons (.var 2) (.cons (.int 0) .nil))))) .nil))
    (s := ⟨[.m (.scr ns), .m (.fro (.int at_)), .m (.fro (.int (904573 * at_ + 2713 * ns.length + 41))), .un, .un], u⟩) rfl (by simp [pev, pXs, pAnd, pAnd1, pOr, pOr1, pXo, pRg, pIfs, pI, got, goti, kDIn, kDGet, kDSrt, dctS, M.isD, keyD, leafK, leafsK, pfrz, pfrzs, pTup, pLst, pargs, pcall, resM, ptst, pfit_ok, pone, pown, pguard, pint, S.at, M.own, truth, asBool, kBin, kCmp, kIsN, kNeg, kIx, kSl, kBi, kIsi, kSrt, kSeq, qRgI_ok, qRng_ok, kZip, kEnm_map, ofO, view, viewS, M.contS, M.cont, add_ok, add_tup, add_lst, sub_ok, ixD, slD, itemsD, isiD, views, List.range, List.range.loop, bindT, bindTs, wipeS, S.set, List.foldl, ↓obind_m, ↓pOver_m, Option.map_some, Option.map_none, ↓pMap_map, pMap_some, ↓pMap_nil, ↓pMap_cons, some_ite, obool_and, obool_or, fm_one, fm_ite, fm_iteD, fm_bool, boolsD_of, cmpD, dok, dokAll, dokAll_ints, dokAll_ties, dokAll_rows, line, hasD_nil, hasD_cons, hasD_int, hasD_tie, eqv_int, Bool.and_true, Bool.true_and, Bool.or_false, -List.map_take, -List.map_drop, -List.map_tail, -List.map_dropLast, nthD_0, nthD_1, nthD_2, hcut]) ⟨_, _, rfl, by omega, by omega⟩ (by
      rintro k x s hx ⟨b, a, rfl, h1, h2⟩
      refine ⟨⟨[.m (.scr ns), .m (.fro (.int at_)), .m (.fro (.int b)), .m (.fro (.int x)), .un], u⟩, ⟨[.m (.scr ns), .m (.fro (.int at_)), .m (.fro (.int ((b * 15486719 + x * 472882027 + 6151) % 1000000000000000000000000103))), .m (.fro (.int x)), .un], u⟩, rfl, ?_, _, _, rfl, Int.emod_nonneg _ (by decide), Int.emod_lt_of_pos _ (by decide)⟩
      rw [b1_0, asg_p (.fro (.int ((b * 15486719 + x * 472882027 + 6151) % 1000000000000000000000000103))) rfl (by simp [pev, pXs, pAnd, pAnd1, pOr, pOr1, pXo, pRg, pIfs, pI, got, goti, kDIn, kDGet, kDSrt, dctS, M.isD, keyD, leafK, leafsK, pfrz, pfrzs, pTup, pLst, pargs, pcall, resM, ptst, pfit_ok, pone, pown, pguard, pint, S.at, M.own, truth, asBool, kBin, kCmp, kIsN, kNeg, kIx, kSl, kBi, kIsi, kSrt, kSeq, qRgI_ok, qRng_ok, kZip, kEnm_map, ofO, view, viewS, M.contS, M.cont, add_ok, add_tup, add_lst, sub_ok, ixD, slD, itemsD, isiD, views, List.range, List.range.loop, bindT, bindTs, wipeS, S.set, List.foldl, ↓obind_m, ↓pOver_m, Option.map_some, Option.map_none, ↓pMap_map, pMap_some, ↓pMap_nil, ↓pMap_cons, some_ite, obool_and, obool_or, fm_one, fm_ite, fm_iteD, fm_bool, boolsD_of, cmpD, dok, dokAll, dokAll_ints, dokAll_ties, dokAll_rows, line, hasD_nil, hasD_cons, hasD_int, hasD_tie, eqv_int, Bool.and_true, Bool.true_and, Bool.or_false, -List.map_take, -List.map_drop, -List.map_tail, -List.map_dropLast, nthD_0, nthD_1, nthD_2, biD, m1, m2, t27, mod_ok])]
      rfl)
  show ∃ v, fin (evSs (callF prog n) _ ⟨[.m (.scr ns), .m (.fro (.int at_)), .m (.fro (.int (904573 * at_ + 2713 * ns.length + 41))), .un, .un], u⟩) = _ ∧ _
  rw [e]
  have own : ∃ o : Int, pev (callF prog n) (.frz (.ite (.cmp .Lt (.var 1) (.bi .len (.cons (.var 0) .nil))) (.bi .abs (.cons (.bi .int (.cons (.ix (.var 0) (.var 1)) .nil)) .nil)) (.int 0))) ⟨[.m (.scr ns), .m (.fro (.int at_)), .m (.fro (.int b)), a, .un], u⟩ = some (.m (.fro (.int o))) := by
    by_cases h : at_ < ns.length
    · exact ⟨_, by simp [pev, pXs, pAnd, pAnd1, pOr, pOr1, pXo, pRg, pIfs, pI, got, goti, kDIn, kDGet, kDSrt, dctS, M.isD, keyD, leafK, leafsK, pfrz, pfrzs, pTup, pLst, pargs, pcall, resM, ptst, pfit_ok, pone, pown, pguard, pint, S.at, M.own, truth, asBool, kBin, kCmp, kIsN, kNeg, kIx, kSl, kBi, kIsi, kSrt, kSeq, qRgI_ok, qRng_ok, kZip, kEnm_map, ofO, view, viewS, M.contS, M.cont, add_ok, add_tup, add_lst, sub_ok, ixD, slD, itemsD, isiD, views, List.range, List.range.loop, bindT, bindTs, wipeS, S.set, List.foldl, ↓obind_m, ↓pOver_m, Option.map_some, Option.map_none, ↓pMap_map, pMap_some, ↓pMap_nil, ↓pMap_cons, some_ite, obool_and, obool_or, fm_one, fm_ite, fm_iteD, fm_bool, boolsD_of, cmpD, dok, dokAll, dokAll_ints, dokAll_ties, dokAll_rows, line, hasD_nil, hasD_cons, hasD_int, hasD_tie, eqv_int, Bool.and_true, Bool.true_and, Bool.or_false, -List.map_take, -List.map_drop, -List.map_tail, -List.map_dropLast, nthD_0, nthD_1, nthD_2, biD, h, nthD_map, nthD_nat, List.getElem?_eq_getElem h]; rfl⟩
    · exact ⟨0, by simp [pev, pXs, pAnd, pAnd1, pOr, pOr1, pXo, pRg, pIfs, pI, got, goti, kDIn, kDGet, kDSrt, dctS, M.isD, keyD, leafK, leafsK, pfrz, pfrzs, pTup, pLst, pargs, pcall, resM, ptst, pfit_ok, pone, pown, pguard, pint, S.at, M.own, truth, asBool, kBin, kCmp, kIsN, kNeg, kIx, kSl, kBi, kIsi, kSrt, kSeq, qRgI_ok, qRng_ok, kZip, kEnm_map, ofO, view, viewS, M.contS, M.cont, add_ok, add_tup, add_lst, sub_ok, ixD, slD, itemsD, isiD, views, List.range, List.range.loop, bindT, bindTs, wipeS, S.set, List.foldl, ↓obind_m, ↓pOver_m, Option.map_some, Option.map_none, ↓pMap_map, pMap_some, ↓pMap_nil, ↓pMap_cons, some_ite, obool_and, obool_or, fm_one, fm_ite, fm_iteD, fm_bool, boolsD_of, cmpD, dok, dokAll, dokAll_ints, dokAll_ties, dokAll_rows, line, hasD_nil, hasD_cons, hasD_int, hasD_tie, eqv_int, Bool.and_true, Bool.true_and, Bool.or_false, -List.map_take, -List.map_drop, -List.map_tail, -List.map_dropLast, nthD_0, nthD_1, nthD_2, biD, h]⟩
  obtain ⟨o, ho⟩ := own
  rw [asg_p _ rfl ho]
  refine ⟨.lst [.int (if o - 100000000000000000 > 0 then o - 100000000000000000 else 0), .int b, .int 0], ?_, ⟨_, _, _, rfl, by split <;> omega, h1, h2, by omega, by omega⟩⟩
  rw [ret_p (.lst [.int (if o - 100000000000000000 > 0 then o - 100000000000000000 else 0), .int b, .int 0]) rfl (by simp [pev, pXs, pAnd, pAnd1, pOr, pOr1, pXo, pRg, pIfs, pI, got, goti, kDIn, kDGet, kDSrt, dctS, M.isD, keyD, leafK, leafsK, pfrz, pfrzs, pTup, pLst, pargs, pcall, resM, ptst, pfit_ok, pone, pown, pguard, pint, S.at, M.own, truth, asBool, kBin, kCmp, kIsN, kNeg, kIx, kSl, kBi, kIsi, kSrt, kSeq, qRgI_ok, qRng_ok, kZip, kEnm_map, ofO, view, viewS, M.contS, M.cont, add_ok, add_tup, add_lst, sub_ok, ixD, slD, itemsD, isiD, views, List.range, List.range.loop, bindT, bindTs, wipeS, S.set, List.foldl, ↓obind_m, ↓pOver_m, Option.map_some, Option.map_none, ↓pMap_map, pMap_some, ↓pMap_nil, ↓pMap_cons, some_ite, obool_and, obool_or, fm_one, fm_ite, fm_iteD, fm_bool, boolsD_of, cmpD, dok, dokAll, dokAll_ints, dokAll_ties, dokAll_rows, line, hasD_nil, hasD_cons, hasD_int, hasD_tie, eqv_int, Bool.and_true, Bool.true_and, Bool.or_false, -List.map_take, -List.map_drop, -List.map_tail, -List.map_dropLast, nthD_0, nthD_1, nthD_2, biD, t17])]
  rfl
--# law _law_fount _law_right
theorem law_go (H : ∀ (v : M) (N : Int), Fo N v → N ≤ 600000 → ∃ v', callF prog 29 2 [.lent 0] [v] = .ok (.fro (.bool true)) [v'] ∧ Fo (N + 100000) v') : ∀ ns : List Int, ns.length ≤ 63 → ∃ u, callF prog 30 0 [.m (.scr ns)] [] = .ok (.fro (.bool true)) u := by
  intro ns hl
  have one : ∀ (v : M) (N : Int) (a c : Sl), Fo N v → N ≤ 600000 → ∃ v', evSs (callF prog 29) b0_1 ⟨[.m (.scr ns), a, .m v, c], []⟩ = .ok .next ⟨[.m (.scr ns), a, .m v', c], []⟩ ∧ Fo (N + 100000) v' := fun v N a c h hN => by
    obtain ⟨v', e, f⟩ := H v N h hN
    obtain ⟨a1, b1, c1, rfl⟩ := h.at
    refine ⟨v', ?_, f⟩
    rw [b0_1]
    simp [evSs, line, M.isL, kFrz, evS, evE, evAnd, evAnd1, evOr, evOr1, evXs, evXo, evRg, evIfs, evI, bind_ok, bind_ite, rk_ite, rk_ite2, rk_and, rk_or, fin_ite, bindA, S.at, S.set, S.put, Ax.callWith, lend, apart, M.own, tst, truth, ofO, kBin, kCmp, kIsN, kNeg, kTup, kLst, kIx, kSl, kBi, kIsi, kSeq, kInt, kR1, kR2, kZip, kEnm, view, viewS, M.contS, M.cont, binD, biD, ixD, slD, itemsD, asBool, isiD, back, give, giveAll, setAll, giveBack, frz, frzAll, views, List.range, List.range.loop, Ax.fin, bindT, bindTs, keep1, lockS, unlockS, wipeS, unwipe, ownerOf, e]
  have hT : ∃ T : Int, T ≤ 3 ∧ pI (callF prog 29) (.rng (.r1 (.bi .max2 (.cons (.int 1) (.cons (.bi .min2 (.cons (.int 3) (.cons (.bi .len (.cons (.var 0) .nil)) .nil))) .nil))))) ⟨[.m (.scr ns), .un, .un, .un], []⟩ = some (.m (.fro .none), (rangeI 0 T).map .int) := by
    by_cases h3 : (ns.length : Int) < 3
    · by_cases h1 : 1 < (ns.length : Int)
      · exact ⟨ns.length, by omega, by simp [pev, pXs, pAnd, pAnd1, pOr, pOr1, pXo, pRg, pIfs, pI, got, goti, kDIn, kDGet, kDSrt, dctS, M.isD, keyD, leafK, leafsK, pfrz, pfrzs, pTup, pLst, pargs, pcall, resM, ptst, pfit_ok, pone, pown, pguard, pint, S.at, M.own, truth, asBool, kBin, kCmp, kIsN, kNeg, kIx, kSl, kBi, kIsi, kSrt, kSeq, qRgI_ok, qRng_ok, kZip, kEnm_map, ofO, view, viewS, M.contS, M.cont, add_ok, add_tup, add_lst, sub_ok, ixD, slD, itemsD, isiD, views, List.range, List.range.loop, bindT, bindTs, wipeS, S.set, List.foldl, ↓obind_m, ↓pOver_m, Option.map_some, Option.map_none, ↓pMap_map, pMap_some, ↓pMap_nil, ↓pMap_cons, some_ite, obool_and, obool_or, fm_one, fm_ite, fm_iteD, fm_bool, boolsD_of, cmpD, dok, dokAll, dokAll_ints, dokAll_ties, dokAll_rows, line, hasD_nil, hasD_cons, hasD_int, hasD_tie, eqv_int, Bool.and_true, Bool.true_and, Bool.or_false, -List.map_take, -List.map_drop, -List.map_tail, -List.map_dropLast, nthD_0, nthD_1, nthD_2, biD, h3, h1, qRgI_ok (lo := 0) (hi := (ns.length : Int)) (by omega) (by omega) (by omega) (by omega)]⟩
      · exact ⟨1, by omega, by simp [pev, pXs, pAnd, pAnd1, pOr, pOr1, pXo, pRg, pIfs, pI, got, goti, kDIn, kDGet, kDSrt, dctS, M.isD, keyD, leafK, leafsK, pfrz, pfrzs, pTup, pLst, pargs, pcall, resM, ptst, pfit_ok, pone, pown, pguard, pint, S.at, M.own, truth, asBool, kBin, kCmp, kIsN, kNeg, kIx, kSl, kBi, kIsi, kSrt, kSeq, qRgI_ok, qRng_ok, kZip, kEnm_map, ofO, view, viewS, M.contS, M.cont, add_ok, add_tup, add_lst, sub_ok, ixD, slD, itemsD, isiD, views, List.range, List.range.loop, bindT, bindTs, wipeS, S.set, List.foldl, ↓obind_m, ↓pOver_m, Option.map_some, Option.map_none, ↓pMap_map, pMap_some, ↓pMap_nil, ↓pMap_cons, some_ite, obool_and, obool_or, fm_one, fm_ite, fm_iteD, fm_bool, boolsD_of, cmpD, dok, dokAll, dokAll_ints, dokAll_ties, dokAll_rows, line, hasD_nil, hasD_cons, hasD_int, hasD_tie, eqv_int, Bool.and_true, Bool.true_and, Bool.or_false, -List.map_take, -List.map_drop, -List.map_tail, -List.map_dropLast, nthD_0, nthD_1, nthD_2, biD, h3, h1, qRgI_ok (lo := 0) (hi := 1) (by omega) (by omega) (by omega) (by omega)]⟩
    · exact ⟨3, by omega, by simp [pev, pXs, pAnd, pAnd1, pOr, pOr1, pXo, pRg, pIfs, pI, got, goti, kDIn, kDGet, kDSrt, dctS, M.isD, keyD, leafK, leafsK, pfrz, pfrzs, pTup, pLst, pargs, pcall, resM, ptst, pfit_ok, pone, pown, pguard, pint, S.at, M.own, truth, asBool, kBin, kCmp, kIsN, kNeg, kIx, kSl, kBi, kIsi, kSrt, kSeq, qRgI_ok, qRng_ok, kZip, kEnm_map, ofO, view, viewS, M.contS, M.cont, add_ok, add_tup, add_lst, sub_ok, ixD, slD, itemsD, isiD, views, List.range, List.range.loop, bindT, bindTs, wipeS, S.set, List.foldl, ↓obind_m, ↓pOver_m, Option.map_some, Option.map_none, ↓pMap_map, pMap_some, ↓pMap_nil, ↓pMap_cons, some_ite, obool_and, obool_or, fm_one, fm_ite, fm_iteD, fm_bool, boolsD_of, cmpD, dok, dokAll, dokAll_ints, dokAll_ties, dokAll_rows, line, hasD_nil, hasD_cons, hasD_int, hasD_tie, eqv_int, Bool.and_true, Bool.true_and, Bool.or_false, -List.map_take, -List.map_drop, -List.map_tail, -List.map_dropLast, nthD_0, nthD_1, nthD_2, biD, h3, qRgI_ok (lo := 0) (hi := 3) (by omega) (by omega) (by omega) (by omega)]⟩
  obtain ⟨T, hT3, hT⟩ := hT
  have step : ∀ (k : Nat) (x : Int) (s : S), (rangeI 0 T)[k]? = some x → (∃ a b c : Sl, s = (⟨[.m (.scr ns), a, b, c], []⟩ : S)) → ∃ s3 s', bindT (.nm 1) (.int x) s = some s3 ∧ evSs (callF prog 29) b0_0 s3 = .ok .next s' ∧ ∃ a b c : Sl, s' = (⟨[.m (.scr ns), a, b, c], []⟩ : S) := by
    rintro k x s hx ⟨a, b, c, rfl⟩
    obtain ⟨h1, h2⟩ := rangeI_get hx
    have hk : k < 3 := by omega
    have hx : x = (k : Int) := by omega
    subst hx
    obtain ⟨v, e, f⟩ := fount (n := 28) ns hl k hk []
    have h0 : v.own = true := by obtain ⟨a1, b1, c1, rfl⟩ := f.at; rfl
    refine ⟨⟨[.m (.scr ns), .m (.fro (.int k)), b, c], []⟩, ?_⟩
    rw [b0_0, asg_e (v := v) (s1 := ⟨[.m (.scr ns), .m (.fro (.int k)), b, c], []⟩) (by simp [evSs, line, M.isL, kFrz, evS, evE, evAnd, evAnd1, evOr, evOr1, evXs, evXo, evRg, evIfs, evI, bind_ok, bind_ite, rk_ite, rk_ite2, rk_and, rk_or, fin_ite, bindA, S.at, S.set, S.put, Ax.callWith, lend, apart, M.own, tst, truth, ofO, kBin, kCmp, kIsN, kNeg, kTup, kLst, kIx, kSl, kBi, kIsi, kSeq, kInt, kR1, kR2, kZip, kEnm, view, viewS, M.contS, M.cont, binD, biD, ixD, slD, itemsD, asBool, isiD, back, give, giveAll, setAll, giveBack, frz, frzAll, views, List.range, List.range.loop, Ax.fin, bindT, bindTs, keep1, lockS, unlockS, wipeS, unwipe, ownerOf, e])]
    obtain ⟨s', ⟨v2, c2, rfl, f2⟩, e2⟩ := for_n (call := callF prog 29) (as := .nil) (t := .nm 3) (it := .rng (.r1 (.int 2))) (b := b0_1) (v := .fro .none) PyData.int (rangeI 0 2) (fun j s => ∃ (v2 : M) (c2 : Sl), s = ⟨[.m (.scr ns), .m (.fro (.int k)), .m v2, c2], []⟩ ∧ Fo (100000 * j) v2)
      (s := ⟨[.m (.scr ns), .m (.fro (.int k)), .m v, c], []⟩) rfl (by simp [pev, pXs, pAnd, pAnd1, pOr, pOr1, pXo, pRg, pIfs, pI, got, goti, kDIn, kDGet, kDSrt, dctS, M.isD, keyD, leafK, leafsK, pfrz, pfrzs, pTup, pLst, pargs, pcall, resM, ptst, pfit_ok, pone, pown, pguard, pint, S.at, M.own, truth, asBool, kBin, kCmp, kIsN, kNeg, kIx, kSl, kBi, kIsi, kSrt, kSeq, qRgI_ok, qRng_ok, kZip, kEnm_map, ofO, view, viewS, M.contS, M.cont, add_ok, add_tup, add_lst, sub_ok, ixD, slD, itemsD, isiD, views, List.range, List.range.loop, bindT, bindTs, wipeS, S.set, List.foldl, ↓obind_m, ↓pOver_m, Option.map_some, Option.map_none, ↓pMap_map, pMap_some, ↓pMap_nil, ↓pMap_cons, some_ite, obool_and, obool_or, fm_one, fm_ite, fm_iteD, fm_bool, boolsD_of, cmpD, dok, dokAll, dokAll_ints, dokAll_ties, dokAll_rows, line, hasD_nil, hasD_cons, hasD_int, hasD_tie, eqv_int, Bool.and_true, Bool.true_and, Bool.or_false, -List.map_take, -List.map_drop, -List.map_tail, -List.map_dropLast, nthD_0, nthD_1, nthD_2]) ⟨v, c, rfl, by simpa using f⟩ (by
        rintro j x s hx ⟨v2, c2, rfl, f2⟩
        obtain ⟨_, hj⟩ := rangeI_get hx
        obtain ⟨v3, e3, f3⟩ := one v2 _ (.m (.fro (.int k))) (.m (.fro (.int x))) f2 (by omega)
        exact ⟨_, _, rfl, e3, v3, _, rfl, f3.mono (by omega)⟩)
    refine ⟨⟨[.m (.scr ns), .m (.fro (.int k)), .m v2, c2], []⟩, rfl, ?_, _, _, _, rfl⟩
    show evSs (callF prog 29) _ ⟨[.m (.scr ns), .m (.fro (.int k)), .m v, c], []⟩ = _
    rw [e2]
    rfl
  rw [callF_at (fn := ⟨1, N0.length, b0⟩) rfl rfl]
  show ∃ u, fin (evSs (callF prog 29) b0 ⟨[.m (.scr ns), .un, .un, .un], []⟩) = _
  obtain ⟨s', ⟨a, b, c, rfl⟩, e⟩ := for_n (call := callF prog 29) (as := .cons (.ret (.bl true)) .nil) (t := .nm 1) (it := .rng (.r1 (.bi .max2 (.cons (.int 1) (.cons (.bi .min2 (.cons (.int 3) (.cons (.bi .len (.cons (.var 0) .nil)) .nil))) .nil))))) (b := b0_0) (v := .fro .none) PyData.int _ (fun _ s => ∃ a b c : Sl, s = (⟨[.m (.scr ns), a, b, c], []⟩ : S)) 
    (s := ⟨[.m (.scr ns), .un, .un, .un], []⟩) rfl hT ⟨_, _, _, rfl⟩ step
  rw [b0, e]
  exact ⟨[], rfl⟩
end K82
namespace K82
open PySem Ax
--# _law_equal
theorem law_equal {n : Nat} {d : D} (h1 : dok 50 d = true) (h2 : d.showable = true) (h3 : d.shown.length ≤ line) (u : List M) : callF prog (n + 1) 11 [.m (.fro d), .m (.fro d)] u = .ok (.fro (.bool true)) u := by
  rw [callF_at (fn := ⟨2, N11.length, b11⟩) rfl rfl]
  show fin (evSs (callF prog n) b11 ⟨[.m (.fro d), .m (.fro d)], u⟩) = _
  have e : biD .repr [d] = some (.fro (.str d.shown)) := if_pos ⟨h1, h2, h3⟩
  have e1 : pev (callF prog n) (.bi .repr (.cons (.var 0) .nil)) ⟨[.m (.fro d), .m (.fro d)], u⟩ = some (.m (.fro (.str d.shown))) := by
    show got (match views (⟨[.m (.fro d), .m (.fro d)], u⟩ : S) [.m (.fro d)] with | some ds => ofO ((biD .repr ds).map Rv.m) (⟨[.m (.fro d), .m (.fro d)], u⟩ : S) | none => .bad) = _
    simp only [views, viewS, M.contS, M.cont, Option.map_some, e]; rfl
  have e2 : pev (callF prog n) (.bi .repr (.cons (.var 1) .nil)) ⟨[.m (.fro d), .m (.fro d)], u⟩ = some (.m (.fro (.str d.shown))) := by
    show got (match views (⟨[.m (.fro d), .m (.fro d)], u⟩ : S) [.m (.fro d)] with | some ds => ofO ((biD .repr ds).map Rv.m) (⟨[.m (.fro d), .m (.fro d)], u⟩ : S) | none => .bad) = _
    simp only [views, viewS, M.contS, M.cont, Option.map_some, e]; rfl
  rw [b11, ret_p (.fro (.bool true)) rfl (by
    rw [pev, e1, e2]
    simp [kCmp, viewS, M.contS, M.cont, cmpD, dok, PyData.eqv, ofO, got, asBool])]
  rfl
end K82
namespace K82
open PySem Ax
--# bare_ways near_in
def bareC (ts : List (Int × Int)) (w : List Int) (x : Int) : Bool := !decide (x ∈ w) && !(w.tail.dropLast.any fun o => decide (o ∈ nears ts x))
def bareG (ts : List (Int × Int)) (w : List Int) : List (List Int) := ((nears ts (w.getLast?.getD 0)).filter (bareC ts w)).map fun x => w ++ [x]
def bareWays (ts : List (Int × Int)) (ws : List (List Int)) : List (List Int) := ws.flatMap (bareG ts)
theorem nears_len9 {ts : List (Int × Int)} {v : Int} {k : Nat} (h : ts.length < k) : (nears ts v).length < k := by
  rw [nears, len_sortI, List.length_map]; exact flen _ h
theorem bare_ways_in {n : Nat} {m : Int} {ts : List (Int × Int)} {ws acc : List (List Int)} {w : List Int} {a : Sl} (hl : ts.length < 1000) (hw : w ≠ []) (hwl : w.length < 100) (ha : acc.length < 10000000) (u : List M) :
    ∃ a' : Sl, evSs (callF prog (n + 1)) b24_0 ⟨[.m (.fro (webD m ts)), .m (.fro (.list (ws.map row))), .m (.lst (acc.map row)), .m (.fro (row w)), a, .un], u⟩ =
      .ok .next ⟨[.m (.fro (webD m ts)), .m (.fro (.list (ws.map row))), .m (.lst ((acc ++ bareG ts w).map row)), .m (.fro (row w)), a', .un], u⟩ := by
  obtain ⟨z, hlast⟩ : ∃ z, w.getLast? = some z := by
    cases w with
    | nil => exact (hw rfl).elim
    | cons x xs => exact ⟨_, List.getLast?_cons⟩
  have hN : ∀ v, (nears ts v).length < 1000 := fun v => nears_len9 hl
  have hwl2 : w.length ≤ 16777215 := by omega
  have hm : w.length - 1 - 1 < 16777216 := by omega
  let ns := nears ts z
  obtain ⟨s', ⟨a', rfl⟩, e⟩ := for_n (call := callF prog (n + 1)) (as := .nil) (t := .nm 4) (it := .seq (.call 25 (.cons (.ix (.var 0) (.int 1)) (.cons (.ix (.var 3) (.neg (.int 1))) .nil)))) (b := b24_1) (v := .fro (.tuple (ns.map .int))) PyData.int ns
    (fun k s => ∃ a : Sl, s = ⟨[.m (.fro (webD m ts)), .m (.fro (.list (ws.map row))), .m (.lst ((acc ++ ((ns.take k).filter (bareC ts w)).map fun x => w ++ [x]).map row)), .m (.fro (row w)), a, .un], u⟩)
    (s := ⟨[.m (.fro (webD m ts)), .m (.fro (.list (ws.map row))), .m (.lst (acc.map row)), .m (.fro (row w)), a, .un], u⟩) rfl (by simp [pev, pXs, pAnd, pAnd1, pOr, pOr1, pXo, pRg, pIfs, pI, got, goti, kDIn, kDGet, kDSrt, dctS, M.isD, keyD, leafK, leafsK, pfrz, pfrzs, pTup, pLst, pargs, pcall, resM, ptst, pfit_ok, pone, pown, pguard, pint, S.at, M.own, truth, asBool, kBin, kCmp, kIsN, kNeg, kIx, kSl, kBi, kIsi, kSrt, kSeq, qRgI_ok, qRng_ok, kZip, kEnm_map, ofO, view, viewS, M.contS, M.cont, add_ok, add_tup, add_lst, sub_ok, ixD, slD, itemsD, isiD, views, List.range, List.range.loop, bindT, bindTs, wipeS, S.set, List.foldl, ↓obind_m, ↓pOver_m, Option.map_some, Option.map_none, ↓pMap_map, pMap_some, ↓pMap_nil, ↓pMap_cons, some_ite, obool_and, obool_or, fm_one, fm_ite, fm_iteD, fm_bool, boolsD_of, cmpD, dok, dokAll, dokAll_ints, dokAll_ties, dokAll_rows, line, hasD_nil, hasD_cons, hasD_int, hasD_tie, eqv_int, Bool.and_true, Bool.true_and, Bool.or_false, -List.map_take, -List.map_drop, -List.map_tail, -List.map_dropLast, nthD_0, nthD_1, nthD_2, nthD_map, nthD_last, hlast, near_in, hl, ns]) ⟨a, by simp⟩ (by
      rintro k x s hx ⟨a, rfl⟩
      have hk := (List.getElem?_eq_some_iff.mp hx).1
      have hkl : k < 1000 := Nat.lt_trans hk (hN _)
      have al : (acc ++ ((ns.take k).filter (bareC ts w)).map fun x => w ++ [x]).length < 16777216 := by
        rw [List.length_append, List.length_map]
        have := List.length_filter_le (bareC ts w) (ns.take k)
        rw [List.length_take] at this
        omega
      refine ⟨⟨[.m (.fro (webD m ts)), .m (.fro (.list (ws.map row))), .m (.lst ((acc ++ ((ns.take k).filter (bareC ts w)).map fun x => w ++ [x]).map row)), .m (.fro (row w)), .m (.fro (.int x)), .un], u⟩, ⟨[.m (.fro (webD m ts)), .m (.fro (.list (ws.map row))), .m (.lst ((acc ++ ((ns.take (k + 1)).filter (bareC ts w)).map fun x => w ++ [x]).map row)), .m (.fro (row w)), .m (.fro (.int x)), .un], u⟩, rfl, ?_, _, rfl⟩
      rw [b24_1, ite_p (bareC ts w x) rfl (by simp [pev, pXs, pAnd, pAnd1, pOr, pOr1, pXo, pRg, pIfs, pI, got, goti, kDIn, kDGet, kDSrt, dctS, M.isD, keyD, leafK, leafsK, pfrz, pfrzs, pTup, pLst, pargs, pcall, resM, ptst, pfit_ok, pone, pown, pguard, pint, S.at, M.own, truth, asBool, kBin, kCmp, kIsN, kNeg, kIx, kSl, kBi, kIsi, kSrt, kSeq, qRgI_ok, qRng_ok, kZip, kEnm_map, ofO, view, viewS, M.contS, M.cont, add_ok, add_tup, add_lst, sub_ok, ixD, slD, itemsD, isiD, views, List.range, List.range.loop, bindT, bindTs, wipeS, S.set, List.foldl, ↓obind_m, ↓pOver_m, Option.map_some, Option.map_none, ↓pMap_map, pMap_some, ↓pMap_nil, ↓pMap_cons, some_ite, obool_and, obool_or, fm_one, fm_ite, fm_iteD, fm_bool, boolsD_of, cmpD, dok, dokAll, dokAll_ints, dokAll_ties, dokAll_rows, line, hasD_nil, hasD_cons, hasD_int, hasD_tie, eqv_int, Bool.and_true, Bool.true_and, Bool.or_false, -List.map_take, -List.map_drop, -List.map_tail, -List.map_dropLast, nthD_0, nthD_1, nthD_2, biD, near_in, hl, cut_mid, bareC, hm, Function.comp_def]; rw [Bool.eq_iff_iff]; simp), take_next hx, List.filter_append]
      cases hb : bareC ts w x with
      | false => simp [hb]; rfl
      | true =>
        rw [if_pos rfl, app_p (ds := (acc ++ ((ns.take k).filter (bareC ts w)).map fun x => w ++ [x]).map row) (row (w ++ [x])) rfl rfl (by simp [pev, pXs, pAnd, pAnd1, pOr, pOr1, pXo, pRg, pIfs, pI, got, goti, kDIn, kDGet, kDSrt, dctS, M.isD, keyD, leafK, leafsK, pfrz, pfrzs, pTup, pLst, pargs, pcall, resM, ptst, pfit_ok, pone, pown, pguard, pint, S.at, M.own, truth, asBool, kBin, kCmp, kIsN, kNeg, kIx, kSl, kBi, kIsi, kSrt, kSeq, qRgI_ok, qRng_ok, kZip, kEnm_map, ofO, view, viewS, M.contS, M.cont, add_ok, add_tup, add_lst, sub_ok, ixD, slD, itemsD, isiD, views, List.range, List.range.loop, bindT, bindTs, wipeS, S.set, List.foldl, ↓obind_m, ↓pOver_m, Option.map_some, Option.map_none, ↓pMap_map, pMap_some, ↓pMap_nil, ↓pMap_cons, some_ite, obool_and, obool_or, fm_one, fm_ite, fm_iteD, fm_bool, boolsD_of, cmpD, dok, dokAll, dokAll_ints, dokAll_ties, dokAll_rows, line, hasD_nil, hasD_cons, hasD_int, hasD_tie, eqv_int, Bool.and_true, Bool.true_and, Bool.or_false, -List.map_take, -List.map_drop, -List.map_tail, -List.map_dropLast, nthD_0, nthD_1, nthD_2, hwl2]) (by rw [List.length_map]; exact al)]
        simp [hb, S.put]
        rfl)
  rw [List.take_length] at e
  refine ⟨a', ?_⟩
  rw [b24_0, e, bareG, hlast]
  rfl
theorem bareG_len {ts : List (Int × Int)} (hl : ts.length < 1000) (w : List Int) : (bareG ts w).length ≤ 1000 := by
  rw [bareG, List.length_map]
  exact Nat.le_of_lt (flen _ (nears_len9 hl))
theorem bare_ways {n : Nat} {m : Int} {ts : List (Int × Int)} {ws : List (List Int)} (hl : ts.length < 1000) (hw : ∀ w ∈ ws, w ≠ [] ∧ w.length < 100) (hwl : ws.length < 9000) (u : List M) :
    callF prog (n + 2) 24 [.m (.fro (webD m ts)), .m (.fro (.list (ws.map row)))] u = .ok (.lst ((bareWays ts ws).map row)) u := by
  rw [callF_at (fn := ⟨2, N24.length, b24⟩) rfl rfl]
  show fin (evSs (callF prog (n + 1)) b24 ⟨[.m (.fro (webD m ts)), .m (.fro (.list (ws.map row))), .un, .un, .un, .un], u⟩) = _
  rw [b24, asg_p (.lst []) rfl (by simp [pev, pXs, pAnd, pAnd1, pOr, pOr1, pXo, pRg, pIfs, pI, got, goti, kDIn, kDGet, kDSrt, dctS, M.isD, keyD, leafK, leafsK, pfrz, pfrzs, pTup, pLst, pargs, pcall, resM, ptst, pfit_ok, pone, pown, pguard, pint, S.at, M.own, truth, asBool, kBin, kCmp, kIsN, kNeg, kIx, kSl, kBi, kIsi, kSrt, kSeq, qRgI_ok, qRng_ok, kZip, kEnm_map, ofO, view, viewS, M.contS, M.cont, add_ok, add_tup, add_lst, sub_ok, ixD, slD, itemsD, isiD, views, List.range, List.range.loop, bindT, bindTs, wipeS, S.set, List.foldl, ↓obind_m, ↓pOver_m, Option.map_some, Option.map_none, ↓pMap_map, pMap_some, ↓pMap_nil, ↓pMap_cons, some_ite, obool_and, obool_or, fm_one, fm_ite, fm_iteD, fm_bool, boolsD_of, cmpD, dok, dokAll, dokAll_ints, dokAll_ties, dokAll_rows, line, hasD_nil, hasD_cons, hasD_int, hasD_tie, eqv_int, Bool.and_true, Bool.true_and, Bool.or_false, -List.map_take, -List.map_drop, -List.map_tail, -List.map_dropLast, nthD_0, nthD_1, nthD_2])]
  obtain ⟨s', ⟨a, b, rfl⟩, e⟩ := for_n (call := callF prog (n + 1)) (as := .cons (.ret (.var 2)) .nil) (t := .nm 3) (it := .seq (.var 1)) (b := b24_0) (v := .fro (.list (ws.map row))) row ws
    (fun k s => ∃ a b : Sl, s = ⟨[.m (.fro (webD m ts)), .m (.fro (.list (ws.map row))), .m (.lst (((ws.take k).flatMap (bareG ts)).map row)), a, b, .un], u⟩)
    (s := ⟨[.m (.fro (webD m ts)), .m (.fro (.list (ws.map row))), .m (.lst []), .un, .un, .un], u⟩) rfl (by simp [pev, pXs, pAnd, pAnd1, pOr, pOr1, pXo, pRg, pIfs, pI, got, goti, kDIn, kDGet, kDSrt, dctS, M.isD, keyD, leafK, leafsK, pfrz, pfrzs, pTup, pLst, pargs, pcall, resM, ptst, pfit_ok, pone, pown, pguard, pint, S.at, M.own, truth, asBool, kBin, kCmp, kIsN, kNeg, kIx, kSl, kBi, kIsi, kSrt, kSeq, qRgI_ok, qRng_ok, kZip, kEnm_map, ofO, view, viewS, M.contS, M.cont, add_ok, add_tup, add_lst, sub_ok, ixD, slD, itemsD, isiD, views, List.range, List.range.loop, bindT, bindTs, wipeS, S.set, List.foldl, ↓obind_m, ↓pOver_m, Option.map_some, Option.map_none, ↓pMap_map, pMap_some, ↓pMap_nil, ↓pMap_cons, some_ite, obool_and, obool_or, fm_one, fm_ite, fm_iteD, fm_bool, boolsD_of, cmpD, dok, dokAll, dokAll_ints, dokAll_ties, dokAll_rows, line, hasD_nil, hasD_cons, hasD_int, hasD_tie, eqv_int, Bool.and_true, Bool.true_and, Bool.or_false, -List.map_take, -List.map_drop, -List.map_tail, -List.map_dropLast, nthD_0, nthD_1, nthD_2]) ⟨.un, .un, by simp⟩ (by
      rintro k w s hx ⟨a, b, rfl⟩
      obtain ⟨w1, w2⟩ := hw w (List.mem_of_getElem? hx)
      have hlen : ((ws.take k).flatMap (bareG ts)).length < 10000000 := Nat.lt_of_le_of_lt (fm_len (k := 1000) (m := 9000) _ (fun w _ => bareG_len hl w) (by rw [List.length_take]; omega)) (by omega)
      obtain ⟨a', e⟩ := bare_ways_in (n := n) (m := m) (ws := ws) (a := b) hl w1 w2 hlen u
      refine ⟨_, _, rfl, e, .m (.fro (row w)), a', ?_⟩
      rw [take_next hx, List.flatMap_append]
      simp)
  rw [List.take_length] at e
  show fin (evSs _ _ ⟨[.m (.fro (webD m ts)), .m (.fro (.list (ws.map row))), .m (.lst []), .un, .un, .un], u⟩) = _
  rw [e]
  simp [evSs, line, M.isL, kFrz, evS, evE, evAnd, evAnd1, evOr, evOr1, evXs, evXo, evRg, evIfs, evI, bind_ok, bind_ite, rk_ite, rk_ite2, rk_and, rk_or, fin_ite, bindA, S.at, S.set, S.put, Ax.callWith, lend, apart, M.own, tst, truth, ofO, kBin, kCmp, kIsN, kNeg, kTup, kLst, kIx, kSl, kBi, kIsi, kSeq, kInt, kR1, kR2, kZip, kEnm, view, viewS, M.contS, M.cont, binD, biD, ixD, slD, itemsD, asBool, isiD, back, give, giveAll, setAll, giveBack, frz, frzAll, views, List.range, List.range.loop, Ax.fin, bindT, bindTs, keep1, lockS, unlockS, wipeS, unwipe, ownerOf]
  rfl
--# is_bare_ring
def nextB (n i j : Int) : Bool := decide (j = i + 1) || (decide (i = 0) && decide (j = n - 1))
def isBare (ts : List (Int × Int)) (xs : List Int) : Bool := (rangeI 0 xs.length).all fun i => (rangeI (i + 1) xs.length).all fun j => decide (mm (xs.getD i.toNat 0) (xs.getD j.toNat 0) ∈ ts) == nextB xs.length i j
theorem is_bare_ring {n : Nat} {m : Int} {ts : List (Int × Int)} {xs : List Int} (hl : xs.length < 100) (u : List M) :
    callF prog (n + 1) 26 [.m (.fro (webD m ts)), .m (.fro (row xs))] u = .ok (.fro (.bool (isBare ts xs))) u := by
  rw [callF_at (fn := ⟨2, N26.length, b26⟩) rfl rfl]
  show fin (evSs (callF prog n) b26 ⟨[.m (.fro (webD m ts)), .m (.fro (row xs)), .un, .un, .un, .un], u⟩) = _
  have step : ∀ (i : Nat) (a b : Sl), i < xs.length → ∃ a' b' : Sl, evSs (callF prog n) b26_0 ⟨[.m (.fro (webD m ts)), .m (.fro (row xs)), .m (.fro (.int xs.length)), .m (.fro (.int i)), a, b], u⟩ =
      if (!((rangeI (i + 1) xs.length).all fun j => decide (mm (xs.getD i 0) (xs.getD j.toNat 0) ∈ ts) == nextB xs.length i j)) = true then .ok (.ret (.fro (.bool false))) ⟨[.m (.fro (webD m ts)), .m (.fro (row xs)), .m (.fro (.int xs.length)), .m (.fro (.int i)), a', b'], u⟩
      else .ok .next ⟨[.m (.fro (webD m ts)), .m (.fro (row xs)), .m (.fro (.int xs.length)), .m (.fro (.int i)), a', b'], u⟩ := fun i a b hi => by
    have hget : xs[i]? = some xs[i] := List.getElem?_eq_getElem hi
    obtain ⟨s', ⟨a', b', rfl⟩, e⟩ := for_r (call := callF prog n) (as := .nil) (t := .nm 4) (it := .rng (.r2 (.bin .Add (.var 3) (.int 1)) (.var 2))) (b := b26_1) (v := .fro .none) PyData.int (rangeI (i + 1) xs.length) (fun s => ∃ a b : Sl, s = ⟨[.m (.fro (webD m ts)), .m (.fro (row xs)), .m (.fro (.int xs.length)), .m (.fro (.int i)), a, b], u⟩) (fun j => !(decide (mm (xs.getD i 0) (xs.getD j.toNat 0) ∈ ts) == nextB xs.length i j)) (.fro (.bool false))
      (s := ⟨[.m (.fro (webD m ts)), .m (.fro (row xs)), .m (.fro (.int xs.length)), .m (.fro (.int i)), a, b], u⟩) rfl (by simp [pev, pXs, pAnd, pAnd1, pOr, pOr1, pXo, pRg, pIfs, pI, got, goti, kDIn, kDGet, kDSrt, dctS, M.isD, keyD, leafK, leafsK, pfrz, pfrzs, pTup, pLst, pargs, pcall, resM, ptst, pfit_ok, pone, pown, pguard, pint, S.at, M.own, truth, asBool, kBin, kCmp, kIsN, kNeg, kIx, kSl, kBi, kIsi, kSrt, kSeq, qRgI_ok, qRng_ok, kZip, kEnm_map, ofO, view, viewS, M.contS, M.cont, add_ok, add_tup, add_lst, sub_ok, ixD, slD, itemsD, isiD, views, List.range, List.range.loop, bindT, bindTs, wipeS, S.set, List.foldl, ↓obind_m, ↓pOver_m, Option.map_some, Option.map_none, ↓pMap_map, pMap_some, ↓pMap_nil, ↓pMap_cons, some_ite, obool_and, obool_or, fm_one, fm_ite, fm_iteD, fm_bool, boolsD_of, cmpD, dok, dokAll, dokAll_ints, dokAll_ties, dokAll_rows, line, hasD_nil, hasD_cons, hasD_int, hasD_tie, eqv_int, Bool.and_true, Bool.true_and, Bool.or_false, -List.map_take, -List.map_drop, -List.map_tail, -List.map_dropLast, nthD_0, nthD_1, nthD_2, qRgI_ok (lo := (i : Int) + 1) (hi := (xs.length : Int)) (by omega) (by omega) (by omega) (by omega)]) ⟨_, _, rfl⟩ (by
        rintro x s hx ⟨a, b, rfl⟩
        obtain ⟨h1, h2⟩ := mem_rangeI.mp hx
        obtain ⟨j, rfl⟩ : ∃ j : Nat, x = j := ⟨x.toNat, by omega⟩
        have hj : j < xs.length := by omega
        have hget2 : xs[j]? = some xs[j] := List.getElem?_eq_getElem hj
        refine ⟨⟨[.m (.fro (webD m ts)), .m (.fro (row xs)), .m (.fro (.int xs.length)), .m (.fro (.int i)), .m (.fro (.int j)), b], u⟩, ⟨[.m (.fro (webD m ts)), .m (.fro (row xs)), .m (.fro (.int xs.length)), .m (.fro (.int i)), .m (.fro (.int j)), .m (.fro (.bool (nextB xs.length i j)))], u⟩, rfl, ⟨_, _, rfl⟩, ?_⟩
        rw [b26_1, asg_p (.fro (.bool (nextB xs.length i j))) rfl (by simp [pev, pXs, pAnd, pAnd1, pOr, pOr1, pXo, pRg, pIfs, pI, got, goti, kDIn, kDGet, kDSrt, dctS, M.isD, keyD, leafK, leafsK, pfrz, pfrzs, pTup, pLst, pargs, pcall, resM, ptst, pfit_ok, pone, pown, pguard, pint, S.at, M.own, truth, asBool, kBin, kCmp, kIsN, kNeg, kIx, kSl, kBi, kIsi, kSrt, kSeq, qRgI_ok, qRng_ok, kZip, kEnm_map, ofO, view, viewS, M.contS, M.cont, add_ok, add_tup, add_lst, sub_ok, ixD, slD, itemsD, isiD, views, List.range, List.range.loop, bindT, bindTs, wipeS, S.set, List.foldl, ↓obind_m, ↓pOver_m, Option.map_some, Option.map_none, ↓pMap_map, pMap_some, ↓pMap_nil, ↓pMap_cons, some_ite, obool_and, obool_or, fm_one, fm_ite, fm_iteD, fm_bool, boolsD_of, cmpD, dok, dokAll, dokAll_ints, dokAll_ties, dokAll_rows, line, hasD_nil, hasD_cons, hasD_int, hasD_tie, eqv_int, Bool.and_true, Bool.true_and, Bool.or_false, -List.map_take, -List.map_drop, -List.map_tail, -List.map_dropLast, nthD_0, nthD_1, nthD_2, nextB])]
        show evSs _ _ ⟨[.m (.fro (webD m ts)), .m (.fro (row xs)), .m (.fro (.int xs.length)), .m (.fro (.int i)), .m (.fro (.int j)), .m (.fro (.bool (nextB xs.length i j)))], u⟩ = _
        rw [guard_p (!(decide (mm (xs.getD i 0) (xs.getD j 0) ∈ ts) == nextB xs.length i j)) rfl (by
          simp [pev, pXs, pAnd, pAnd1, pOr, pOr1, pXo, pRg, pIfs, pI, got, goti, kDIn, kDGet, kDSrt, dctS, M.isD, keyD, leafK, leafsK, pfrz, pfrzs, pTup, pLst, pargs, pcall, resM, ptst, pfit_ok, pone, pown, pguard, pint, S.at, M.own, truth, asBool, kBin, kCmp, kIsN, kNeg, kIx, kSl, kBi, kIsi, kSrt, kSeq, qRgI_ok, qRng_ok, kZip, kEnm_map, ofO, view, viewS, M.contS, M.cont, add_ok, add_tup, add_lst, sub_ok, ixD, slD, itemsD, isiD, views, List.range, List.range.loop, bindT, bindTs, wipeS, S.set, List.foldl, ↓obind_m, ↓pOver_m, Option.map_some, Option.map_none, ↓pMap_map, pMap_some, ↓pMap_nil, ↓pMap_cons, some_ite, obool_and, obool_or, fm_one, fm_ite, fm_iteD, fm_bool, boolsD_of, cmpD, dok, dokAll, dokAll_ints, dokAll_ties, dokAll_rows, line, hasD_nil, hasD_cons, hasD_int, hasD_tie, eqv_int, Bool.and_true, Bool.true_and, Bool.or_false, -List.map_take, -List.map_drop, -List.map_tail, -List.map_dropLast, nthD_0, nthD_1, nthD_2, biD, nthD_map, nthD_nat, hget, hget2, mm, PyData.eqv, List.getD_eq_getElem?_getD])]
        rfl)
    refine ⟨a', b', ?_⟩
    rw [b26_0, e, not_any]
    rfl
  rw [b26, asg_p (.fro (.int xs.length)) rfl (by simp [pev, pXs, pAnd, pAnd1, pOr, pOr1, pXo, pRg, pIfs, pI, got, goti, kDIn, kDGet, kDSrt, dctS, M.isD, keyD, leafK, leafsK, pfrz, pfrzs, pTup, pLst, pargs, pcall, resM, ptst, pfit_ok, pone, pown, pguard, pint, S.at, M.own, truth, asBool, kBin, kCmp, kIsN, kNeg, kIx, kSl, kBi, kIsi, kSrt, kSeq, qRgI_ok, qRng_ok, kZip, kEnm_map, ofO, view, viewS, M.contS, M.cont, add_ok, add_tup, add_lst, sub_ok, ixD, slD, itemsD, isiD, views, List.range, List.range.loop, bindT, bindTs, wipeS, S.set, List.foldl, ↓obind_m, ↓pOver_m, Option.map_some, Option.map_none, ↓pMap_map, pMap_some, ↓pMap_nil, ↓pMap_cons, some_ite, obool_and, obool_or, fm_one, fm_ite, fm_iteD, fm_bool, boolsD_of, cmpD, dok, dokAll, dokAll_ints, dokAll_ties, dokAll_rows, line, hasD_nil, hasD_cons, hasD_int, hasD_tie, eqv_int, Bool.and_true, Bool.true_and, Bool.or_false, -List.map_take, -List.map_drop, -List.map_tail, -List.map_dropLast, nthD_0, nthD_1, nthD_2, biD])]
  obtain ⟨s', ⟨a, b, c, rfl⟩, e⟩ := for_r (call := callF prog n) (as := .cons (.ret (.bl true)) .nil) (t := .nm 3) (it := .rng (.r1 (.var 2))) (b := b26_0) (v := .fro .none) PyData.int (rangeI 0 xs.length) (fun s => ∃ a b c : Sl, s = ⟨[.m (.fro (webD m ts)), .m (.fro (row xs)), .m (.fro (.int xs.length)), a, b, c], u⟩) (fun i => !((rangeI (i + 1) xs.length).all fun j => decide (mm (xs.getD i.toNat 0) (xs.getD j.toNat 0) ∈ ts) == nextB xs.length i j)) (.fro (.bool false))
    (s := ⟨[.m (.fro (webD m ts)), .m (.fro (row xs)), .m (.fro (.int xs.length)), .un, .un, .un], u⟩) rfl (by simp [pev, pXs, pAnd, pAnd1, pOr, pOr1, pXo, pRg, pIfs, pI, got, goti, kDIn, kDGet, kDSrt, dctS, M.isD, keyD, leafK, leafsK, pfrz, pfrzs, pTup, pLst, pargs, pcall, resM, ptst, pfit_ok, pone, pown, pguard, pint, S.at, M.own, truth, asBool, kBin, kCmp, kIsN, kNeg, kIx, kSl, kBi, kIsi, kSrt, kSeq, qRgI_ok, qRng_ok, kZip, kEnm_map, ofO, view, viewS, M.contS, M.cont, add_ok, add_tup, add_lst, sub_ok, ixD, slD, itemsD, isiD, views, List.range, List.range.loop, bindT, bindTs, wipeS, S.set, List.foldl, ↓obind_m, ↓pOver_m, Option.map_some, Option.map_none, ↓pMap_map, pMap_some, ↓pMap_nil, ↓pMap_cons, some_ite, obool_and, obool_or, fm_one, fm_ite, fm_iteD, fm_bool, boolsD_of, cmpD, dok, dokAll, dokAll_ints, dokAll_ties, dokAll_rows, line, hasD_nil, hasD_cons, hasD_int, hasD_tie, eqv_int, Bool.and_true, Bool.true_and, Bool.or_false, -List.map_take, -List.map_drop, -List.map_tail, -List.map_dropLast, nthD_0, nthD_1, nthD_2, qRgI_ok (lo := 0) (hi := (xs.length : Int)) (by omega) (by omega) (by omega) (by omega)]) ⟨_, _, _, rfl⟩ (by
      rintro x s hx ⟨a, b, c, rfl⟩
      obtain ⟨h1, h2⟩ := mem_rangeI.mp hx
      obtain ⟨i, rfl⟩ : ∃ i : Nat, x = i := ⟨x.toNat, by omega⟩
      obtain ⟨a', b', e⟩ := step i b c (by omega)
      exact ⟨⟨[.m (.fro (webD m ts)), .m (.fro (row xs)), .m (.fro (.int xs.length)), .m (.fro (.int i)), b, c], u⟩, _, rfl, ⟨_, _, _, rfl⟩, e⟩)
  show fin (evSs _ _ ⟨[.m (.fro (webD m ts)), .m (.fro (row xs)), .m (.fro (.int xs.length)), .un, .un, .un], u⟩) = _
  rw [e, not_any, ret_p (.fro (.bool true)) rfl rfl]
  show fin (if (!isBare ts xs) = true then _ else _) = _
  rw [ite_tf]
  rfl
end K82
namespace K82
open PySem Ax
--# 
theorem pw_ext {α : Type} {r : α → α → Prop} (irr : ∀ a, ¬ r a a) (tr : ∀ a b c, r a b → r b c → r a c) : ∀ {l1 l2 : List α}, l1.Pairwise r → l2.Pairwise r → (∀ x, x ∈ l1 ↔ x ∈ l2) → l1 = l2
  | [], [], _, _, _ => rfl
  | [], b :: l2, _, _, h => by have := (h b).mpr (by simp); cases this
  | a :: l1, [], _, _, h => by have := (h a).mp (by simp); cases this
  | a :: l1, b :: l2, h1, h2, h => by
    obtain ⟨p1, p2⟩ := List.pairwise_cons.mp h1
    obtain ⟨q1, q2⟩ := List.pairwise_cons.mp h2
    have e : a = b := by
      rcases List.mem_cons.mp ((h a).mp (by simp)) with e | e
      · exact e
      · rcases List.mem_cons.mp ((h b).mpr (by simp)) with e2 | e2
        · exact e2.symm
        · exact (irr a (tr _ _ _ (p1 b e2) (q1 a e))).elim
    subst e
    congr 1
    refine pw_ext irr tr p2 q2 fun x => ⟨fun hx => ?_, fun hx => ?_⟩
    · rcases List.mem_cons.mp ((h x).mp (by simp [hx])) with e | e
      · subst e; exact (irr x (p1 x hx)).elim
      · exact e
    · rcases List.mem_cons.mp ((h x).mpr (by simp [hx])) with e | e
      · subst e; exact (irr x (q1 x hx)).elim
      · exact e
theorem ltP_tr {p q r : Int × Int} (a : ltP p q = true) (b : ltP q r = true) : ltP p r = true := by
  rw [ltP_iff] at a b ⊢; omega
theorem ltP_irr (p : Int × Int) : ¬ ltP p p = true := by
  rw [ltP_iff]; omega
theorem asc_pw : ∀ {ts : List (Int × Int)}, asc ts = true → ts.Pairwise (fun p q => ltP p q = true)
  | [], _ => .nil
  | [p], _ => by simp
  | p :: q :: ts, h => by
    unfold asc at h
    simp only [List.tail_cons, List.zip_cons_cons, List.all_cons, Bool.and_eq_true] at h
    have h2 := asc_pw (ts := q :: ts) (by unfold asc; simpa using h.2)
    refine List.pairwise_cons.mpr ⟨fun r hr => ?_, h2⟩
    rcases List.mem_cons.mp hr with e | e
    · subst e; exact h.1
    · exact ltP_tr h.1 ((List.pairwise_cons.mp h2).1 r e)
theorem webNodup {m : Int} {ts : List (Int × Int)} (W : Web m ts) : ts.Nodup := (asc_pw W.asc).imp fun {p q} h e => by subst e; exact ltP_irr p h
--# near_in
theorem nears_mem {m : Int} {ts : List (Int × Int)} (W : ∀ p ∈ ts, Tie m p) {o v : Int} : o ∈ nears ts v ↔ mm o v ∈ ts := by
  simp only [nears, mem_sortI, List.mem_map, List.mem_filter, Bool.or_eq_true, decide_eq_true_eq]
  constructor
  · rintro ⟨⟨a, b⟩, ⟨hp, h⟩, rfl⟩
    have := W _ hp
    simp only [Tie] at this
    rcases h with rfl | rfl
    · have e : a + b - a = b := by omega
      rw [e, mm_comm, mm_lt this.2.1]; exact hp
    · have e : a + b - b = a := by omega
      rw [e, mm_lt this.2.1]; exact hp
  · intro h
    refine ⟨mm o v, ⟨h, ?_⟩, ?_⟩
    · unfold mm; simp only; split <;> split <;> omega
    · unfold mm; simp only; split <;> split <;> omega
theorem mm_range {m : Int} {ts : List (Int × Int)} (W : ∀ p ∈ ts, Tie m p) {a b : Int} (h : mm a b ∈ ts) : (0 ≤ a ∧ a < m) ∧ (0 ≤ b ∧ b < m) ∧ a ≠ b := by
  have := W _ h
  unfold mm Tie at this
  simp only at this
  split at this <;> split at this <;> omega
theorem nears_eq {m : Int} {ts : List (Int × Int)} (W : Web m ts) (v : Int) : nears ts v = (rangeI 0 m).filter fun x => decide (mm x v ∈ ts) := by
  have h1 : (nears ts v).Pairwise (· < ·) := by
    have n1 : ((ts.filter fun p => decide (p.1 = v) || decide (p.2 = v)).map fun p => p.1 + p.2 - v).Nodup := by
      rw [List.Nodup, List.pairwise_map]
      refine List.Pairwise.imp_of_mem (fun {p q} hp hq hn e => hn ?_) ((webNodup W).filter _)
      have key : ∀ p : Int × Int, p ∈ (ts.filter fun p => decide (p.1 = v) || decide (p.2 = v)) → p = mm (p.1 + p.2 - v) v := fun p hp => by
        obtain ⟨a, b⟩ := p
        obtain ⟨h1, h2⟩ := List.mem_filter.mp hp
        have := W.tie _ h1
        simp only [Tie] at this
        simp only [Bool.or_eq_true, decide_eq_true_eq] at h2
        unfold mm
        simp only [Prod.mk.injEq]
        split <;> split <;> omega
      rw [key p hp, key q hq, e]
    have s1 : (nears ts v).Pairwise (fun a b => decide (a ≤ b) = true) := List.pairwise_mergeSort (fun a b c h1 h2 => by simp at h1 h2 ⊢; omega) (fun a b => by simp; omega) _
    have n2 : (nears ts v).Nodup := (List.mergeSort_perm _ _).nodup_iff.mpr n1
    exact List.Pairwise.imp₂ (fun a b h1 h2 => by simp at h1; have h2 : a ≠ b := h2; omega) s1 n2
  refine pw_ext (r := (· < ·)) (fun a => by omega) (fun a b c => by omega) h1 ((rangeI_asc 0 m).filter _) fun x => ?_
  rw [nears_mem W.tie, List.mem_filter, mem_rangeI, decide_eq_true_eq]
  exact ⟨fun h => ⟨(mm_range W.tie h).1, h⟩, fun h => h.2⟩
--# near_in bare_ways is_bare_ring
def lawG (ts : List (Int × Int)) (m : Int) (w : List Int) : List (List Int) := ((rangeI 0 m).filter fun x => !decide (x ∈ w) && decide (mm x (w.getLast?.getD 0) ∈ ts)).map fun x => w ++ [x]
def lawK (ts : List (Int × Int)) (m : Int) : Nat → List (List Int)
  | 0 => (rangeI 0 m).map fun x => [x]
  | k + 1 => (lawK ts m k).flatMap (lawG ts m)
def bareK (ts : List (Int × Int)) (m : Int) : Nat → List (List Int)
  | 0 => (rangeI 0 m).map fun x => [x]
  | k + 1 => bareWays ts (bareK ts m k)
theorem lawK_len {ts : List (Int × Int)} {m : Int} (hm : m ≤ 6) : ∀ k, (lawK ts m k).length ≤ 6 ^ (k + 1)
  | 0 => by rw [lawK, List.length_map, len_rangeI]; omega
  | k + 1 => by
    rw [lawK, Nat.pow_succ]
    exact fm_len _ (fun w _ => by rw [lawG, List.length_map]; exact Nat.le_trans (List.length_filter_le _ _) (by rw [len_rangeI]; omega)) (lawK_len hm k)
theorem lawK_mem {ts : List (Int × Int)} {m : Int} : ∀ {k : Nat} {w : List Int}, w ∈ lawK ts m k → w.length = k + 1 ∧ w.Nodup ∧ ∀ x ∈ w, 0 ≤ x ∧ x < m
  | 0, w, h => by
    obtain ⟨x, hx, rfl⟩ := List.mem_map.mp h
    exact ⟨rfl, by simp, fun y hy => by simp at hy; subst hy; exact mem_rangeI.mp hx⟩
  | k + 1, w, h => by
    obtain ⟨w, hw, h2⟩ := List.mem_flatMap.mp h
    obtain ⟨x, hx, rfl⟩ := List.mem_map.mp h2
    obtain ⟨h3, h4⟩ := List.mem_filter.mp hx
    obtain ⟨q1, q2, q3⟩ := lawK_mem hw
    simp only [Bool.and_eq_true, Bool.not_eq_true', decide_eq_false_iff_not] at h4
    refine ⟨by simp [q1], ?_, fun y hy => ?_⟩
    · rw [List.nodup_append]
      refine ⟨q2, by simp, fun a ha b hb e => ?_⟩
      simp at hb
      rw [e, hb] at ha
      exact h4.1 ha
    · rcases List.mem_append.mp hy with hy | hy
      · exact q3 y hy
      · simp at hy; subst hy; exact mem_rangeI.mp h3
def nbB (ts : List (Int × Int)) (w : List Int) : Bool := (List.range w.length).all fun t => (List.range t).all fun i => !(decide (1 ≤ i) && decide (i + 2 ≤ t) && decide (mm (w.getD i 0) (w.getD t 0) ∈ ts))
theorem mem_inner {w : List Int} {o : Int} : o ∈ w.tail.dropLast ↔ ∃ i, 1 ≤ i ∧ i + 2 ≤ w.length ∧ w.getD i 0 = o := by
  rw [List.mem_iff_getElem?]
  constructor
  · rintro ⟨j, hj⟩
    obtain ⟨h1, h2⟩ := List.getElem?_eq_some_iff.mp hj
    simp only [List.length_dropLast, List.length_tail] at h1
    refine ⟨j + 1, by omega, by omega, ?_⟩
    rw [List.getElem_dropLast, List.getElem_tail] at h2
    rw [List.getD_eq_getElem?_getD, List.getElem?_eq_getElem (by omega)]
    exact h2
  · rintro ⟨i, h1, h2, h3⟩
    refine ⟨i - 1, ?_⟩
    rw [List.getElem?_eq_some_iff]
    refine ⟨by simp only [List.length_dropLast, List.length_tail]; omega, ?_⟩
    rw [List.getElem_dropLast, List.getElem_tail]
    rw [List.getD_eq_getElem?_getD, List.getElem?_eq_getElem (by omega)] at h3
    simp only [show i - 1 + 1 = i by omega]
    exact h3
theorem nb_snoc (ts : List (Int × Int)) (w : List Int) (x : Int) : nbB ts (w ++ [x]) = (nbB ts w && !(w.tail.dropLast.any fun o => decide (mm o x ∈ ts))) := by
  have gl : ∀ i, i < w.length → (w ++ [x]).getD i 0 = w.getD i 0 := fun i hi => by
    rw [List.getD_eq_getElem?_getD, List.getD_eq_getElem?_getD, List.getElem?_append_left hi]
  have gr : (w ++ [x]).getD w.length 0 = x := by
    rw [List.getD_eq_getElem?_getD, List.getElem?_append_right (Nat.le_refl _)]; simp
  rw [Bool.eq_iff_iff]
  simp only [nbB, List.length_append, List.length_singleton, List.range_succ, List.all_append, Bool.and_eq_true, List.all_eq_true, List.mem_range, List.all_cons, List.all_nil, Bool.and_true, Bool.not_eq_true', Bool.and_eq_false_iff, decide_eq_false_iff_not, List.any_eq_false, decide_eq_true_eq]
  constructor
  · rintro ⟨h1, h2⟩
    refine ⟨fun t ht i hi => ?_, fun o ho hm => ?_⟩
    · have := h1 t ht i hi
      rw [gl t ht, gl i (by omega)] at this; exact this
    · obtain ⟨i, a, b, rfl⟩ := mem_inner.mp ho
      have := h2 i (by omega)
      rw [gr, gl i (by omega)] at this
      rcases this with (q | q) | q
      · exact q a
      · exact q b
      · exact q hm
  · rintro ⟨h1, h2⟩
    refine ⟨fun t ht i hi => ?_, fun i hi => ?_⟩
    · rw [gl t ht, gl i (by omega)]; exact h1 t ht i hi
    · rw [gr, gl i hi]
      by_cases a : 1 ≤ i
      · by_cases b : i + 2 ≤ w.length
        · exact .inr (h2 _ (mem_inner.mpr ⟨i, a, b, rfl⟩))
        · exact .inl (.inr b)
      · exact .inl (.inl a)
theorem fm_filter {α β : Type} (p : α → Bool) (g : α → List β) : ∀ l : List α, (l.filter p).flatMap g = l.flatMap fun w => if p w = true then g w else []
  | [] => rfl
  | x :: xs => by
    rw [List.flatMap_cons, ← fm_filter p g xs]
    by_cases h : p x = true <;> simp [h]
theorem fm_congr {α β : Type} {f g : α → List β} : ∀ {l : List α}, (∀ x ∈ l, f x = g x) → l.flatMap f = l.flatMap g
  | [], _ => rfl
  | x :: xs, h => by rw [List.flatMap_cons, List.flatMap_cons, h x (by simp), fm_congr fun y hy => h y (by simp [hy])]
theorem bareK_eq {m : Int} {ts : List (Int × Int)} (W : Web m ts) : ∀ k, bareK ts m k = (lawK ts m k).filter (nbB ts)
  | 0 => by
    rw [bareK, lawK, List.filter_eq_self.mpr]
    intro w hw
    obtain ⟨x, _, rfl⟩ := List.mem_map.mp hw
    rfl
  | k + 1 => by
    rw [bareK, bareK_eq W k, lawK, List.filter_flatMap, bareWays, fm_filter]
    refine fm_congr fun w _ => ?_
    rw [bareG, lawG, nears_eq W, List.filter_filter, List.filter_map, List.filter_filter]
    by_cases hn : nbB ts w = true
    · rw [if_pos hn]
      congr 1
      refine List.filter_congr fun x _ => ?_
      rw [Function.comp_apply, nb_snoc, hn, bareC]
      have e : (w.tail.dropLast.any fun o => decide (o ∈ nears ts x)) = w.tail.dropLast.any fun o => decide (mm o x ∈ ts) := by
        congr 1; funext o; rw [Bool.eq_iff_iff, decide_eq_true_eq, decide_eq_true_eq, nears_mem W.tie]
      rw [e]
      cases decide (x ∈ w) <;> cases decide (mm x (w.getLast?.getD 0) ∈ ts) <;> simp
    · rw [if_neg hn]
      symm
      rw [List.map_eq_nil_iff, List.filter_eq_nil_iff]
      intro x _
      rw [Function.comp_apply, nb_snoc]
      simp [hn]
theorem bare_nb {ts : List (Int × Int)} {w : List Int} (h : isBare ts w = true) : nbB ts w = true := by
  simp only [isBare, List.all_eq_true, mem_rangeI] at h
  simp only [nbB, List.all_eq_true, List.mem_range, Bool.not_eq_true', Bool.and_eq_false_iff, decide_eq_false_iff_not]
  intro t ht i hi
  by_cases a : 1 ≤ i
  · by_cases b : i + 2 ≤ t
    · refine .inr ?_
      have := h i ⟨by omega, by omega⟩ t ⟨by omega, by omega⟩
      rw [Int.toNat_natCast, Int.toNat_natCast] at this
      have e : nextB w.length i t = false := by
        simp only [nextB, Bool.or_eq_false_iff, Bool.and_eq_false_iff, decide_eq_false_iff_not]; omega
      rw [e] at this
      simpa using this
    · exact .inl (.inr b)
  · exact .inl (.inl a)
theorem bare_filter {m : Int} {ts : List (Int × Int)} (W : Web m ts) (k : Nat) : (bareK ts m k).filter (isBare ts) = (lawK ts m k).filter (isBare ts) := by
  rw [bareK_eq W, List.filter_filter]
  refine List.filter_congr fun w _ => ?_
  cases h : isBare ts w with
  | false => simp
  | true => rw [bare_nb h]; rfl
end K82
namespace K82
open PySem Ax
--# bare_ring_in bare_ways is_bare_ring near_in
def ringsAt (ts : List (Int × Int)) (m : Int) (j : Nat) : List (List Int) := if 3 < j + 2 then (lawK ts m (j + 1)).filter (isBare ts) else []
def firstRing (ts : List (Int × Int)) (m : Int) : Option (List Int) := ((List.range (m.toNat - 1)).flatMap (ringsAt ts m)).head?
theorem bareK_len {m : Int} {ts : List (Int × Int)} (W : Web m ts) (hm : m ≤ 6) {k : Nat} (hk : k ≤ 4) : (bareK ts m k).length < 9000 := by
  rw [bareK_eq W]
  refine Nat.lt_of_le_of_lt (List.length_filter_le _ _) (Nat.lt_of_le_of_lt (lawK_len hm k) ?_)
  have : 6 ^ (k + 1) ≤ 6 ^ 5 := Nat.pow_le_pow_right (by omega) (by omega)
  omega
theorem bareK_mem {m : Int} {ts : List (Int × Int)} (W : Web m ts) {k : Nat} {w : List Int} (h : w ∈ bareK ts m k) : w.length = k + 1 ∧ w.Nodup ∧ ∀ x ∈ w, 0 ≤ x ∧ x < m := by
  rw [bareK_eq W] at h
  exact lawK_mem (List.mem_filter.mp h).1
theorem bare_ring_in {n : Nat} {m : Int} {ts : List (Int × Int)} (W : Web m ts) (hm : m ≤ 6) (u : List M) : callF prog (n + 3) 23 [.m (.fro (webD m ts))] u = .ok (.fro (optRow (firstRing ts m))) u := by
  have m0 := W.lo
  rw [callF_at (fn := ⟨1, N23.length, b23⟩) rfl rfl]
  show fin (evSs (callF prog (n + 2)) b23 ⟨[.m (.fro (webD m ts)), .un, .un, .un, .un, .un], u⟩) = _
  have hr : (rangeI 0 m).length < 16777216 := by rw [len_rangeI]; omega
  rw [b23, asg_p (.fro (.list ((bareK ts m 0).map row))) rfl (by simp [pev, pXs, pAnd, pAnd1, pOr, pOr1, pXo, pRg, pIfs, pI, got, goti, kDIn, kDGet, kDSrt, dctS, M.isD, keyD, leafK, leafsK, pfrz, pfrzs, pTup, pLst, pargs, pcall, resM, ptst, pfit_ok, pone, pown, pguard, pint, S.at, M.own, truth, asBool, kBin, kCmp, kIsN, kNeg, kIx, kSl, kBi, kIsi, kSrt, kSeq, qRgI_ok, qRng_ok, kZip, kEnm_map, ofO, view, viewS, M.contS, M.cont, add_ok, add_tup, add_lst, sub_ok, ixD, slD, itemsD, isiD, views, List.range, List.range.loop, bindT, bindTs, wipeS, S.set, List.foldl, ↓obind_m, ↓pOver_m, Option.map_some, Option.map_none, ↓pMap_map, pMap_some, ↓pMap_nil, ↓pMap_cons, some_ite, obool_and, obool_or, fm_one, fm_ite, fm_iteD, fm_bool, boolsD_of, cmpD, dok, dokAll, dokAll_ints, dokAll_ties, dokAll_rows, line, hasD_nil, hasD_cons, hasD_int, hasD_tie, eqv_int, Bool.and_true, Bool.true_and, Bool.or_false, -List.map_take, -List.map_drop, -List.map_tail, -List.map_dropLast, nthD_0, nthD_1, nthD_2, qRgI_ok (lo := 0) (hi := m) (by omega) (by omega) (by omega) (by omega), hr, bareK, Function.comp_def])]
  have e0 : firstRing ts m = (((List.range (m.toNat - 1)).drop 0).flatMap (ringsAt ts m)).head? := by rw [List.drop_zero]; rfl
  rw [e0]
  refine for_w (v := .fro .none) PyData.int (rangeI 2 (m + 1)) (fun k s => ∃ a b : Sl, s = ⟨[.m (.fro (webD m ts)), .m (.fro (.list ((bareK ts m k).map row))), a, b, .un, .un], u⟩) (fun k => .ok (.fro (optRow (((List.range (m.toNat - 1)).drop k).flatMap (ringsAt ts m)).head?)) u) rfl (by simp [pev, pXs, pAnd, pAnd1, pOr, pOr1, pXo, pRg, pIfs, pI, got, goti, kDIn, kDGet, kDSrt, dctS, M.isD, keyD, leafK, leafsK, pfrz, pfrzs, pTup, pLst, pargs, pcall, resM, ptst, pfit_ok, pone, pown, pguard, pint, S.at, M.own, truth, asBool, kBin, kCmp, kIsN, kNeg, kIx, kSl, kBi, kIsi, kSrt, kSeq, qRgI_ok, qRng_ok, kZip, kEnm_map, ofO, view, viewS, M.contS, M.cont, add_ok, add_tup, add_lst, sub_ok, ixD, slD, itemsD, isiD, views, List.range, List.range.loop, bindT, bindTs, wipeS, S.set, List.foldl, ↓obind_m, ↓pOver_m, Option.map_some, Option.map_none, ↓pMap_map, pMap_some, ↓pMap_nil, ↓pMap_cons, some_ite, obool_and, obool_or, fm_one, fm_ite, fm_iteD, fm_bool, boolsD_of, cmpD, dok, dokAll, dokAll_ints, dokAll_ties, dokAll_rows, line, hasD_nil, hasD_cons, hasD_int, hasD_tie, eqv_int, Bool.and_true, Bool.true_and, Bool.or_false, -List.map_take, -List.map_drop, -List.map_tail, -List.map_dropLast, nthD_0, nthD_1, nthD_2, qRgI_ok (lo := 2) (hi := m + 1) (by omega) (by omega) (by omega) (by omega)]) ⟨_, _, rfl⟩ ?_ ?_
  · rintro k x s hx ⟨a, b, rfl⟩
    obtain ⟨h1, h2⟩ := rangeI_get hx
    have hk : k < m.toNat - 1 := by omega
    have hx : x = (k : Int) + 2 := by omega
    subst hx
    have q1 := bareK_len W hm (k := k) (by omega)
    have q2 := bareK_len W hm (k := k) (by omega)
    have e1 := bare_ways (n := n) (m := m) (ts := ts) (ws := bareK ts m k) W.len (fun w hw => by
      have := (bareK_mem W hw).1
      exact ⟨by intro e; subst e; simp at this, by omega⟩) q1 []
    have l1 : (bareK ts m (k + 1)).length < 9000000 := by
      rw [bareK]
      exact Nat.lt_of_le_of_lt (fm_len (k := 1000) (m := 8999) _ (fun w _ => bareG_len W.len w) (by omega)) (by omega)
    let s1 : S := ⟨[.m (.fro (webD m ts)), .m (.fro (.list ((bareK ts m (k + 1)).map row))), .m (.fro (.int ((k : Int) + 2))), b, .un, .un], u⟩
    have L := pev_lc (call := callF prog (n + 2)) (own := [5]) (t := .nm 5) (it := .seq (.var 1)) (ifs := .so (.and (.cons (.cmp .Gt (.var 2) (.int 3)) (.cons (.call 26 (.cons (.var 0) (.cons (.var 5) .nil))) .nil)))) (e := .var 5) (s := s1) (v := .fro (.list ((bareK ts m (k + 1)).map row))) (xs := bareK ts m (k + 1)) (enc := row) (fun w => if (decide (3 < k + 2) && isBare ts w) = true then [row w] else []) (by simp [pev, pXs, pAnd, pAnd1, pOr, pOr1, pXo, pRg, pIfs, pI, got, goti, kDIn, kDGet, kDSrt, dctS, M.isD, keyD, leafK, leafsK, pfrz, pfrzs, pTup, pLst, pargs, pcall, resM, ptst, pfit_ok, pone, pown, pguard, pint, S.at, M.own, truth, asBool, kBin, kCmp, kIsN, kNeg, kIx, kSl, kBi, kIsi, kSrt, kSeq, qRgI_ok, qRng_ok, kZip, kEnm_map, ofO, view, viewS, M.contS, M.cont, add_ok, add_tup, add_lst, sub_ok, ixD, slD, itemsD, isiD, views, List.range, List.range.loop, bindT, bindTs, wipeS, S.set, List.foldl, ↓obind_m, ↓pOver_m, Option.map_some, Option.map_none, ↓pMap_map, pMap_some, ↓pMap_nil, ↓pMap_cons, some_ite, obool_and, obool_or, fm_one, fm_ite, fm_iteD, fm_bool, boolsD_of, cmpD, dok, dokAll, dokAll_ints, dokAll_ties, dokAll_rows, line, hasD_nil, hasD_cons, hasD_int, hasD_tie, eqv_int, Bool.and_true, Bool.true_and, Bool.or_false, -List.map_take, -List.map_drop, -List.map_tail, -List.map_dropLast, nthD_0, nthD_1, nthD_2, s1]) (fun w hw => by
      have e3 := is_bare_ring (n := n + 1) (m := m) (ts := ts) (xs := w) (by rw [(bareK_mem W hw).1]; omega) []
      have e4 : decide (3 < (k : Int) + 2) = decide (3 < k + 2) := by rw [Bool.eq_iff_iff, decide_eq_true_eq, decide_eq_true_eq]; omega
      by_cases h3 : 3 < k + 2
      · have h4 : 3 < (k : Int) + 2 := by omega
        simp [pev, pXs, pAnd, pAnd1, pOr, pOr1, pXo, pRg, pIfs, pI, got, goti, kDIn, kDGet, kDSrt, dctS, M.isD, keyD, leafK, leafsK, pfrz, pfrzs, pTup, pLst, pargs, pcall, resM, ptst, pfit_ok, pone, pown, pguard, pint, S.at, M.own, truth, asBool, kBin, kCmp, kIsN, kNeg, kIx, kSl, kBi, kIsi, kSrt, kSeq, qRgI_ok, qRng_ok, kZip, kEnm_map, ofO, view, viewS, M.contS, M.cont, add_ok, add_tup, add_lst, sub_ok, ixD, slD, itemsD, isiD, views, List.range, List.range.loop, bindT, bindTs, wipeS, S.set, List.foldl, ↓obind_m, ↓pOver_m, Option.map_some, Option.map_none, ↓pMap_map, pMap_some, ↓pMap_nil, ↓pMap_cons, some_ite, obool_and, obool_or, fm_one, fm_ite, fm_iteD, fm_bool, boolsD_of, cmpD, dok, dokAll, dokAll_ints, dokAll_ties, dokAll_rows, line, hasD_nil, hasD_cons, hasD_int, hasD_tie, eqv_int, Bool.and_true, Bool.true_and, Bool.or_false, -List.map_take, -List.map_drop, -List.map_tail, -List.map_dropLast, nthD_0, nthD_1, nthD_2, s1, e3, h3, h4]
      · have h4 : ¬ 3 < (k : Int) + 2 := by omega
        simp [pev, pXs, pAnd, pAnd1, pOr, pOr1, pXo, pRg, pIfs, pI, got, goti, kDIn, kDGet, kDSrt, dctS, M.isD, keyD, leafK, leafsK, pfrz, pfrzs, pTup, pLst, pargs, pcall, resM, ptst, pfit_ok, pone, pown, pguard, pint, S.at, M.own, truth, asBool, kBin, kCmp, kIsN, kNeg, kIx, kSl, kBi, kIsi, kSrt, kSeq, qRgI_ok, qRng_ok, kZip, kEnm_map, ofO, view, viewS, M.contS, M.cont, add_ok, add_tup, add_lst, sub_ok, ixD, slD, itemsD, isiD, views, List.range, List.range.loop, bindT, bindTs, wipeS, S.set, List.foldl, ↓obind_m, ↓pOver_m, Option.map_some, Option.map_none, ↓pMap_map, pMap_some, ↓pMap_nil, ↓pMap_cons, some_ite, obool_and, obool_or, fm_one, fm_ite, fm_iteD, fm_bool, boolsD_of, cmpD, dok, dokAll, dokAll_ints, dokAll_ties, dokAll_rows, line, hasD_nil, hasD_cons, hasD_int, hasD_tie, eqv_int, Bool.and_true, Bool.true_and, Bool.or_false, -List.map_take, -List.map_drop, -List.map_tail, -List.map_dropLast, nthD_0, nthD_1, nthD_2, s1, h3, h4]) (by rw [fm_bool, List.length_map]; exact flen _ (by simp only [line]; omega))
    rw [fm_bool] at L
    have eR : (bareK ts m (k + 1)).filter (fun w => decide (3 < k + 2) && isBare ts w) = ringsAt ts m k := by
      rw [ringsAt]
      by_cases h3 : 3 < k + 2
      · rw [if_pos h3, ← bare_filter W]; simp [h3]
      · rw [if_neg h3]; simp [h3]
    rw [eR] at L
    have ed : (List.range (m.toNat - 1)).drop k = k :: (List.range (m.toNat - 1)).drop (k + 1) := by
      rw [List.drop_eq_getElem_cons (by simpa using hk)]; simp
    refine ⟨⟨[.m (.fro (webD m ts)), .m (.fro (.list ((bareK ts m k).map row))), .m (.fro (.int ((k : Int) + 2))), b, .un, .un], u⟩, rfl, ?_⟩
    rw [b23_0, asg_p (.fro (.list ((bareK ts m (k + 1)).map row))) rfl (by simp [pev, pXs, pAnd, pAnd1, pOr, pOr1, pXo, pRg, pIfs, pI, got, goti, kDIn, kDGet, kDSrt, dctS, M.isD, keyD, leafK, leafsK, pfrz, pfrzs, pTup, pLst, pargs, pcall, resM, ptst, pfit_ok, pone, pown, pguard, pint, S.at, M.own, truth, asBool, kBin, kCmp, kIsN, kNeg, kIx, kSl, kBi, kIsi, kSrt, kSeq, qRgI_ok, qRng_ok, kZip, kEnm_map, ofO, view, viewS, M.contS, M.cont, add_ok, add_tup, add_lst, sub_ok, ixD, slD, itemsD, isiD, views, List.range, List.range.loop, bindT, bindTs, wipeS, S.set, List.foldl, ↓obind_m, ↓pOver_m, Option.map_some, Option.map_none, ↓pMap_map, pMap_some, ↓pMap_nil, ↓pMap_cons, some_ite, obool_and, obool_or, fm_one, fm_ite, fm_iteD, fm_bool, boolsD_of, cmpD, dok, dokAll, dokAll_ints, dokAll_ties, dokAll_rows, line, hasD_nil, hasD_cons, hasD_int, hasD_tie, eqv_int, Bool.and_true, Bool.true_and, Bool.or_false, -List.map_take, -List.map_drop, -List.map_tail, -List.map_dropLast, nthD_0, nthD_1, nthD_2, e1, bareK])]
    rw [show (⟨[.m (.fro (webD m ts)), .m (.fro (.list ((bareK ts m k).map row))), .m (.fro (.int ((k : Int) + 2))), b, .un, .un], u⟩ : S).set 1 (.fro (.list ((bareK ts m (k + 1)).map row))) = s1 from rfl, asg_p _ rfl (pev_frz L)]
    rw [show s1.set 3 (.fro (.list ((ringsAt ts m k).map row))) = ⟨[.m (.fro (webD m ts)), .m (.fro (.list ((bareK ts m (k + 1)).map row))), .m (.fro (.int ((k : Int) + 2))), .m (.fro (.list ((ringsAt ts m k).map row))), .un, .un], u⟩ from rfl]
    rw [ite_p (decide (ringsAt ts m k ≠ [])) rfl (by simp [pev, pXs, pAnd, pAnd1, pOr, pOr1, pXo, pRg, pIfs, pI, got, goti, kDIn, kDGet, kDSrt, dctS, M.isD, keyD, leafK, leafsK, pfrz, pfrzs, pTup, pLst, pargs, pcall, resM, ptst, pfit_ok, pone, pown, pguard, pint, S.at, M.own, truth, asBool, kBin, kCmp, kIsN, kNeg, kIx, kSl, kBi, kIsi, kSrt, kSeq, qRgI_ok, qRng_ok, kZip, kEnm_map, ofO, view, viewS, M.contS, M.cont, add_ok, add_tup, add_lst, sub_ok, ixD, slD, itemsD, isiD, views, List.range, List.range.loop, bindT, bindTs, wipeS, S.set, List.foldl, ↓obind_m, ↓pOver_m, Option.map_some, Option.map_none, ↓pMap_map, pMap_some, ↓pMap_nil, ↓pMap_cons, some_ite, obool_and, obool_or, fm_one, fm_ite, fm_iteD, fm_bool, boolsD_of, cmpD, dok, dokAll, dokAll_ints, dokAll_ties, dokAll_rows, line, hasD_nil, hasD_cons, hasD_int, hasD_tie, eqv_int, Bool.and_true, Bool.true_and, Bool.or_false, -List.map_take, -List.map_drop, -List.map_tail, -List.map_dropLast, nthD_0, nthD_1, nthD_2, PyData.eqv, eqv_nil])]
    cases hR : ringsAt ts m k with
    | nil =>
      refine .inr ⟨⟨[.m (.fro (webD m ts)), .m (.fro (.list ((bareK ts m (k + 1)).map row))), .m (.fro (.int ((k : Int) + 2))), .m (.fro (.list [])), .un, .un], u⟩, rfl, ⟨_, _, rfl⟩, ?_⟩
      rw [ed, List.flatMap_cons, hR, List.nil_append]
    | cons w ws =>
      refine .inl ⟨.fro (row w), ⟨[.m (.fro (webD m ts)), .m (.fro (.list ((bareK ts m (k + 1)).map row))), .m (.fro (.int ((k : Int) + 2))), .m (.fro (.list ((w :: ws).map row))), .un, .un], u⟩, ?_, ?_⟩
      · simp only [ne_eq, reduceCtorEq, not_false_eq_true, decide_true, if_true]
        rw [ret_p (.fro (row w)) rfl (by simp [pev, pXs, pAnd, pAnd1, pOr, pOr1, pXo, pRg, pIfs, pI, got, goti, kDIn, kDGet, kDSrt, dctS, M.isD, keyD, leafK, leafsK, pfrz, pfrzs, pTup, pLst, pargs, pcall, resM, ptst, pfit_ok, pone, pown, pguard, pint, S.at, M.own, truth, asBool, kBin, kCmp, kIsN, kNeg, kIx, kSl, kBi, kIsi, kSrt, kSeq, qRgI_ok, qRng_ok, kZip, kEnm_map, ofO, view, viewS, M.contS, M.cont, add_ok, add_tup, add_lst, sub_ok, ixD, slD, itemsD, isiD, views, List.range, List.range.loop, bindT, bindTs, wipeS, S.set, List.foldl, ↓obind_m, ↓pOver_m, Option.map_some, Option.map_none, ↓pMap_map, pMap_some, ↓pMap_nil, ↓pMap_cons, some_ite, obool_and, obool_or, fm_one, fm_ite, fm_iteD, fm_bool, boolsD_of, cmpD, dok, dokAll, dokAll_ints, dokAll_ties, dokAll_rows, line, hasD_nil, hasD_cons, hasD_int, hasD_tie, eqv_int, Bool.and_true, Bool.true_and, Bool.or_false, -List.map_take, -List.map_drop, -List.map_tail, -List.map_dropLast, nthD_0, nthD_1, nthD_2])]
        rfl
      · rw [ed, List.flatMap_cons, hR]
        rfl
  · rintro s ⟨a, b, rfl⟩
    rw [ret_p (.fro .none) rfl (by simp [pev, pXs, pAnd, pAnd1, pOr, pOr1, pXo, pRg, pIfs, pI, got, goti, kDIn, kDGet, kDSrt, dctS, M.isD, keyD, leafK, leafsK, pfrz, pfrzs, pTup, pLst, pargs, pcall, resM, ptst, pfit_ok, pone, pown, pguard, pint, S.at, M.own, truth, asBool, kBin, kCmp, kIsN, kNeg, kIx, kSl, kBi, kIsi, kSrt, kSeq, qRgI_ok, qRng_ok, kZip, kEnm_map, ofO, view, viewS, M.contS, M.cont, add_ok, add_tup, add_lst, sub_ok, ixD, slD, itemsD, isiD, views, List.range, List.range.loop, bindT, bindTs, wipeS, S.set, List.foldl, ↓obind_m, ↓pOver_m, Option.map_some, Option.map_none, ↓pMap_map, pMap_some, ↓pMap_nil, ↓pMap_cons, some_ite, obool_and, obool_or, fm_one, fm_ite, fm_iteD, fm_bool, boolsD_of, cmpD, dok, dokAll, dokAll_ints, dokAll_ties, dokAll_rows, line, hasD_nil, hasD_cons, hasD_int, hasD_tie, eqv_int, Bool.and_true, Bool.true_and, Bool.or_false, -List.map_take, -List.map_drop, -List.map_tail, -List.map_dropLast, nthD_0, nthD_1, nthD_2])]
    rw [len_rangeI, List.drop_eq_nil_of_le (by simp; omega)]
    rfl
--# bare_ring bare_ring_in
theorem bare_ring {n : Nat} {m : Int} {ts : List (Int × Int)} (W : Web m ts) (hm : m ≤ 6) (u : List M) : callF prog (n + 9) 12 [.m (.fro (webD m ts))] u = .ok (.fro (optRow (firstRing ts m))) u := by
  have e1 := check_web (n := n) W []
  have e2 := bare_ring_in (n := n + 5) W hm []
  rw [callF_at (fn := ⟨1, N12.length, b12⟩) rfl rfl]
  show fin (evSs (callF prog (n + 8)) b12 ⟨[.m (.fro (webD m ts))], u⟩) = _
  rw [b12, expr_p (.m (.fro .none)) rfl (by simp [pev, pXs, pAnd, pAnd1, pOr, pOr1, pXo, pRg, pIfs, pI, got, goti, kDIn, kDGet, kDSrt, dctS, M.isD, keyD, leafK, leafsK, pfrz, pfrzs, pTup, pLst, pargs, pcall, resM, ptst, pfit_ok, pone, pown, pguard, pint, S.at, M.own, truth, asBool, kBin, kCmp, kIsN, kNeg, kIx, kSl, kBi, kIsi, kSrt, kSeq, qRgI_ok, qRng_ok, kZip, kEnm_map, ofO, view, viewS, M.contS, M.cont, add_ok, add_tup, add_lst, sub_ok, ixD, slD, itemsD, isiD, views, List.range, List.range.loop, bindT, bindTs, wipeS, S.set, List.foldl, ↓obind_m, ↓pOver_m, Option.map_some, Option.map_none, ↓pMap_map, pMap_some, ↓pMap_nil, ↓pMap_cons, some_ite, obool_and, obool_or, fm_one, fm_ite, fm_iteD, fm_bool, boolsD_of, cmpD, dok, dokAll, dokAll_ints, dokAll_ties, dokAll_rows, line, hasD_nil, hasD_cons, hasD_int, hasD_tie, eqv_int, Bool.and_true, Bool.true_and, Bool.or_false, -List.map_take, -List.map_drop, -List.map_tail, -List.map_dropLast, nthD_0, nthD_1, nthD_2, e1]), ret_p (.fro (optRow (firstRing ts m))) rfl (by simp [pev, pXs, pAnd, pAnd1, pOr, pOr1, pXo, pRg, pIfs, pI, got, goti, kDIn, kDGet, kDSrt, dctS, M.isD, keyD, leafK, leafsK, pfrz, pfrzs, pTup, pLst, pargs, pcall, resM, ptst, pfit_ok, pone, pown, pguard, pint, S.at, M.own, truth, asBool, kBin, kCmp, kIsN, kNeg, kIx, kSl, kBi, kIsi, kSrt, kSeq, qRgI_ok, qRng_ok, kZip, kEnm_map, ofO, view, viewS, M.contS, M.cont, add_ok, add_tup, add_lst, sub_ok, ixD, slD, itemsD, isiD, views, List.range, List.range.loop, bindT, bindTs, wipeS, S.set, List.foldl, ↓obind_m, ↓pOver_m, Option.map_some, Option.map_none, ↓pMap_map, pMap_some, ↓pMap_nil, ↓pMap_cons, some_ite, obool_and, obool_or, fm_one, fm_ite, fm_iteD, fm_bool, boolsD_of, cmpD, dok, dokAll, dokAll_ints, dokAll_ties, dokAll_rows, line, hasD_nil, hasD_cons, hasD_int, hasD_tie, eqv_int, Bool.and_true, Bool.true_and, Bool.or_false, -List.map_take, -List.map_drop, -List.map_tail, -List.map_dropLast, nthD_0, nthD_1, nthD_2, e2])]
  rfl
theorem is_chordal {n : Nat} {m : Int} {ts : List (Int × Int)} (W : Web m ts) (hm : m ≤ 6) (u : List M) : callF prog (n + 9) 27 [.m (.fro (webD m ts))] u = .ok (.fro (.bool (decide (firstRing ts m = none)))) u := by
  have e1 := check_web (n := n) W []
  have e2 := bare_ring_in (n := n + 5) W hm []
  rw [callF_at (fn := ⟨1, N27.length, b27⟩) rfl rfl]
  show fin (evSs (callF prog (n + 8)) b27 ⟨[.m (.fro (webD m ts))], u⟩) = _
  rw [b27, expr_p (.m (.fro .none)) rfl (by simp [pev, pXs, pAnd, pAnd1, pOr, pOr1, pXo, pRg, pIfs, pI, got, goti, kDIn, kDGet, kDSrt, dctS, M.isD, keyD, leafK, leafsK, pfrz, pfrzs, pTup, pLst, pargs, pcall, resM, ptst, pfit_ok, pone, pown, pguard, pint, S.at, M.own, truth, asBool, kBin, kCmp, kIsN, kNeg, kIx, kSl, kBi, kIsi, kSrt, kSeq, qRgI_ok, qRng_ok, kZip, kEnm_map, ofO, view, viewS, M.contS, M.cont, add_ok, add_tup, add_lst, sub_ok, ixD, slD, itemsD, isiD, views, List.range, List.range.loop, bindT, bindTs, wipeS, S.set, List.foldl, ↓obind_m, ↓pOver_m, Option.map_some, Option.map_none, ↓pMap_map, pMap_some, ↓pMap_nil, ↓pMap_cons, some_ite, obool_and, obool_or, fm_one, fm_ite, fm_iteD, fm_bool, boolsD_of, cmpD, dok, dokAll, dokAll_ints, dokAll_ties, dokAll_rows, line, hasD_nil, hasD_cons, hasD_int, hasD_tie, eqv_int, Bool.and_true, Bool.true_and, Bool.or_false, -List.map_take, -List.map_drop, -List.map_tail, -List.map_dropLast, nthD_0, nthD_1, nthD_2, e1]), ret_p (.fro (.bool (decide (firstRing ts m = none)))) rfl (by
    cases hf : firstRing ts m <;> rw [hf] at e2 <;> simp [pev, pXs, pAnd, pAnd1, pOr, pOr1, pXo, pRg, pIfs, pI, got, goti, kDIn, kDGet, kDSrt, dctS, M.isD, keyD, leafK, leafsK, pfrz, pfrzs, pTup, pLst, pargs, pcall, resM, ptst, pfit_ok, pone, pown, pguard, pint, S.at, M.own, truth, asBool, kBin, kCmp, kIsN, kNeg, kIx, kSl, kBi, kIsi, kSrt, kSeq, qRgI_ok, qRng_ok, kZip, kEnm_map, ofO, view, viewS, M.contS, M.cont, add_ok, add_tup, add_lst, sub_ok, ixD, slD, itemsD, isiD, views, List.range, List.range.loop, bindT, bindTs, wipeS, S.set, List.foldl, ↓obind_m, ↓pOver_m, Option.map_some, Option.map_none, ↓pMap_map, pMap_some, ↓pMap_nil, ↓pMap_cons, some_ite, obool_and, obool_or, fm_one, fm_ite, fm_iteD, fm_bool, boolsD_of, cmpD, dok, dokAll, dokAll_ints, dokAll_ties, dokAll_rows, line, hasD_nil, hasD_cons, hasD_int, hasD_tie, eqv_int, Bool.and_true, Bool.true_and, Bool.or_false, -List.map_take, -List.map_drop, -List.map_tail, -List.map_dropLast, nthD_0, nthD_1, nthD_2, e2, optRow])]
  rfl
end K82
namespace K82
open PySem Ax
--# _law_is_ring
def prevI (n i : Nat) : Nat := if i = 0 then n - 1 else i - 1
def dueL (w : List Int) : List (Int × Int) := (List.range w.length).map fun i => mm (w.getD (prevI w.length i) 0) (w.getD i 0)
def ownL (ts : List (Int × Int)) (w : List Int) : List (Int × Int) := ts.filter fun p => decide (p.1 ∈ w) && decide (p.2 ∈ w)
def isRingL (ts : List (Int × Int)) (w : List Int) : Bool := decide (sortP (dueL w) = sortP (ownL ts w))
theorem eqv_ties : ∀ xs ys : List (Int × Int), PyData.eqvAll (xs.map tie) (ys.map tie) = decide (xs = ys)
  | [], [] => by simp [PyData.eqvAll]
  | [], y :: ys => by simp [PyData.eqvAll]
  | x :: xs, [] => by simp [PyData.eqvAll]
  | x :: xs, y :: ys => by
    rw [List.map_cons, List.map_cons, PyData.eqvAll, eqv_tie, eqv_ties, Bool.eq_iff_iff]
    simp
theorem law_is_ring {n : Nat} {m : Int} {ts : List (Int × Int)} {w : List Int} (hl : ts.length < 1000) (hw : w.length < 100) (h0 : w ≠ []) (u : List M) :
    callF prog (n + 1) 10 [.m (.fro (webD m ts)), .m (.fro (row w))] u = .ok (.fro (.bool (isRingL ts w))) u := by
  rw [callF_at (fn := ⟨2, N10.length, b10⟩) rfl rfl]
  show fin (evSs (callF prog n) b10 ⟨[.m (.fro (webD m ts)), .m (.fro (row w)), .un, .un, .un, .un, .un], u⟩) = _
  rw [b10, asgN2_p (.fro (.int w.length)) (.lst []) rfl rfl (by simp [pev, pXs, pAnd, pAnd1, pOr, pOr1, pXo, pRg, pIfs, pI, got, goti, kDIn, kDGet, kDSrt, dctS, M.isD, keyD, leafK, leafsK, pfrz, pfrzs, pTup, pLst, pargs, pcall, resM, ptst, pfit_ok, pone, pown, pguard, pint, S.at, M.own, truth, asBool, kBin, kCmp, kIsN, kNeg, kIx, kSl, kBi, kIsi, kSrt, kSeq, qRgI_ok, qRng_ok, kZip, kEnm_map, ofO, view, viewS, M.contS, M.cont, add_ok, add_tup, add_lst, sub_ok, ixD, slD, itemsD, isiD, views, List.range, List.range.loop, bindT, bindTs, wipeS, S.set, List.foldl, ↓obind_m, ↓pOver_m, Option.map_some, Option.map_none, ↓pMap_map, pMap_some, ↓pMap_nil, ↓pMap_cons, some_ite, obool_and, obool_or, fm_one, fm_ite, fm_iteD, fm_bool, boolsD_of, cmpD, dok, dokAll, dokAll_ints, dokAll_ties, dokAll_rows, line, hasD_nil, hasD_cons, hasD_int, hasD_tie, eqv_int, Bool.and_true, Bool.true_and, Bool.or_false, -List.map_take, -List.map_drop, -List.map_tail, -List.map_dropLast, nthD_0, nthD_1, nthD_2, biD]) (by simp [pev, pXs, pAnd, pAnd1, pOr, pOr1, pXo, pRg, pIfs, pI, got, goti, kDIn, kDGet, kDSrt, dctS, M.isD, keyD, leafK, leafsK, pfrz, pfrzs, pTup, pLst, pargs, pcall, resM, ptst, pfit_ok, pone, pown, pguard, pint, S.at, M.own, truth, asBool, kBin, kCmp, kIsN, kNeg, kIx, kSl, kBi, kIsi, kSrt, kSeq, qRgI_ok, qRng_ok, kZip, kEnm_map, ofO, view, viewS, M.contS, M.cont, add_ok, add_tup, add_lst, sub_ok, ixD, slD, itemsD, isiD, views, List.range, List.range.loop, bindT, bindTs, wipeS, S.set, List.foldl, ↓obind_m, ↓pOver_m, Option.map_some, Option.map_none, ↓pMap_map, pMap_some, ↓pMap_nil, ↓pMap_cons, some_ite, obool_and, obool_or, fm_one, fm_ite, fm_iteD, fm_bool, boolsD_of, cmpD, dok, dokAll, dokAll_ints, dokAll_ties, dokAll_rows, line, hasD_nil, hasD_cons, hasD_int, hasD_tie, eqv_int, Bool.and_true, Bool.true_and, Bool.or_false, -List.map_take, -List.map_drop, -List.map_tail, -List.map_dropLast, nthD_0, nthD_1, nthD_2])]
  have h1 : 0 < w.length := List.length_pos_iff.mpr h0
  obtain ⟨s', ⟨a, rfl⟩, e⟩ := for_n (call := callF prog n) (as := _) (t := .nm 2) (it := .rng (.r1 (.var 4))) (b := b10_0) (v := .fro .none) PyData.int (rangeI 0 w.length) (fun k s => ∃ a : Sl, s = ⟨[.m (.fro (webD m ts)), .m (.fro (row w)), a, .un, .m (.fro (.int w.length)), .m (.lst (((dueL w).take k).map tie)), .un], u⟩)
    (s := ⟨[.m (.fro (webD m ts)), .m (.fro (row w)), .un, .un, .m (.fro (.int w.length)), .m (.lst []), .un], u⟩) rfl (by simp [pev, pXs, pAnd, pAnd1, pOr, pOr1, pXo, pRg, pIfs, pI, got, goti, kDIn, kDGet, kDSrt, dctS, M.isD, keyD, leafK, leafsK, pfrz, pfrzs, pTup, pLst, pargs, pcall, resM, ptst, pfit_ok, pone, pown, pguard, pint, S.at, M.own, truth, asBool, kBin, kCmp, kIsN, kNeg, kIx, kSl, kBi, kIsi, kSrt, kSeq, qRgI_ok, qRng_ok, kZip, kEnm_map, ofO, view, viewS, M.contS, M.cont, add_ok, add_tup, add_lst, sub_ok, ixD, slD, itemsD, isiD, views, List.range, List.range.loop, bindT, bindTs, wipeS, S.set, List.foldl, ↓obind_m, ↓pOver_m, Option.map_some, Option.map_none, ↓pMap_map, pMap_some, ↓pMap_nil, ↓pMap_cons, some_ite, obool_and, obool_or, fm_one, fm_ite, fm_iteD, fm_bool, boolsD_of, cmpD, dok, dokAll, dokAll_ints, dokAll_ties, dokAll_rows, line, hasD_nil, hasD_cons, hasD_int, hasD_tie, eqv_int, Bool.and_true, Bool.true_and, Bool.or_false, -List.map_take, -List.map_drop, -List.map_tail, -List.map_dropLast, nthD_0, nthD_1, nthD_2, qRgI_ok (lo := 0) (hi := (w.length : Int)) (by omega) (by omega) (by omega) (by omega)]) ⟨.un, by simp⟩ (by
      rintro k x s hx ⟨a, rfl⟩
      obtain ⟨h2, h3⟩ := rangeI_get hx
      have hx : x = (k : Int) := by omega
      subst hx
      have hk : k < w.length := by omega
      have hget : w[k]? = some w[k] := List.getElem?_eq_getElem hk
      have hp : nthD w ((k : Int) - 1) = some (w.getD (prevI w.length k) 0) := by
        unfold prevI
        by_cases h : k = 0
        · subst h
          show nthD w (-1) = _
          rw [nthD_last, if_pos rfl, List.getLast?_eq_getElem?, List.getD_eq_getElem?_getD, List.getElem?_eq_getElem (by omega)]
          rfl
        · rw [if_neg h, show (k : Int) - 1 = ((k - 1 : Nat) : Int) by omega, nthD_nat, List.getD_eq_getElem?_getD, List.getElem?_eq_getElem (by omega)]
          rfl
      have hd : (dueL w)[k]? = some (mm (w.getD (prevI w.length k) 0) w[k]) := by
        rw [dueL, List.getElem?_map, List.getElem?_range hk]
        simp [List.getD_eq_getElem?_getD, hget]
      refine ⟨⟨[.m (.fro (webD m ts)), .m (.fro (row w)), .m (.fro (.int k)), .un, .m (.fro (.int w.length)), .m (.lst (((dueL w).take k).map tie)), .un], u⟩, ⟨[.m (.fro (webD m ts)), .m (.fro (row w)), .m (.fro (.int k)), .un, .m (.fro (.int w.length)), .m (.lst (((dueL w).take (k + 1)).map tie)), .un], u⟩, rfl, ?_, _, rfl⟩
      rw [b10_0, app_p (ds := ((dueL w).take k).map tie) (tie (mm (w.getD (prevI w.length k) 0) w[k])) rfl rfl (by simp [pev, pXs, pAnd, pAnd1, pOr, pOr1, pXo, pRg, pIfs, pI, got, goti, kDIn, kDGet, kDSrt, dctS, M.isD, keyD, leafK, leafsK, pfrz, pfrzs, pTup, pLst, pargs, pcall, resM, ptst, pfit_ok, pone, pown, pguard, pint, S.at, M.own, truth, asBool, kBin, kCmp, kIsN, kNeg, kIx, kSl, kBi, kIsi, kSrt, kSeq, qRgI_ok, qRng_ok, kZip, kEnm_map, ofO, view, viewS, M.contS, M.cont, add_ok, add_tup, add_lst, sub_ok, ixD, slD, itemsD, isiD, views, List.range, List.range.loop, bindT, bindTs, wipeS, S.set, List.foldl, ↓obind_m, ↓pOver_m, Option.map_some, Option.map_none, ↓pMap_map, pMap_some, ↓pMap_nil, ↓pMap_cons, some_ite, obool_and, obool_or, fm_one, fm_ite, fm_iteD, fm_bool, boolsD_of, cmpD, dok, dokAll, dokAll_ints, dokAll_ties, dokAll_rows, line, hasD_nil, hasD_cons, hasD_int, hasD_tie, eqv_int, Bool.and_true, Bool.true_and, Bool.or_false, -List.map_take, -List.map_drop, -List.map_tail, -List.map_dropLast, nthD_0, nthD_1, nthD_2, biD, nthD_map, nthD_nat, hget, hp, mm]) (by rw [List.length_map, List.length_take]; simp only [line]; omega), take_next hd]
      simp [S.put, evSs])
  rw [len_rangeI, List.take_of_length_le (by simp [dueL])] at e
  have f1 : ∀ p, (ts.filter p).length < 16777216 := fun p => flen p (by omega)
  have g1 : srtD (.pr .int .int) ((dueL w).map tie) = some ((sortP (dueL w)).map tie) := srtD_tie _ (by simp [dueL]; omega)
  have g2 : srtD (.pr .int .int) ((ownL ts w).map tie) = some ((sortP (ownL ts w)).map tie) := srtD_tie _ (f1 _)
  show fin (evSs _ _ ⟨[.m (.fro (webD m ts)), .m (.fro (row w)), .un, .un, .m (.fro (.int w.length)), .m (.lst []), .un], u⟩) = _
  rw [e, asg_p (.fro (.list ((ownL ts w).map tie))) rfl (by simp [pev, pXs, pAnd, pAnd1, pOr, pOr1, pXo, pRg, pIfs, pI, got, goti, kDIn, kDGet, kDSrt, dctS, M.isD, keyD, leafK, leafsK, pfrz, pfrzs, pTup, pLst, pargs, pcall, resM, ptst, pfit_ok, pone, pown, pguard, pint, S.at, M.own, truth, asBool, kBin, kCmp, kIsN, kNeg, kIx, kSl, kBi, kIsi, kSrt, kSeq, qRgI_ok, qRng_ok, kZip, kEnm_map, ofO, view, viewS, M.contS, M.cont, add_ok, add_tup, add_lst, sub_ok, ixD, slD, itemsD, isiD, views, List.range, List.range.loop, bindT, bindTs, wipeS, S.set, List.foldl, ↓obind_m, ↓pOver_m, Option.map_some, Option.map_none, ↓pMap_map, pMap_some, ↓pMap_nil, ↓pMap_cons, some_ite, obool_and, obool_or, fm_one, fm_ite, fm_iteD, fm_bool, boolsD_of, cmpD, dok, dokAll, dokAll_ints, dokAll_ties, dokAll_rows, line, hasD_nil, hasD_cons, hasD_int, hasD_tie, eqv_int, Bool.and_true, Bool.true_and, Bool.or_false, -List.map_take, -List.map_drop, -List.map_tail, -List.map_dropLast, nthD_0, nthD_1, nthD_2, f1, ownL])]
  show fin (evSs _ _ ⟨[.m (.fro (webD m ts)), .m (.fro (row w)), a, .m (.fro (.list ((ownL ts w).map tie))), .m (.fro (.int w.length)), .m (.lst ((dueL w).map tie)), .un], u⟩) = _
  rw [ret_p (.fro (.bool (isRingL ts w))) rfl (by simp [pev, pXs, pAnd, pAnd1, pOr, pOr1, pXo, pRg, pIfs, pI, got, goti, kDIn, kDGet, kDSrt, dctS, M.isD, keyD, leafK, leafsK, pfrz, pfrzs, pTup, pLst, pargs, pcall, resM, ptst, pfit_ok, pone, pown, pguard, pint, S.at, M.own, truth, asBool, kBin, kCmp, kIsN, kNeg, kIx, kSl, kBi, kIsi, kSrt, kSeq, qRgI_ok, qRng_ok, kZip, kEnm_map, ofO, view, viewS, M.contS, M.cont, add_ok, add_tup, add_lst, sub_ok, ixD, slD, itemsD, isiD, views, List.range, List.range.loop, bindT, bindTs, wipeS, S.set, List.foldl, ↓obind_m, ↓pOver_m, Option.map_some, Option.map_none, ↓pMap_map, pMap_some, ↓pMap_nil, ↓pMap_cons, some_ite, obool_and, obool_or, fm_one, fm_ite, fm_iteD, fm_bool, boolsD_of, cmpD, dok, dokAll, dokAll_ints, dokAll_ties, dokAll_rows, line, hasD_nil, hasD_cons, hasD_int, hasD_tie, eqv_int, Bool.and_true, Bool.true_and, Bool.or_false, -List.map_take, -List.map_drop, -List.map_tail, -List.map_dropLast, nthD_0, nthD_1, nthD_2, g1, g2, PyData.eqv, eqv_ties, isRingL])]
  rfl
--# _law_rings _law_is_ring
theorem lawK_len6 {m : Int} {ts : List (Int × Int)} (hm : m ≤ 6) {k : Nat} (hk : k ≤ 5) : (lawK ts m k).length ≤ 46656 := Nat.le_trans (lawK_len hm k) (Nat.le_trans (Nat.pow_le_pow_right (by omega) (show k + 1 ≤ 6 by omega)) (by decide))
def lawRingsAt (ts : List (Int × Int)) (m : Int) (j : Nat) : List (List Int) := if 3 < j + 2 then (lawK ts m (j + 1)).filter (isRingL ts) else []
def lawRings (ts : List (Int × Int)) (m : Int) (k : Nat) : List (List Int) := (List.range k).flatMap (lawRingsAt ts m)
theorem lawG_len {m : Int} {ts : List (Int × Int)} (hm : m ≤ 6) (w : List Int) : (lawG ts m w).length ≤ 6 := by
  rw [lawG, List.length_map]; exact Nat.le_trans (List.length_filter_le _ _) (by rw [len_rangeI]; omega)
theorem rings_inner {n : Nat} {m : Int} {ts : List (Int × Int)} {k : Nat} {a c : Sl} {b : M} (m0 : 0 ≤ m) (hm : m ≤ 6) (hl : ts.length < 1000) (hk : k ≤ 4) (as : Sts) (u : List M) :
    ∃ c' : Sl, evSs (callF prog (n + 1)) (.cons (.for_ (.nm 5) (.seq (.var 2)) b9_1) as) ⟨[.m (.fro (webD m ts)), a, .m (.fro (.list ((lawK ts m k).map row))), .m b, .m (.lst []), c, .un, .un], u⟩ =
      evSs (callF prog (n + 1)) as ⟨[.m (.fro (webD m ts)), a, .m (.fro (.list ((lawK ts m k).map row))), .m b, .m (.lst ((lawK ts m (k + 1)).map row)), c', .un, .un], u⟩ := by
  have hf : ∀ p, ((rangeI 0 m).filter p).length < 16777216 := fun p => flen p (by rw [len_rangeI]; omega)
  obtain ⟨s', ⟨c', rfl⟩, e⟩ := for_n (call := callF prog (n + 1)) (as := as) (t := .nm 5) (it := .seq (.var 2)) (b := b9_1) (v := .fro (.list ((lawK ts m k).map row))) row (lawK ts m k) (fun j s => ∃ c : Sl, s = ⟨[.m (.fro (webD m ts)), a, .m (.fro (.list ((lawK ts m k).map row))), .m b, .m (.lst ((((lawK ts m k).take j).flatMap (lawG ts m)).map row)), c, .un, .un], u⟩)
    (s := ⟨[.m (.fro (webD m ts)), a, .m (.fro (.list ((lawK ts m k).map row))), .m b, .m (.lst []), c, .un, .un], u⟩) rfl (by simp [pev, pXs, pAnd, pAnd1, pOr, pOr1, pXo, pRg, pIfs, pI, got, goti, kDIn, kDGet, kDSrt, dctS, M.isD, keyD, leafK, leafsK, pfrz, pfrzs, pTup, pLst, pargs, pcall, resM, ptst, pfit_ok, pone, pown, pguard, pint, S.at, M.own, truth, asBool, kBin, kCmp, kIsN, kNeg, kIx, kSl, kBi, kIsi, kSrt, kSeq, qRgI_ok, qRng_ok, kZip, kEnm_map, ofO, view, viewS, M.contS, M.cont, add_ok, add_tup, add_lst, sub_ok, ixD, slD, itemsD, isiD, views, List.range, List.range.loop, bindT, bindTs, wipeS, S.set, List.foldl, ↓obind_m, ↓pOver_m, Option.map_some, Option.map_none, ↓pMap_map, pMap_some, ↓pMap_nil, ↓pMap_cons, some_ite, obool_and, obool_or, fm_one, fm_ite, fm_iteD, fm_bool, boolsD_of, cmpD, dok, dokAll, dokAll_ints, dokAll_ties, dokAll_rows, line, hasD_nil, hasD_cons, hasD_int, hasD_tie, eqv_int, Bool.and_true, Bool.true_and, Bool.or_false, -List.map_take, -List.map_drop, -List.map_tail, -List.map_dropLast, nthD_0, nthD_1, nthD_2]) ⟨c, by simp⟩ (by
      rintro j w s hw ⟨c, rfl⟩
      obtain ⟨w1, w2, w3⟩ := lawK_mem (List.mem_of_getElem? hw)
      obtain ⟨z, hz⟩ : ∃ z, w.getLast? = some z := by
        cases w with
        | nil => simp at w1
        | cons x xs => exact ⟨_, List.getLast?_cons⟩
      have l1 : (((lawK ts m k).take j).flatMap (lawG ts m)).length ≤ 46656 * 6 := fm_len _ (fun w _ => lawG_len hm w) (Nat.le_trans (by rw [List.length_take]; exact Nat.min_le_right _ _) (lawK_len6 hm (by omega)))
      have l2 : w.length ≤ 16777215 := by omega
      have l3 := lawG_len (ts := ts) hm w
      refine ⟨⟨[.m (.fro (webD m ts)), a, .m (.fro (.list ((lawK ts m k).map row))), .m b, .m (.lst ((((lawK ts m k).take j).flatMap (lawG ts m)).map row)), .m (.fro (row w)), .un, .un], u⟩, ⟨[.m (.fro (webD m ts)), a, .m (.fro (.list ((lawK ts m k).map row))), .m b, .m (.lst ((((lawK ts m k).take (j + 1)).flatMap (lawG ts m)).map row)), .m (.fro (row w)), .un, .un], u⟩, rfl, ?_, _, rfl⟩
      rw [b9_1, ext_p (ds := (((lawK ts m k).take j).flatMap (lawG ts m)).map row) (es := (lawG ts m w).map row) rfl rfl (by
        simp [pev, pXs, pAnd, pAnd1, pOr, pOr1, pXo, pRg, pIfs, pI, got, goti, kDIn, kDGet, kDSrt, dctS, M.isD, keyD, leafK, leafsK, pfrz, pfrzs, pTup, pLst, pargs, pcall, resM, ptst, pfit_ok, pone, pown, pguard, pint, S.at, M.own, truth, asBool, kBin, kCmp, kIsN, kNeg, kIx, kSl, kBi, kIsi, kSrt, kSeq, qRgI_ok, qRng_ok, kZip, kEnm_map, ofO, view, viewS, M.contS, M.cont, add_ok, add_tup, add_lst, sub_ok, ixD, slD, itemsD, isiD, views, List.range, List.range.loop, bindT, bindTs, wipeS, S.set, List.foldl, ↓obind_m, ↓pOver_m, Option.map_some, Option.map_none, ↓pMap_map, pMap_some, ↓pMap_nil, ↓pMap_cons, some_ite, obool_and, obool_or, fm_one, fm_ite, fm_iteD, fm_bool, boolsD_of, cmpD, dok, dokAll, dokAll_ints, dokAll_ties, dokAll_rows, line, hasD_nil, hasD_cons, hasD_int, hasD_tie, eqv_int, Bool.and_true, Bool.true_and, Bool.or_false, -List.map_take, -List.map_drop, -List.map_tail, -List.map_dropLast, nthD_0, nthD_1, nthD_2, biD, qRgI_ok (lo := 0) (hi := m) (by omega) (by omega) (by omega) (by omega), hf, l2, lawG, hz, nthD_map, nthD_last, mm, Function.comp_def]) (by rw [List.length_map, List.length_map]; simp only [line]; omega), take_next hw, List.flatMap_append, List.map_append]
      simp [S.put, evSs])
  rw [List.take_length] at e
  exact ⟨c', e⟩
theorem law_rings {n : Nat} {m : Int} {ts : List (Int × Int)} (m0 : 0 ≤ m) (hm : m ≤ 6) (hl : ts.length < 1000) (u : List M) : callF prog (n + 2) 9 [.m (.fro (webD m ts))] u = .ok (.lst ((lawRings ts m (m.toNat - 1)).map row)) u := by
  have hr : (rangeI 0 m).length < 16777216 := by rw [len_rangeI]; omega
  rw [callF_at (fn := ⟨1, N9.length, b9⟩) rfl rfl]
  show fin (evSs (callF prog (n + 1)) b9 ⟨[.m (.fro (webD m ts)), .un, .un, .un, .un, .un, .un, .un], u⟩) = _
  rw [b9, asgN2_p (.fro (.list ((lawK ts m 0).map row))) (.lst []) rfl rfl (by simp [pev, pXs, pAnd, pAnd1, pOr, pOr1, pXo, pRg, pIfs, pI, got, goti, kDIn, kDGet, kDSrt, dctS, M.isD, keyD, leafK, leafsK, pfrz, pfrzs, pTup, pLst, pargs, pcall, resM, ptst, pfit_ok, pone, pown, pguard, pint, S.at, M.own, truth, asBool, kBin, kCmp, kIsN, kNeg, kIx, kSl, kBi, kIsi, kSrt, kSeq, qRgI_ok, qRng_ok, kZip, kEnm_map, ofO, view, viewS, M.contS, M.cont, add_ok, add_tup, add_lst, sub_ok, ixD, slD, itemsD, isiD, views, List.range, List.range.loop, bindT, bindTs, wipeS, S.set, List.foldl, ↓obind_m, ↓pOver_m, Option.map_some, Option.map_none, ↓pMap_map, pMap_some, ↓pMap_nil, ↓pMap_cons, some_ite, obool_and, obool_or, fm_one, fm_ite, fm_iteD, fm_bool, boolsD_of, cmpD, dok, dokAll, dokAll_ints, dokAll_ties, dokAll_rows, line, hasD_nil, hasD_cons, hasD_int, hasD_tie, eqv_int, Bool.and_true, Bool.true_and, Bool.or_false, -List.map_take, -List.map_drop, -List.map_tail, -List.map_dropLast, nthD_0, nthD_1, nthD_2, qRgI_ok (lo := 0) (hi := m) (by omega) (by omega) (by omega) (by omega), hr, lawK, Function.comp_def]) (by simp [pev, pXs, pAnd, pAnd1, pOr, pOr1, pXo, pRg, pIfs, pI, got, goti, kDIn, kDGet, kDSrt, dctS, M.isD, keyD, leafK, leafsK, pfrz, pfrzs, pTup, pLst, pargs, pcall, resM, ptst, pfit_ok, pone, pown, pguard, pint, S.at, M.own, truth, asBool, kBin, kCmp, kIsN, kNeg, kIx, kSl, kBi, kIsi, kSrt, kSeq, qRgI_ok, qRng_ok, kZip, kEnm_map, ofO, view, viewS, M.contS, M.cont, add_ok, add_tup, add_lst, sub_ok, ixD, slD, itemsD, isiD, views, List.range, List.range.loop, bindT, bindTs, wipeS, S.set, List.foldl, ↓obind_m, ↓pOver_m, Option.map_some, Option.map_none, ↓pMap_map, pMap_some, ↓pMap_nil, ↓pMap_cons, some_ite, obool_and, obool_or, fm_one, fm_ite, fm_iteD, fm_bool, boolsD_of, cmpD, dok, dokAll, dokAll_ints, dokAll_ties, dokAll_rows, line, hasD_nil, hasD_cons, hasD_int, hasD_tie, eqv_int, Bool.and_true, Bool.true_and, Bool.or_false, -List.map_take, -List.map_drop, -List.map_tail, -List.map_dropLast, nthD_0, nthD_1, nthD_2])]
  have lr : ∀ k, k ≤ 5 → (lawRings ts m k).length ≤ 5 * 46656 := fun k hk => by
    refine fm_len _ (fun j hj => ?_) (by simpa using hk)
    have hj := List.mem_range.mp hj
    rw [lawRingsAt]
    split
    · exact Nat.le_trans (List.length_filter_le _ _) (lawK_len6 hm (by omega))
    · simp
  obtain ⟨s', ⟨a, b, c, rfl⟩, e⟩ := for_n (call := callF prog (n + 1)) (as := .cons (.ret (.var 3)) .nil) (t := .nm 1) (it := .rng (.r2 (.int 2) (.bin .Add (.ix (.var 0) (.int 0)) (.int 1)))) (b := b9_0) (v := .fro .none) PyData.int (rangeI 2 (m + 1)) (fun k s => ∃ a b c : Sl, s = ⟨[.m (.fro (webD m ts)), a, .m (.fro (.list ((lawK ts m k).map row))), .m (.lst ((lawRings ts m k).map row)), b, c, .un, .un], u⟩)
    (s := ⟨[.m (.fro (webD m ts)), .un, .m (.fro (.list ((lawK ts m 0).map row))), .m (.lst []), .un, .un, .un, .un], u⟩) rfl (by simp [pev, pXs, pAnd, pAnd1, pOr, pOr1, pXo, pRg, pIfs, pI, got, goti, kDIn, kDGet, kDSrt, dctS, M.isD, keyD, leafK, leafsK, pfrz, pfrzs, pTup, pLst, pargs, pcall, resM, ptst, pfit_ok, pone, pown, pguard, pint, S.at, M.own, truth, asBool, kBin, kCmp, kIsN, kNeg, kIx, kSl, kBi, kIsi, kSrt, kSeq, qRgI_ok, qRng_ok, kZip, kEnm_map, ofO, view, viewS, M.contS, M.cont, add_ok, add_tup, add_lst, sub_ok, ixD, slD, itemsD, isiD, views, List.range, List.range.loop, bindT, bindTs, wipeS, S.set, List.foldl, ↓obind_m, ↓pOver_m, Option.map_some, Option.map_none, ↓pMap_map, pMap_some, ↓pMap_nil, ↓pMap_cons, some_ite, obool_and, obool_or, fm_one, fm_ite, fm_iteD, fm_bool, boolsD_of, cmpD, dok, dokAll, dokAll_ints, dokAll_ties, dokAll_rows, line, hasD_nil, hasD_cons, hasD_int, hasD_tie, eqv_int, Bool.and_true, Bool.true_and, Bool.or_false, -List.map_take, -List.map_drop, -List.map_tail, -List.map_dropLast, nthD_0, nthD_1, nthD_2, qRgI_ok (lo := 2) (hi := m + 1) (by omega) (by omega) (by omega) (by omega)]) ⟨.un, .un, .un, by simp [lawRings]⟩ (by
      rintro k x s hx ⟨a, b, c, rfl⟩
      obtain ⟨h1, h2⟩ := rangeI_get hx
      have hx : x = (k : Int) + 2 := by omega
      subst hx
      have hk : k ≤ 4 := by omega
      obtain ⟨c', e⟩ := rings_inner (n := n) (m := m) (ts := ts) (k := k) (a := .m (.fro (.int ((k : Int) + 2)))) (c := c) (b := .lst ((lawRings ts m k).map row)) m0 hm hl hk (.cons (.asg (.nm 2) (.var 4)) (.cons (.ite (.cmp .Gt (.var 1) (.int 3)) (.cons (.expr (.ext 3 (.lc [5] (.nm 5) (.seq (.var 2)) (.so (.call 10 (.cons (.var 0) (.cons (.var 5) .nil)))) (.var 5)))) .nil) .nil) .nil)) u
      refine ⟨⟨[.m (.fro (webD m ts)), .m (.fro (.int ((k : Int) + 2))), .m (.fro (.list ((lawK ts m k).map row))), .m (.lst ((lawRings ts m k).map row)), b, c, .un, .un], u⟩, ⟨[.m (.fro (webD m ts)), .m (.fro (.int ((k : Int) + 2))), .m (.fro (.list ((lawK ts m (k + 1)).map row))), .m (.lst ((lawRings ts m (k + 1)).map row)), .m (.fro (.list ((lawK ts m (k + 1)).map row))), c', .un, .un], u⟩, rfl, ?_, _, _, _, rfl⟩
      rw [b9_0, asg_p (.lst []) rfl (by simp [pev, pXs, pAnd, pAnd1, pOr, pOr1, pXo, pRg, pIfs, pI, got, goti, kDIn, kDGet, kDSrt, dctS, M.isD, keyD, leafK, leafsK, pfrz, pfrzs, pTup, pLst, pargs, pcall, resM, ptst, pfit_ok, pone, pown, pguard, pint, S.at, M.own, truth, asBool, kBin, kCmp, kIsN, kNeg, kIx, kSl, kBi, kIsi, kSrt, kSeq, qRgI_ok, qRng_ok, kZip, kEnm_map, ofO, view, viewS, M.contS, M.cont, add_ok, add_tup, add_lst, sub_ok, ixD, slD, itemsD, isiD, views, List.range, List.range.loop, bindT, bindTs, wipeS, S.set, List.foldl, ↓obind_m, ↓pOver_m, Option.map_some, Option.map_none, ↓pMap_map, pMap_some, ↓pMap_nil, ↓pMap_cons, some_ite, obool_and, obool_or, fm_one, fm_ite, fm_iteD, fm_bool, boolsD_of, cmpD, dok, dokAll, dokAll_ints, dokAll_ties, dokAll_rows, line, hasD_nil, hasD_cons, hasD_int, hasD_tie, eqv_int, Bool.and_true, Bool.true_and, Bool.or_false, -List.map_take, -List.map_drop, -List.map_tail, -List.map_dropLast, nthD_0, nthD_1, nthD_2])]
      show evSs _ _ ⟨[.m (.fro (webD m ts)), .m (.fro (.int ((k : Int) + 2))), .m (.fro (.list ((lawK ts m k).map row))), .m (.lst ((lawRings ts m k).map row)), .m (.lst []), c, .un, .un], u⟩ = _
      rw [e]
      have e2 : evSs (callF prog (n + 1)) (.cons (.asg (.nm 2) (.var 4)) (.cons (.ite (.cmp .Gt (.var 1) (.int 3)) (.cons (.expr (.ext 3 (.lc [5] (.nm 5) (.seq (.var 2)) (.so (.call 10 (.cons (.var 0) (.cons (.var 5) .nil)))) (.var 5)))) .nil) .nil) .nil)) ⟨[.m (.fro (webD m ts)), .m (.fro (.int ((k : Int) + 2))), .m (.fro (.list ((lawK ts m k).map row))), .m (.lst ((lawRings ts m k).map row)), .m (.lst ((lawK ts m (k + 1)).map row)), c', .un, .un], u⟩ =
          evSs (callF prog (n + 1)) (.cons (.ite (.cmp .Gt (.var 1) (.int 3)) (.cons (.expr (.ext 3 (.lc [5] (.nm 5) (.seq (.var 2)) (.so (.call 10 (.cons (.var 0) (.cons (.var 5) .nil)))) (.var 5)))) .nil) .nil) .nil) ⟨[.m (.fro (webD m ts)), .m (.fro (.int ((k : Int) + 2))), .m (.fro (.list ((lawK ts m (k + 1)).map row))), .m (.lst ((lawRings ts m k).map row)), .m (.fro (.list ((lawK ts m (k + 1)).map row))), c', .un, .un], u⟩ := by
        rw [ss_cons]; rfl
      rw [e2, ite_p (decide (3 < k + 2)) rfl (by
        have e4 : decide (3 < (k : Int) + 2) = decide (3 < k + 2) := by rw [Bool.eq_iff_iff, decide_eq_true_eq, decide_eq_true_eq]; omega
        simp only [← e4]; simp [pev, pXs, pAnd, pAnd1, pOr, pOr1, pXo, pRg, pIfs, pI, got, goti, kDIn, kDGet, kDSrt, dctS, M.isD, keyD, leafK, leafsK, pfrz, pfrzs, pTup, pLst, pargs, pcall, resM, ptst, pfit_ok, pone, pown, pguard, pint, S.at, M.own, truth, asBool, kBin, kCmp, kIsN, kNeg, kIx, kSl, kBi, kIsi, kSrt, kSeq, qRgI_ok, qRng_ok, kZip, kEnm_map, ofO, view, viewS, M.contS, M.cont, add_ok, add_tup, add_lst, sub_ok, ixD, slD, itemsD, isiD, views, List.range, List.range.loop, bindT, bindTs, wipeS, S.set, List.foldl, ↓obind_m, ↓pOver_m, Option.map_some, Option.map_none, ↓pMap_map, pMap_some, ↓pMap_nil, ↓pMap_cons, some_ite, obool_and, obool_or, fm_one, fm_ite, fm_iteD, fm_bool, boolsD_of, cmpD, dok, dokAll, dokAll_ints, dokAll_ties, dokAll_rows, line, hasD_nil, hasD_cons, hasD_int, hasD_tie, eqv_int, Bool.and_true, Bool.true_and, Bool.or_false, -List.map_take, -List.map_drop, -List.map_tail, -List.map_dropLast, nthD_0, nthD_1, nthD_2])]
      have er : lawRings ts m (k + 1) = lawRings ts m k ++ lawRingsAt ts m k := by simp [lawRings, List.range_succ, List.flatMap_append]
      by_cases h3 : 3 < k + 2
      · have lk := lawK_len6 (ts := ts) hm (k := k + 1) (by omega)
        have L := pev_lc (call := callF prog (n + 1)) (own := [5]) (t := .nm 5) (it := .seq (.var 2)) (ifs := .so (.call 10 (.cons (.var 0) (.cons (.var 5) .nil)))) (e := .var 5) (s := ⟨[.m (.fro (webD m ts)), .m (.fro (.int ((k : Int) + 2))), .m (.fro (.list ((lawK ts m (k + 1)).map row))), .m (.lst ((lawRings ts m k).map row)), .m (.fro (.list ((lawK ts m (k + 1)).map row))), c', .un, .un], u⟩) (v := .fro (.list ((lawK ts m (k + 1)).map row))) (xs := lawK ts m (k + 1)) (enc := row) (fun w => if isRingL ts w = true then [row w] else []) (by simp [pev, pXs, pAnd, pAnd1, pOr, pOr1, pXo, pRg, pIfs, pI, got, goti, kDIn, kDGet, kDSrt, dctS, M.isD, keyD, leafK, leafsK, pfrz, pfrzs, pTup, pLst, pargs, pcall, resM, ptst, pfit_ok, pone, pown, pguard, pint, S.at, M.own, truth, asBool, kBin, kCmp, kIsN, kNeg, kIx, kSl, kBi, kIsi, kSrt, kSeq, qRgI_ok, qRng_ok, kZip, kEnm_map, ofO, view, viewS, M.contS, M.cont, add_ok, add_tup, add_lst, sub_ok, ixD, slD, itemsD, isiD, views, List.range, List.range.loop, bindT, bindTs, wipeS, S.set, List.foldl, ↓obind_m, ↓pOver_m, Option.map_some, Option.map_none, ↓pMap_map, pMap_some, ↓pMap_nil, ↓pMap_cons, some_ite, obool_and, obool_or, fm_one, fm_ite, fm_iteD, fm_bool, boolsD_of, cmpD, dok, dokAll, dokAll_ints, dokAll_ties, dokAll_rows, line, hasD_nil, hasD_cons, hasD_int, hasD_tie, eqv_int, Bool.and_true, Bool.true_and, Bool.or_false, -List.map_take, -List.map_drop, -List.map_tail, -List.map_dropLast, nthD_0, nthD_1, nthD_2]) (fun w hw => by
          obtain ⟨w1, _, _⟩ := lawK_mem hw
          have e3 := law_is_ring (n := n) (m := m) (ts := ts) (w := w) hl (by omega) (by intro e; subst e; simp at w1) []
          simp [pev, pXs, pAnd, pAnd1, pOr, pOr1, pXo, pRg, pIfs, pI, got, goti, kDIn, kDGet, kDSrt, dctS, M.isD, keyD, leafK, leafsK, pfrz, pfrzs, pTup, pLst, pargs, pcall, resM, ptst, pfit_ok, pone, pown, pguard, pint, S.at, M.own, truth, asBool, kBin, kCmp, kIsN, kNeg, kIx, kSl, kBi, kIsi, kSrt, kSeq, qRgI_ok, qRng_ok, kZip, kEnm_map, ofO, view, viewS, M.contS, M.cont, add_ok, add_tup, add_lst, sub_ok, ixD, slD, itemsD, isiD, views, List.range, List.range.loop, bindT, bindTs, wipeS, S.set, List.foldl, ↓obind_m, ↓pOver_m, Option.map_some, Option.map_none, ↓pMap_map, pMap_some, ↓pMap_nil, ↓pMap_cons, some_ite, obool_and, obool_or, fm_one, fm_ite, fm_iteD, fm_bool, boolsD_of, cmpD, dok, dokAll, dokAll_ints, dokAll_ties, dokAll_rows, line, hasD_nil, hasD_cons, hasD_int, hasD_tie, eqv_int, Bool.and_true, Bool.true_and, Bool.or_false, -List.map_take, -List.map_drop, -List.map_tail, -List.map_dropLast, nthD_0, nthD_1, nthD_2, e3]) (by rw [fm_bool, List.length_map]; exact flen _ (by simp only [line]; omega))
        rw [fm_bool] at L
        have l3 : ((lawK ts m (k + 1)).filter (isRingL ts)).length ≤ 46656 := Nat.le_trans (List.length_filter_le _ _) lk
        have l4 := lr k (by omega)
        rw [if_pos (by simpa using h3), ext_p (ds := (lawRings ts m k).map row) rfl rfl L (by rw [List.length_map, List.length_map]; simp only [line]; omega), er, lawRingsAt, if_pos h3, List.map_append]
        rfl
      · rw [if_neg (by simpa using h3), er, lawRingsAt, if_neg h3, List.append_nil]
        rfl)
  show fin (evSs _ _ ⟨[.m (.fro (webD m ts)), .un, .m (.fro (.list ((lawK ts m 0).map row))), .m (.lst []), .un, .un, .un, .un], u⟩) = _
  rw [e, len_rangeI, show (m + 1 - 2).toNat = m.toNat - 1 by omega]
  simp [evSs, line, M.isL, kFrz, evS, evE, evAnd, evAnd1, evOr, evOr1, evXs, evXo, evRg, evIfs, evI, bind_ok, bind_ite, rk_ite, rk_ite2, rk_and, rk_or, fin_ite, bindA, S.at, S.set, S.put, Ax.callWith, lend, apart, M.own, tst, truth, ofO, kBin, kCmp, kIsN, kNeg, kTup, kLst, kIx, kSl, kBi, kIsi, kSeq, kInt, kR1, kR2, kZip, kEnm, view, viewS, M.contS, M.cont, binD, biD, ixD, slD, itemsD, asBool, isiD, back, give, giveAll, setAll, giveBack, frz, frzAll, views, List.range, List.range.loop, Ax.fin, bindT, bindTs, keep1, lockS, unlockS, wipeS, unwipe, ownerOf]
end K82
namespace K82
open PySem Ax
--# _law_is_ring is_bare_ring
theorem getD_inj {w : List Int} (hn : w.Nodup) {i j : Nat} (hi : i < w.length) (hj : j < w.length) (e : w.getD i 0 = w.getD j 0) : i = j := by
  rw [List.getD_eq_getElem?_getD, List.getD_eq_getElem?_getD, List.getElem?_eq_getElem hi, List.getElem?_eq_getElem hj] at e
  exact (List.getElem_inj hn).mp e
theorem mm_ix {w : List Int} (hn : w.Nodup) {i j a b : Nat} (hi : i < w.length) (hj : j < w.length) (ha : a < w.length) (hb : b < w.length) (e : mm (w.getD i 0) (w.getD j 0) = mm (w.getD a 0) (w.getD b 0)) : (i = a ∧ j = b) ∨ (i = b ∧ j = a) := by
  rcases mm_inj e with ⟨h1, h2⟩ | ⟨h1, h2⟩
  · exact .inl ⟨getD_inj hn hi ha h1, getD_inj hn hj hb h2⟩
  · exact .inr ⟨getD_inj hn hi hb h1, getD_inj hn hj ha h2⟩
theorem dueL_nodup {w : List Int} (hn : w.Nodup) (h4 : 4 ≤ w.length) : (dueL w).Nodup := by
  rw [dueL, List.Nodup, List.pairwise_map]
  refine List.Pairwise.imp_of_mem (fun {s t} hs ht hne e => ?_) List.nodup_range
  have hs := List.mem_range.mp hs
  have ht := List.mem_range.mp ht
  have hne : s ≠ t := hne
  have p1 : prevI w.length s < w.length := by unfold prevI; split <;> omega
  have p2 : prevI w.length t < w.length := by unfold prevI; split <;> omega
  rcases mm_ix hn p1 hs p2 ht e with ⟨_, h⟩ | ⟨h1, h2⟩
  · exact hne h
  · unfold prevI at h1 h2
    split at h1 <;> split at h2 <;> omega
theorem mem_dueL {w : List Int} (h4 : 4 ≤ w.length) {p : Int × Int} : p ∈ dueL w ↔ ∃ i j : Nat, i < j ∧ j < w.length ∧ nextB w.length i j = true ∧ p = mm (w.getD i 0) (w.getD j 0) := by
  simp only [dueL, List.mem_map, List.mem_range]
  constructor
  · rintro ⟨t, ht, rfl⟩
    by_cases h : t = 0
    · subst h
      refine ⟨0, w.length - 1, by omega, by omega, ?_, ?_⟩
      · simp only [nextB, Bool.or_eq_true, Bool.and_eq_true, decide_eq_true_eq]; omega
      · rw [prevI, if_pos rfl, mm_comm]
    · refine ⟨t - 1, t, by omega, ht, ?_, ?_⟩
      · simp only [nextB, Bool.or_eq_true, Bool.and_eq_true, decide_eq_true_eq]; omega
      · rw [prevI, if_neg h]
  · rintro ⟨i, j, h1, h2, h3, rfl⟩
    simp only [nextB, Bool.or_eq_true, Bool.and_eq_true, decide_eq_true_eq] at h3
    rcases h3 with h3 | ⟨h3, h5⟩
    · refine ⟨j, h2, ?_⟩
      rw [prevI, if_neg (by omega), show j - 1 = i by omega]
    · refine ⟨0, by omega, ?_⟩
      rw [prevI, if_pos rfl, show w.length - 1 = j by omega, mm_comm, show i = 0 by omega]
theorem ring_eq {m : Int} {ts : List (Int × Int)} (W : Web m ts) {w : List Int} (hn : w.Nodup) (h4 : 4 ≤ w.length) : isRingL ts w = isBare ts w := by
  have bare : isBare ts w = true ↔ ∀ i j : Nat, i < j → j < w.length → (mm (w.getD i 0) (w.getD j 0) ∈ ts ↔ nextB w.length i j = true) := by
    simp only [isBare, List.all_eq_true, mem_rangeI]
    constructor
    · intro h i j h1 h2
      have := h i ⟨by omega, by omega⟩ j ⟨by omega, by omega⟩
      rw [Int.toNat_natCast, Int.toNat_natCast] at this
      simp only [beq_iff_eq] at this
      rw [← this]; simp
    · intro h i ⟨h1, h2⟩ j ⟨h3, h5⟩
      have := h i.toNat j.toNat (by omega) (by omega)
      rw [show ((i.toNat : Nat) : Int) = i by omega, show ((j.toNat : Nat) : Int) = j by omega] at this
      rw [beq_iff_eq, Bool.eq_iff_iff, decide_eq_true_eq]
      exact this
  have mo : ∀ p, p ∈ ownL ts w ↔ p ∈ ts ∧ ∃ i j : Nat, i < j ∧ j < w.length ∧ p = mm (w.getD i 0) (w.getD j 0) := fun p => by
    obtain ⟨a, b⟩ := p
    simp only [ownL, List.mem_filter, Bool.and_eq_true, decide_eq_true_eq]
    constructor
    · rintro ⟨h1, h2, h3⟩
      refine ⟨h1, ?_⟩
      have tt := W.tie _ h1
      simp only [Tie] at tt
      obtain ⟨i, hi, ei⟩ := List.mem_iff_getElem.mp h2
      obtain ⟨j, hj, ej⟩ := List.mem_iff_getElem.mp h3
      have gi : w.getD i 0 = a := by rw [List.getD_eq_getElem?_getD, List.getElem?_eq_getElem hi]; exact ei
      have gj : w.getD j 0 = b := by rw [List.getD_eq_getElem?_getD, List.getElem?_eq_getElem hj]; exact ej
      have e : mm a b = (a, b) := mm_lt tt.2.1
      rcases Nat.lt_trichotomy i j with h | h | h
      · exact ⟨i, j, h, hj, by rw [gi, gj, e]⟩
      · subst h; rw [gi] at gj; omega
      · exact ⟨j, i, h, hi, by rw [gi, gj, mm_comm, e]⟩
    · rintro ⟨h1, i, j, h2, h3, h5⟩
      refine ⟨h1, ?_⟩
      have gi : w.getD i 0 ∈ w := by rw [List.getD_eq_getElem?_getD, List.getElem?_eq_getElem (by omega)]; exact List.getElem_mem _
      have gj : w.getD j 0 ∈ w := by rw [List.getD_eq_getElem?_getD, List.getElem?_eq_getElem (by omega)]; exact List.getElem_mem _
      unfold mm at h5
      simp only [Prod.mk.injEq] at h5
      obtain ⟨rfl, rfl⟩ := h5
      constructor <;> split <;> assumption
  rw [Bool.eq_iff_iff, bare, isRingL, decide_eq_true_eq]
  constructor
  · intro h i j h1 h2
    have hm : ∀ p, p ∈ dueL w ↔ p ∈ ownL ts w := fun p => by rw [← mem_sortP, h, mem_sortP]
    constructor
    · intro hp
      obtain ⟨i', j', q1, q2, q3, q4⟩ := (mem_dueL h4).mp ((hm _).mpr ((mo _).mpr ⟨hp, i, j, h1, h2, rfl⟩))
      rcases mm_ix hn (by omega) h2 (by omega) q2 q4 with ⟨rfl, rfl⟩ | ⟨rfl, rfl⟩
      · exact q3
      · omega
    · intro hp
      exact ((mo _).mp ((hm _).mp ((mem_dueL h4).mpr ⟨i, j, h1, h2, hp, rfl⟩))).1
  · intro h
    have hm : ∀ p, p ∈ dueL w ↔ p ∈ ownL ts w := fun p => by
      rw [mem_dueL h4, mo]
      constructor
      · rintro ⟨i, j, h1, h2, h3, rfl⟩
        exact ⟨(h i j h1 h2).mpr h3, i, j, h1, h2, rfl⟩
      · rintro ⟨h1, i, j, h2, h3, rfl⟩
        exact ⟨i, j, h2, h3, (h i j h2 h3).mp h1, rfl⟩
    refine pw_ext (r := fun p q => ltP p q = true) ltP_irr (fun p q r => ltP_tr) (sortP_asc (dueL_nodup hn h4)) (sortP_asc ((webNodup W).filter _)) fun p => ?_
    rw [mem_sortP, mem_sortP, hm]
--# _law_rings bare_ring_in
theorem rings_eq {m : Int} {ts : List (Int × Int)} (W : Web m ts) : (lawRings ts m (m.toNat - 1)).head? = firstRing ts m := by
  rw [lawRings, firstRing]
  congr 1
  refine fm_congr fun j _ => ?_
  rw [lawRingsAt, ringsAt]
  split
  · refine List.filter_congr fun w hw => ?_
    obtain ⟨w1, w2, _⟩ := lawK_mem hw
    exact ring_eq W w2 (by omega)
  · rfl
--# bare_ring_in
theorem chordPerf {order : List Int} {ts : List (Int × Int)} (h : Chord order ts) : ∀ (k : Nat) (hk : k < order.length), ∀ a ∈ order.take k, ∀ b ∈ order.take k, mm a order[k] ∈ ts → mm b order[k] ∈ ts → a ≠ b → mm a b ∈ ts := by
  induction h with
  | nil => intro k hk; simp at hk
  | add h1 h2 h3 h4 h5 ih =>
    rename_i done ts c ys
    intro k hk a ha b hb ea eb hn
    rw [List.length_append, List.length_singleton] at hk
    by_cases hkd : k < done.length
    · have e : (done ++ [c])[k] = done[k] := List.getElem_append_left hkd
      rw [List.take_append_of_le_length (by omega)] at ha hb
      have inn : ∀ x, x ∈ done.take k → mm x (done ++ [c])[k] ∈ ts ++ ys.map (fun x => mm x c) → mm x done[k] ∈ ts := fun x hx hm => by
        rw [e] at hm
        rcases List.mem_append.mp hm with hm | hm
        · exact hm
        · obtain ⟨y, hy, ey⟩ := List.mem_map.mp hm
          have xd := List.mem_of_mem_take hx
          have kd := List.getElem_mem hkd
          rcases mm_inj ey with ⟨_, q⟩ | ⟨_, q⟩
          · exact (h2 (by rw [q]; exact kd)).elim
          · exact (h2 (by rw [q]; exact xd)).elim
      exact List.mem_append_left _ (ih k hkd a ha b hb (inn a ha ea) (inn b hb eb) hn)
    · have hke : k = done.length := by omega
      subst hke
      have e : (done ++ [c])[done.length] = c := by simp
      rw [List.take_append_of_le_length (Nat.le_refl _), List.take_length] at ha hb
      have inn : ∀ x, x ∈ done → mm x (done ++ [c])[done.length] ∈ ts ++ ys.map (fun x => mm x c) → x ∈ ys := fun x hx hm => by
        rw [e] at hm
        rcases List.mem_append.mp hm with hm | hm
        · exact (h2 (h1.mem hm).2.1).elim
        · obtain ⟨y, hy, ey⟩ := List.mem_map.mp hm
          rcases mm_inj ey with ⟨q, _⟩ | ⟨_, q⟩
          · rw [← q]; exact hy
          · exact (h2 (by rw [q]; exact hx)).elim
      exact List.mem_append_left _ (h5 a (inn a ha ea) b (inn b hb eb) hn)
end K82
namespace K82
open PySem Ax
--# bare_ring_in _law_is_ring
theorem bare_iff {ts : List (Int × Int)} {w : List Int} (h : isBare ts w = true) (i j : Nat) (hi : i < w.length) (hj : j < w.length) (hn : i ≠ j) : mm (w.getD i 0) (w.getD j 0) ∈ ts ↔ (j = i + 1 ∨ i = j + 1 ∨ (i = 0 ∧ j + 1 = w.length) ∨ (j = 0 ∧ i + 1 = w.length)) := by
  simp only [isBare, List.all_eq_true, mem_rangeI] at h
  have key : ∀ i j : Nat, i < j → j < w.length → (mm (w.getD i 0) (w.getD j 0) ∈ ts ↔ (j = i + 1 ∨ i = j + 1 ∨ (i = 0 ∧ j + 1 = w.length) ∨ (j = 0 ∧ i + 1 = w.length))) := fun i j h1 h2 => by
    have := h i ⟨by omega, by omega⟩ j ⟨by omega, by omega⟩
    rw [Int.toNat_natCast, Int.toNat_natCast] at this
    simp only [beq_iff_eq] at this
    have e : mm (w.getD i 0) (w.getD j 0) ∈ ts ↔ nextB w.length i j = true := by rw [← this]; simp
    rw [e]
    simp only [nextB, Bool.or_eq_true, Bool.and_eq_true, decide_eq_true_eq]
    omega
  rcases Nat.lt_or_gt_of_ne hn with l | l
  · exact key i j l hj
  · rw [mm_comm, key j i l hi]; omega
theorem exists_max (f : Nat → Nat) : ∀ n, 0 < n → ∃ t, t < n ∧ ∀ s, s < n → f s ≤ f t
  | 0, h => by omega
  | 1, _ => ⟨0, by omega, fun s hs => by have : s = 0 := by omega
                                         subst this; exact Nat.le_refl _⟩
  | n + 2, _ => by
    obtain ⟨t, h1, h2⟩ := exists_max f (n + 1) (by omega)
    by_cases h : f t ≤ f (n + 1)
    · refine ⟨n + 1, by omega, fun s hs => ?_⟩
      by_cases e : s = n + 1
      · subst e; exact Nat.le_refl _
      · exact Nat.le_trans (h2 s (by omega)) h
    · refine ⟨t, by omega, fun s hs => ?_⟩
      by_cases e : s = n + 1
      · subst e; omega
      · exact h2 s (by omega)
theorem chord_none {m : Int} {order : List Int} {ts : List (Int × Int)} (hc : Chord order ts) (hp : order.Perm (rangeI 0 m)) : firstRing (sortP ts) m = none := by
  rw [firstRing, List.head?_eq_none_iff, List.flatMap_eq_nil_iff]
  intro j _
  rw [ringsAt]
  split
  · rename_i h3
    rw [List.filter_eq_nil_iff]
    intro w hw hb
    obtain ⟨w1, w2, w3⟩ := lawK_mem hw
    have gm : ∀ s, s < w.length → w.getD s 0 ∈ order := fun s hs => by
      rw [List.getD_eq_getElem?_getD, List.getElem?_eq_getElem hs]
      exact hp.mem_iff.mpr (mem_rangeI.mpr (w3 _ (List.getElem_mem hs)))
    obtain ⟨t, ht, hmax⟩ := exists_max (fun s => order.idxOf (w.getD s 0)) w.length (by omega)
    have hk : order.idxOf (w.getD t 0) < order.length := List.idxOf_lt_length_iff.mpr (gm t ht)
    have hck : order[order.idxOf (w.getD t 0)] = w.getD t 0 := List.getElem_idxOf hk
    have ahead : ∀ s, s < w.length → s ≠ t → w.getD s 0 ∈ order.take (order.idxOf (w.getD t 0)) := fun s hs hn => by
      have h1 : order.idxOf (w.getD s 0) < order.length := List.idxOf_lt_length_iff.mpr (gm s hs)
      have h2 : order[order.idxOf (w.getD s 0)] = w.getD s 0 := List.getElem_idxOf h1
      have h4 : order.idxOf (w.getD s 0) ≠ order.idxOf (w.getD t 0) := fun e => by
        have : w.getD s 0 = w.getD t 0 := by rw [← h2, ← hck]; simp only [e]
        exact hn (getD_inj w2 hs ht this)
      have h5 : order.idxOf (w.getD s 0) ≤ order.idxOf (w.getD t 0) := hmax s hs
      exact List.mem_take_iff_getElem.mpr ⟨order.idxOf (w.getD s 0), by omega, h2⟩
    let a := if t = 0 then w.length - 1 else t - 1
    let b := if t + 1 = w.length then 0 else t + 1
    have ha : a < w.length ∧ a ≠ t ∧ (t = a + 1 ∨ a = t + 1 ∨ (a = 0 ∧ t + 1 = w.length) ∨ (t = 0 ∧ a + 1 = w.length)) := by
      show (if t = 0 then w.length - 1 else t - 1) < w.length ∧ _
      simp only [a]; split <;> omega
    have hb2 : b < w.length ∧ b ≠ t ∧ (t = b + 1 ∨ b = t + 1 ∨ (b = 0 ∧ t + 1 = w.length) ∨ (t = 0 ∧ b + 1 = w.length)) := by
      simp only [b]; split <;> omega
    have hab : a ≠ b ∧ ¬ (b = a + 1 ∨ a = b + 1 ∨ (a = 0 ∧ b + 1 = w.length) ∨ (b = 0 ∧ a + 1 = w.length)) := by
      simp only [a, b]; split <;> split <;> omega
    have ea := mem_sortP.mp ((bare_iff hb a t ha.1 ht ha.2.1).mpr ha.2.2)
    have eb := mem_sortP.mp ((bare_iff hb b t hb2.1 ht hb2.2.1).mpr hb2.2.2)
    have := chordPerf hc _ hk _ (ahead a ha.1 ha.2.1) _ (ahead b hb2.1 hb2.2.1) (by rw [hck]; exact ea) (by rw [hck]; exact eb) (fun e => hab.1 (getD_inj w2 ha.1 hb2.1 e))
    exact hab.2 ((bare_iff hb a b ha.1 hb2.1 hab.1).mp (mem_sortP.mpr this))
  · rfl
end K82
namespace K82
open PySem Ax
--# _law_ring_web _law_shuffled
def kvOf (ps : List (Int × Int)) : List (List L2.Key × D) := ps.map fun p => ([.inl p.1, .inl p.2], .bool true)
def addP (ps : List (Int × Int)) (p : Int × Int) : List (Int × Int) := if p ∈ ps then ps else ps ++ [p]
theorem put_kv (ps : List (Int × Int)) (a b : Int) : putK (kvOf ps) [.inl a, .inl b] (.bool true) = kvOf (addP ps (a, b)) := by
  unfold putK addP
  have e : ((kvOf ps).any fun kv => decide (kv.1 = [.inl a, .inl b])) = decide ((a, b) ∈ ps) := by
    rw [kvOf, List.any_map, Bool.eq_iff_iff, List.any_eq_true, decide_eq_true_eq]
    constructor
    · rintro ⟨⟨x, y⟩, h1, h2⟩
      simp at h2
      rw [← h2.1, ← h2.2]; exact h1
    · intro h
      exact ⟨(a, b), h, by simp⟩
  rw [e]
  by_cases h : (a, b) ∈ ps
  · simp only [h, decide_true, if_true]
    rw [kvOf, List.map_map]
    refine List.map_congr_left fun p _ => ?_
    simp only [Function.comp_apply]
    split <;> rfl
  · simp only [h, decide_false, if_false]
    simp [kvOf]
theorem addP_nodup {ps : List (Int × Int)} {p : Int × Int} (h : ps.Nodup) : (addP ps p).Nodup := by
  unfold addP
  split
  · exact h
  · rename_i hn
    rw [List.nodup_append]
    refine ⟨h, by simp, fun a ha b hb e => ?_⟩
    simp at hb
    rw [e, hb] at ha
    exact hn ha
theorem addP_len (ps : List (Int × Int)) (p : Int × Int) : (addP ps p).length ≤ ps.length + 1 := by
  unfold addP; split <;> simp
theorem addP_mem {ps : List (Int × Int)} {p q : Int × Int} (h : q ∈ addP ps p) : q ∈ ps ∨ q = p := by
  unfold addP at h
  split at h
  · exact .inl h
  · simpa using h
theorem keys_kv (ps : List (Int × Int)) : ((kvOf ps).map fun p => dKey true p.1) = ps.map tie := by
  rw [kvOf, List.map_map]; rfl
theorem ring_web1 {n : Nat} {many at_ things : Int} {v : M} {ps : List (Int × Int)} {order : List Int} {b c d e : Sl} (hp : order.Perm (rangeI 0 things)) (h4 : 4 ≤ many) (hm : many ≤ things) (ht : things ≤ 6) (h0 : 0 ≤ at_) (ha : at_ < many) (hl : ps.length < 1000) (hps : ps.Nodup ∧ ∀ p ∈ ps, Tie things p) :
    ∃ (p : Int × Int) (d' e' : Sl), evSs (callF prog n) b3_1 ⟨[.ref 0, .m (.fro (.int many)), .m (.fro (.int things)), .m (.fro (.int at_)), b, .m (.fro (.list (order.map .int))), .m (.dct true (kvOf ps)), c, d, e], [v]⟩ =
      .ok .next ⟨[.ref 0, .m (.fro (.int many)), .m (.fro (.int things)), .m (.fro (.int at_)), b, .m (.fro (.list (order.map .int))), .m (.dct true (kvOf (addP ps p))), c, d', e'], [v]⟩ ∧ Tie things p := by
  have hlen : order.length = things.toNat := by rw [hp.length_eq, len_rangeI]; omega
  have hnd : order.Nodup := hp.nodup_iff.mpr ((rangeI_asc 0 things).imp fun h => by omega)
  have mem : ∀ (i : Nat) (h : i < order.length), 0 ≤ order[i] ∧ order[i] < things := fun i h => mem_rangeI.mp (hp.mem_iff.mp (List.getElem_mem h))
  obtain ⟨k, rfl⟩ : ∃ k : Nat, at_ = k := ⟨at_.toNat, by omega⟩
  have hk : k < order.length := by omega
  have gk : nthD order (k : Int) = some order[k] := by rw [nthD_nat, List.getElem?_eq_getElem hk]
  let j := if 0 < k then k - 1 else many.toNat - 1
  have hj : j < order.length ∧ j ≠ k := by simp only [j]; split <;> omega
  have gj : nthD order (if 0 < (k : Int) then (k : Int) - 1 else many - 1) = some order[j] := by
    have : (if 0 < (k : Int) then (k : Int) - 1 else many - 1) = (j : Int) := by simp only [j]; split <;> split <;> omega
    rw [this, nthD_nat, List.getElem?_eq_getElem hj.1]
  have ne : order[j] ≠ order[k] := fun e => hj.2 ((List.getElem_inj hnd).mp e)
  refine ⟨mm order[j] order[k], .m (.fro (.int order[j])), .m (.fro (.int order[k])), ?_, mm_tie (mem j hj.1) (mem k hk) ne⟩
  rw [b3_1, asgN2_p (.fro (.int order[j])) (.fro (.int order[k])) rfl rfl (by
    by_cases h : 0 < (k : Int)
    · have h2 : 0 < k := by omega
      rw [if_pos h] at gj; simp [pev, pXs, pAnd, pAnd1, pOr, pOr1, pXo, pRg, pIfs, pI, got, goti, kDIn, kDGet, kDSrt, dctS, M.isD, keyD, leafK, leafsK, pfrz, pfrzs, pTup, pLst, pargs, pcall, resM, ptst, pfit_ok, pone, pown, pguard, pint, S.at, M.own, truth, asBool, kBin, kCmp, kIsN, kNeg, kIx, kSl, kBi, kIsi, kSrt, kSeq, qRgI_ok, qRng_ok, kZip, kEnm_map, ofO, view, viewS, M.contS, M.cont, add_ok, add_tup, add_lst, sub_ok, ixD, slD, itemsD, isiD, views, List.range, List.range.loop, bindT, bindTs, wipeS, S.set, List.foldl, ↓obind_m, ↓pOver_m, Option.map_some, Option.map_none, ↓pMap_map, pMap_some, ↓pMap_nil, ↓pMap_cons, some_ite, obool_and, obool_or, fm_one, fm_ite, fm_iteD, fm_bool, boolsD_of, cmpD, dok, dokAll, dokAll_ints, dokAll_ties, dokAll_rows, line, hasD_nil, hasD_cons, hasD_int, hasD_tie, eqv_int, Bool.and_true, Bool.true_and, Bool.or_false, -List.map_take, -List.map_drop, -List.map_tail, -List.map_dropLast, nthD_0, nthD_1, nthD_2, nthD_map, gj, h2]
    · have h2 : ¬ 0 < k := by omega
      rw [if_neg h] at gj; simp [pev, pXs, pAnd, pAnd1, pOr, pOr1, pXo, pRg, pIfs, pI, got, goti, kDIn, kDGet, kDSrt, dctS, M.isD, keyD, leafK, leafsK, pfrz, pfrzs, pTup, pLst, pargs, pcall, resM, ptst, pfit_ok, pone, pown, pguard, pint, S.at, M.own, truth, asBool, kBin, kCmp, kIsN, kNeg, kIx, kSl, kBi, kIsi, kSrt, kSeq, qRgI_ok, qRng_ok, kZip, kEnm_map, ofO, view, viewS, M.contS, M.cont, add_ok, add_tup, add_lst, sub_ok, ixD, slD, itemsD, isiD, views, List.range, List.range.loop, bindT, bindTs, wipeS, S.set, List.foldl, ↓obind_m, ↓pOver_m, Option.map_some, Option.map_none, ↓pMap_map, pMap_some, ↓pMap_nil, ↓pMap_cons, some_ite, obool_and, obool_or, fm_one, fm_ite, fm_iteD, fm_bool, boolsD_of, cmpD, dok, dokAll, dokAll_ints, dokAll_ties, dokAll_rows, line, hasD_nil, hasD_cons, hasD_int, hasD_tie, eqv_int, Bool.and_true, Bool.true_and, Bool.or_false, -List.map_take, -List.map_drop, -List.map_tail, -List.map_dropLast, nthD_0, nthD_1, nthD_2, nthD_map, gj, h2]) (by simp [pev, pXs, pAnd, pAnd1, pOr, pOr1, pXo, pRg, pIfs, pI, got, goti, kDIn, kDGet, kDSrt, dctS, M.isD, keyD, leafK, leafsK, pfrz, pfrzs, pTup, pLst, pargs, pcall, resM, ptst, pfit_ok, pone, pown, pguard, pint, S.at, M.own, truth, asBool, kBin, kCmp, kIsN, kNeg, kIx, kSl, kBi, kIsi, kSrt, kSeq, qRgI_ok, qRng_ok, kZip, kEnm_map, ofO, view, viewS, M.contS, M.cont, add_ok, add_tup, add_lst, sub_ok, ixD, slD, itemsD, isiD, views, List.range, List.range.loop, bindT, bindTs, wipeS, S.set, List.foldl, ↓obind_m, ↓pOver_m, Option.map_some, Option.map_none, ↓pMap_map, pMap_some, ↓pMap_nil, ↓pMap_cons, some_ite, obool_and, obool_or, fm_one, fm_ite, fm_iteD, fm_bool, boolsD_of, cmpD, dok, dokAll, dokAll_ints, dokAll_ties, dokAll_rows, line, hasD_nil, hasD_cons, hasD_int, hasD_tie, eqv_int, Bool.and_true, Bool.true_and, Bool.or_false, -List.map_take, -List.map_drop, -List.map_tail, -List.map_dropLast, nthD_0, nthD_1, nthD_2, nthD_map, gk])]
  rw [dPut_p (b := true) (kvs := kvOf ps) (.bool true) (tie (mm order[j] order[k])) [.inl (mm order[j] order[k]).1, .inl (mm order[j] order[k]).2] rfl rfl (by simp [pev, pXs, pAnd, pAnd1, pOr, pOr1, pXo, pRg, pIfs, pI, got, goti, kDIn, kDGet, kDSrt, dctS, M.isD, keyD, leafK, leafsK, pfrz, pfrzs, pTup, pLst, pargs, pcall, resM, ptst, pfit_ok, pone, pown, pguard, pint, S.at, M.own, truth, asBool, kBin, kCmp, kIsN, kNeg, kIx, kSl, kBi, kIsi, kSrt, kSeq, qRgI_ok, qRng_ok, kZip, kEnm_map, ofO, view, viewS, M.contS, M.cont, add_ok, add_tup, add_lst, sub_ok, ixD, slD, itemsD, isiD, views, List.range, List.range.loop, bindT, bindTs, wipeS, S.set, List.foldl, ↓obind_m, ↓pOver_m, Option.map_some, Option.map_none, ↓pMap_map, pMap_some, ↓pMap_nil, ↓pMap_cons, some_ite, obool_and, obool_or, fm_one, fm_ite, fm_iteD, fm_bool, boolsD_of, cmpD, dok, dokAll, dokAll_ints, dokAll_ties, dokAll_rows, line, hasD_nil, hasD_cons, hasD_int, hasD_tie, eqv_int, Bool.and_true, Bool.true_and, Bool.or_false, -List.map_take, -List.map_drop, -List.map_tail, -List.map_dropLast, nthD_0, nthD_1, nthD_2]) (by simp [pev, pXs, pAnd, pAnd1, pOr, pOr1, pXo, pRg, pIfs, pI, got, goti, kDIn, kDGet, kDSrt, dctS, M.isD, keyD, leafK, leafsK, pfrz, pfrzs, pTup, pLst, pargs, pcall, resM, ptst, pfit_ok, pone, pown, pguard, pint, S.at, M.own, truth, asBool, kBin, kCmp, kIsN, kNeg, kIx, kSl, kBi, kIsi, kSrt, kSeq, qRgI_ok, qRng_ok, kZip, kEnm_map, ofO, view, viewS, M.contS, M.cont, add_ok, add_tup, add_lst, sub_ok, ixD, slD, itemsD, isiD, views, List.range, List.range.loop, bindT, bindTs, wipeS, S.set, List.foldl, ↓obind_m, ↓pOver_m, Option.map_some, Option.map_none, ↓pMap_map, pMap_some, ↓pMap_nil, ↓pMap_cons, some_ite, obool_and, obool_or, fm_one, fm_ite, fm_iteD, fm_bool, boolsD_of, cmpD, dok, dokAll, dokAll_ints, dokAll_ties, dokAll_rows, line, hasD_nil, hasD_cons, hasD_int, hasD_tie, eqv_int, Bool.and_true, Bool.true_and, Bool.or_false, -List.map_take, -List.map_drop, -List.map_tail, -List.map_dropLast, nthD_0, nthD_1, nthD_2, biD, mm]) rfl rfl (by simp only [kvOf, List.length_map, line]; omega), put_kv]
  rfl
theorem two_sorted {os : List Int} (hn : os.Nodup) (h2 : 2 ≤ os.length) : ∃ x y : Int, sortI (os.take 2) = [x, y] ∧ x < y ∧ x ∈ os ∧ y ∈ os := by
  have hl : (sortI (os.take 2)).length = 2 := by rw [len_sortI, List.length_take]; omega
  have s1 : (sortI (os.take 2)).Pairwise (fun a b => decide (a ≤ b) = true) := List.pairwise_mergeSort (fun a b c h1 h2 => by simp at h1 h2 ⊢; omega) (fun a b => by simp; omega) _
  have n2 : (sortI (os.take 2)).Nodup := (List.mergeSort_perm _ _).nodup_iff.mpr (hn.sublist (List.take_sublist _ _))
  have mm' : ∀ x ∈ sortI (os.take 2), x ∈ os := fun x hx => List.mem_of_mem_take (mem_sortI.mp hx)
  match hL : sortI (os.take 2), hl with
  | [x, y], _ =>
    rw [hL] at s1 n2 mm'
    simp at s1 n2
    exact ⟨x, y, rfl, by omega, mm' x (by simp), mm' y (by simp)⟩
theorem ring_web2 {n : Nat} {N many at_ things : Int} {v : M} {ps : List (Int × Int)} {order : List Int} {a b c d e : Sl} (h : Fo N v) (hN : N ≤ 1000000) (hp : order.Perm (rangeI 0 things)) (h4 : 4 ≤ things) (ht : things ≤ 6) (hl : ps.length < 1000) :
    ∃ (p : Int × Int) (c' : Sl) (v' : M), evSs (callF prog (n + 2)) b3_0 ⟨[.ref 0, .m (.fro (.int many)), .m (.fro (.int things)), a, b, .m (.fro (.list (order.map .int))), .m (.dct true (kvOf ps)), c, d, e], [v]⟩ =
      .ok .next ⟨[.ref 0, .m (.fro (.int many)), .m (.fro (.int things)), a, b, .m (.fro (.list (order.map .int))), .m (.dct true (kvOf (addP ps p))), c', d, e], [v']⟩ ∧ Tie things p ∧ Fo (N + 500) v' := by
  have hlen : order.length = things.toNat := by rw [hp.length_eq, len_rangeI]; omega
  have hnd : order.Nodup := hp.nodup_iff.mpr ((rangeI_asc 0 things).imp fun h => by omega)
  obtain ⟨v1, out, e1, f1, hq⟩ := shuffled (n := n) h (by omega) (order.map .int) (by rw [List.length_map]; omega)
  obtain ⟨os, rfl⟩ : ∃ os : List Int, out = os.map .int := by
    have : ∀ d ∈ out, ∃ i : Int, PyData.int i = d := fun d hd => by
      obtain ⟨i, _, e⟩ := List.mem_map.mp (hq.mem_iff.mp hd); exact ⟨i, e⟩
    clear e1 hq
    induction out with
    | nil => exact ⟨[], rfl⟩
    | cons d out ih =>
      obtain ⟨o, rfl⟩ := ih fun d hd => this d (by simp [hd])
      obtain ⟨i, rfl⟩ := this d (by simp)
      exact ⟨i :: o, rfl⟩
  have hq : os.Perm order := by
    have := hq.map (fun d => match d with | .int i => i | _ => 0)
    simpa [List.map_map, Function.comp_def] using this
  obtain ⟨x, y, exy, hxy, hx, hy⟩ := two_sorted (hq.nodup_iff.mpr hnd) (by rw [hq.length_eq]; omega)
  have hx := mem_rangeI.mp (hp.mem_iff.mp (hq.mem_iff.mp hx))
  have hy := mem_rangeI.mp (hp.mem_iff.mp (hq.mem_iff.mp hy))
  have e2 : evE (callF prog (n + 2)) (.frz (.srt .int (.sl (.call 5 (.cons (.var 0) (.cons (.var 5) .nil))) .no (.so (.int 2))))) ⟨[.ref 0, .m (.fro (.int many)), .m (.fro (.int things)), a, b, .m (.fro (.list (order.map .int))), .m (.dct true (kvOf ps)), c, d, e], [v]⟩ = .ok (.m (.fro (.list [.int x, .int y]))) ⟨[.ref 0, .m (.fro (.int many)), .m (.fro (.int things)), a, b, .m (.fro (.list (order.map .int))), .m (.dct true (kvOf ps)), c, d, e], [v1]⟩ := by
    obtain ⟨a1, b1, c1, rfl⟩ := h.at
    have hc : cutD (os.map PyData.int) none (some 2) = (os.take 2).map .int := cut_tm PyData.int os 2
    have hs : srtD .int ((os.take 2).map .int) = some [.int x, .int y] := by
      rw [srtD_int0 _ (by rw [List.length_take]; omega), exy]; rfl
    simp [evSs, line, M.isL, kFrz, evS, evE, evAnd, evAnd1, evOr, evOr1, evXs, evXo, evRg, evIfs, evI, bind_ok, bind_ite, rk_ite, rk_ite2, rk_and, rk_or, fin_ite, bindA, S.at, S.set, S.put, Ax.callWith, lend, apart, M.own, tst, truth, ofO, kBin, kCmp, kIsN, kNeg, kTup, kLst, kIx, kSl, kBi, kIsi, kSeq, kInt, kR1, kR2, kZip, kEnm, view, viewS, M.contS, M.cont, binD, biD, ixD, slD, itemsD, asBool, isiD, back, give, giveAll, setAll, giveBack, frz, frzAll, views, List.range, List.range.loop, Ax.fin, bindT, bindTs, keep1, lockS, unlockS, wipeS, unwipe, ownerOf, e1, hc, hs, kSrt, -List.map_take]
  refine ⟨(x, y), .m (.fro (.list [.int x, .int y])), v1, ?_, ⟨hx.1, hxy, hy.2⟩, f1⟩
  rw [b3_0, asg_e e2]
  rw [dPut_p (b := true) (kvs := kvOf ps) (.bool true) (tie (x, y)) [.inl x, .inl y] rfl rfl (by simp [pev, pXs, pAnd, pAnd1, pOr, pOr1, pXo, pRg, pIfs, pI, got, goti, kDIn, kDGet, kDSrt, dctS, M.isD, keyD, leafK, leafsK, pfrz, pfrzs, pTup, pLst, pargs, pcall, resM, ptst, pfit_ok, pone, pown, pguard, pint, S.at, M.own, truth, asBool, kBin, kCmp, kIsN, kNeg, kIx, kSl, kBi, kIsi, kSrt, kSeq, qRgI_ok, qRng_ok, kZip, kEnm_map, ofO, view, viewS, M.contS, M.cont, add_ok, add_tup, add_lst, sub_ok, ixD, slD, itemsD, isiD, views, List.range, List.range.loop, bindT, bindTs, wipeS, S.set, List.foldl, ↓obind_m, ↓pOver_m, Option.map_some, Option.map_none, ↓pMap_map, pMap_some, ↓pMap_nil, ↓pMap_cons, some_ite, obool_and, obool_or, fm_one, fm_ite, fm_iteD, fm_bool, boolsD_of, cmpD, dok, dokAll, dokAll_ints, dokAll_ties, dokAll_rows, line, hasD_nil, hasD_cons, hasD_int, hasD_tie, eqv_int, Bool.and_true, Bool.true_and, Bool.or_false, -List.map_take, -List.map_drop, -List.map_tail, -List.map_dropLast, nthD_0, nthD_1, nthD_2]) (by simp [pev, pXs, pAnd, pAnd1, pOr, pOr1, pXo, pRg, pIfs, pI, got, goti, kDIn, kDGet, kDSrt, dctS, M.isD, keyD, leafK, leafsK, pfrz, pfrzs, pTup, pLst, pargs, pcall, resM, ptst, pfit_ok, pone, pown, pguard, pint, S.at, M.own, truth, asBool, kBin, kCmp, kIsN, kNeg, kIx, kSl, kBi, kIsi, kSrt, kSeq, qRgI_ok, qRng_ok, kZip, kEnm_map, ofO, view, viewS, M.contS, M.cont, add_ok, add_tup, add_lst, sub_ok, ixD, slD, itemsD, isiD, views, List.range, List.range.loop, bindT, bindTs, wipeS, S.set, List.foldl, ↓obind_m, ↓pOver_m, Option.map_some, Option.map_none, ↓pMap_map, pMap_some, ↓pMap_nil, ↓pMap_cons, some_ite, obool_and, obool_or, fm_one, fm_ite, fm_iteD, fm_bool, boolsD_of, cmpD, dok, dokAll, dokAll_ints, dokAll_ties, dokAll_rows, line, hasD_nil, hasD_cons, hasD_int, hasD_tie, eqv_int, Bool.and_true, Bool.true_and, Bool.or_false, -List.map_take, -List.map_drop, -List.map_tail, -List.map_dropLast, nthD_0, nthD_1, nthD_2]) rfl rfl (by simp only [kvOf, List.length_map, line]; omega), put_kv]
  rfl
theorem ring_web {n : Nat} {N : Int} {v : M} (h : Fo N v) (hN : N ≤ 900000) : ∃ (m : Int) (ts : List (Int × Int)) (v' : M), callF prog (n + 3) 3 [.lent 0] [v] = .ok (.fro (webD m (sortP ts))) [v'] ∧ Web m (sortP ts) ∧ m ≤ 6 ∧ Fo (N + 3000) v' := by
  obtain ⟨v1, r1, e1, f1, r1a, r1b⟩ := sip (n := n + 1) h (by omega) (k := 3) (by omega) (by omega)
  obtain ⟨v2, r2, e2, f2, r2a, r2b⟩ := sip (n := n + 1) f1 (by omega) (k := 2) (by omega) (by omega)
  obtain ⟨many, hmany⟩ : ∃ many : Int, many = 4 + r1 := ⟨_, rfl⟩
  obtain ⟨things, hth⟩ : ∃ things : Int, things = (if many + r2 < 6 then many + r2 else 6) := ⟨_, rfl⟩
  have hm4 : 4 ≤ many ∧ many ≤ things ∧ things ≤ 6 := by rw [hth]; split <;> omega
  obtain ⟨v3, out, e3, f3, hq⟩ := shuffled (n := n) f2 (by omega) ((rangeI 0 things).map .int) (by rw [List.length_map, len_rangeI]; omega)
  obtain ⟨order, rfl⟩ : ∃ os : List Int, out = os.map .int := by
    have : ∀ d ∈ out, ∃ i : Int, PyData.int i = d := fun d hd => by
      obtain ⟨i, _, e⟩ := List.mem_map.mp (hq.mem_iff.mp hd); exact ⟨i, e⟩
    clear e3 hq
    induction out with
    | nil => exact ⟨[], rfl⟩
    | cons d out ih =>
      obtain ⟨o, rfl⟩ := ih fun d hd => this d (by simp [hd])
      obtain ⟨i, rfl⟩ := this d (by simp)
      exact ⟨i :: o, rfl⟩
  have hp : order.Perm (rangeI 0 things) := by
    have := hq.map (fun d => match d with | .int i => i | _ => 0)
    simpa [List.map_map, Function.comp_def] using this
  obtain ⟨v4, r4, e4, f4, r4a, r4b⟩ := sip (n := n + 1) f3 (by omega) (k := 3) (by omega) (by omega)
  have x1 : ∀ a b c d e : Sl, ∀ x1 x2 : Sl, evE (callF prog (n + 2)) (.bin .Add (.int 4) (.call 4 (.cons (.var 0) (.cons (.int 3) .nil)))) ⟨[.ref 0, a, b, c, d, e, x1, x2, .un, .un], [v]⟩ = .ok (.m (.fro (.int many))) ⟨[.ref 0, a, b, c, d, e, x1, x2, .un, .un], [v1]⟩ := fun a b c d e x1 x2 => by
    obtain ⟨a1, b1, c1, rfl⟩ := h.at
    simp [evSs, line, M.isL, kFrz, evS, evE, evAnd, evAnd1, evOr, evOr1, evXs, evXo, evRg, evIfs, evI, bind_ok, bind_ite, rk_ite, rk_ite2, rk_and, rk_or, fin_ite, bindA, S.at, S.set, S.put, Ax.callWith, lend, apart, M.own, tst, truth, ofO, kBin, kCmp, kIsN, kNeg, kTup, kLst, kIx, kSl, kBi, kIsi, kSeq, kInt, kR1, kR2, kZip, kEnm, view, viewS, M.contS, M.cont, binD, biD, ixD, slD, itemsD, asBool, isiD, back, give, giveAll, setAll, giveBack, frz, frzAll, views, List.range, List.range.loop, Ax.fin, bindT, bindTs, keep1, lockS, unlockS, wipeS, unwipe, ownerOf, e1, hmany]
  have x2 : evE (callF prog (n + 2)) (.bi .min2 (.cons (.int 6) (.cons (.bin .Add (.var 1) (.call 4 (.cons (.var 0) (.cons (.int 2) .nil)))) .nil))) ⟨[.ref 0, .m (.fro (.int many)), .un, .un, .un, .un, .un, .un, .un, .un], [v1]⟩ = .ok (.m (.fro (.int things))) ⟨[.ref 0, .m (.fro (.int many)), .un, .un, .un, .un, .un, .un, .un, .un], [v2]⟩ := by
    obtain ⟨a1, b1, c1, rfl⟩ := f1.at
    simp [evSs, line, M.isL, kFrz, evS, evE, evAnd, evAnd1, evOr, evOr1, evXs, evXo, evRg, evIfs, evI, bind_ok, bind_ite, rk_ite, rk_ite2, rk_and, rk_or, fin_ite, bindA, S.at, S.set, S.put, Ax.callWith, lend, apart, M.own, tst, truth, ofO, kBin, kCmp, kIsN, kNeg, kTup, kLst, kIx, kSl, kBi, kIsi, kSeq, kInt, kR1, kR2, kZip, kEnm, view, viewS, M.contS, M.cont, binD, biD, ixD, slD, itemsD, asBool, isiD, back, give, giveAll, setAll, giveBack, frz, frzAll, views, List.range, List.range.loop, Ax.fin, bindT, bindTs, keep1, lockS, unlockS, wipeS, unwipe, ownerOf, biD, e2, hth]
  have x3 : evXs (callF prog (n + 2)) (.cons (.frz (.call 5 (.cons (.var 0) (.cons (.rng false (.r1 (.var 2))) .nil)))) (.cons (.dnew true) .nil)) ⟨[.ref 0, .m (.fro (.int many)), .m (.fro (.int things)), .un, .un, .un, .un, .un, .un, .un], [v2]⟩ = .ok [.m (.fro (.list (order.map .int))), .m (.dct true [])] ⟨[.ref 0, .m (.fro (.int many)), .m (.fro (.int things)), .un, .un, .un, .un, .un, .un, .un], [v3]⟩ := by
    obtain ⟨a1, b1, c1, rfl⟩ := f2.at
    simp [evSs, line, M.isL, kFrz, evS, evE, evAnd, evAnd1, evOr, evOr1, evXs, evXo, evRg, evIfs, evI, bind_ok, bind_ite, rk_ite, rk_ite2, rk_and, rk_or, fin_ite, bindA, S.at, S.set, S.put, Ax.callWith, lend, apart, M.own, tst, truth, ofO, kBin, kCmp, kIsN, kNeg, kTup, kLst, kIx, kSl, kBi, kIsi, kSeq, kInt, kR1, kR2, kZip, kEnm, view, viewS, M.contS, M.cont, binD, biD, ixD, slD, itemsD, asBool, isiD, back, give, giveAll, setAll, giveBack, frz, frzAll, views, List.range, List.range.loop, Ax.fin, bindT, bindTs, keep1, lockS, unlockS, wipeS, unwipe, ownerOf, qRng_ok (lo := 0) (hi := things) (by omega) (by omega) (by omega) (by omega), e3]
  rw [callF_at (fn := ⟨1, N3.length, b3⟩) rfl rfl]
  show ∃ (m : Int) (ts : List (Int × Int)) (v' : M), fin (evSs (callF prog (n + 2)) b3 ⟨[.ref 0, .un, .un, .un, .un, .un, .un, .un, .un, .un], [v]⟩) = _ ∧ _
  rw [b3, asg_e (x1 .un .un .un .un .un .un .un)]
  show ∃ (m : Int) (ts : List (Int × Int)) (v' : M), fin (evSs (callF prog (n + 2)) _ ⟨[.ref 0, .m (.fro (.int many)), .un, .un, .un, .un, .un, .un, .un, .un], [v1]⟩) = _ ∧ _
  rw [asg_e x2]
  show ∃ (m : Int) (ts : List (Int × Int)) (v' : M), fin (evSs (callF prog (n + 2)) _ ⟨[.ref 0, .m (.fro (.int many)), .m (.fro (.int things)), .un, .un, .un, .un, .un, .un, .un], [v2]⟩) = _ ∧ _
  rw [ss_cons, evS, x3]
  show ∃ (m : Int) (ts : List (Int × Int)) (v' : M), fin (evSs (callF prog (n + 2)) _ ⟨[.ref 0, .m (.fro (.int many)), .m (.fro (.int things)), .un, .un, .m (.fro (.list (order.map .int))), .m (.dct true (kvOf [])), .un, .un, .un], [v3]⟩) = _ ∧ _
  obtain ⟨s', ⟨ps, a, d, e, rfl, p1, p2, p3⟩, ee⟩ := for_n (call := callF prog (n + 2)) (as := _) (t := .nm 3) (it := .rng (.r1 (.var 1))) (b := b3_1) (v := .fro .none) PyData.int (rangeI 0 many) (fun k s => ∃ (ps : List (Int × Int)) (a d e : Sl), s = ⟨[.ref 0, .m (.fro (.int many)), .m (.fro (.int things)), a, .un, .m (.fro (.list (order.map .int))), .m (.dct true (kvOf ps)), .un, d, e], [v3]⟩ ∧ ps.Nodup ∧ (∀ p ∈ ps, Tie things p) ∧ ps.length ≤ k)
    (s := ⟨[.ref 0, .m (.fro (.int many)), .m (.fro (.int things)), .un, .un, .m (.fro (.list (order.map .int))), .m (.dct true (kvOf [])), .un, .un, .un], [v3]⟩) rfl (by simp [pev, pXs, pAnd, pAnd1, pOr, pOr1, pXo, pRg, pIfs, pI, got, goti, kDIn, kDGet, kDSrt, dctS, M.isD, keyD, leafK, leafsK, pfrz, pfrzs, pTup, pLst, pargs, pcall, resM, ptst, pfit_ok, pone, pown, pguard, pint, S.at, M.own, truth, asBool, kBin, kCmp, kIsN, kNeg, kIx, kSl, kBi, kIsi, kSrt, kSeq, qRgI_ok, qRng_ok, kZip, kEnm_map, ofO, view, viewS, M.contS, M.cont, add_ok, add_tup, add_lst, sub_ok, ixD, slD, itemsD, isiD, views, List.range, List.range.loop, bindT, bindTs, wipeS, S.set, List.foldl, ↓obind_m, ↓pOver_m, Option.map_some, Option.map_none, ↓pMap_map, pMap_some, ↓pMap_nil, ↓pMap_cons, some_ite, obool_and, obool_or, fm_one, fm_ite, fm_iteD, fm_bool, boolsD_of, cmpD, dok, dokAll, dokAll_ints, dokAll_ties, dokAll_rows, line, hasD_nil, hasD_cons, hasD_int, hasD_tie, eqv_int, Bool.and_true, Bool.true_and, Bool.or_false, -List.map_take, -List.map_drop, -List.map_tail, -List.map_dropLast, nthD_0, nthD_1, nthD_2, qRgI_ok (lo := 0) (hi := many) (by omega) (by omega) (by omega) (by omega)]) ⟨[], .un, .un, .un, rfl, List.nodup_nil, by simp, by simp⟩ (by
      rintro k x s hx ⟨ps, a, d, e, rfl, p1, p2, p3⟩
      obtain ⟨h1, h2⟩ := rangeI_get hx
      obtain ⟨p, d', e', ee, tp⟩ := ring_web1 (n := n + 2) (v := v3) (ps := ps) (b := .un) (c := .un) (d := d) (e := e) (at_ := x) hp hm4.1 hm4.2.1 hm4.2.2 (by omega) (by omega) (by omega) ⟨p1, p2⟩
      refine ⟨_, _, rfl, ee, _, _, _, _, rfl, addP_nodup p1, fun q hq => ?_, Nat.le_trans (addP_len _ _) (by omega)⟩
      rcases addP_mem hq with hq | rfl
      · exact p2 q hq
      · exact tp)
  rw [ee]
  rw [len_rangeI] at p3
  have x4 : evI (callF prog (n + 2)) (.rng (.r1 (.call 4 (.cons (.var 0) (.cons (.int 3) .nil))))) ⟨[.ref 0, .m (.fro (.int many)), .m (.fro (.int things)), a, .un, .m (.fro (.list (order.map .int))), .m (.dct true (kvOf ps)), .un, d, e], [v3]⟩ = .ok (.m (.fro .none), (rangeI 0 r4).map .int) ⟨[.ref 0, .m (.fro (.int many)), .m (.fro (.int things)), a, .un, .m (.fro (.list (order.map .int))), .m (.dct true (kvOf ps)), .un, d, e], [v4]⟩ := by
    obtain ⟨a1, b1, c1, rfl⟩ := f3.at
    simp [evSs, line, M.isL, kFrz, evS, evE, evAnd, evAnd1, evOr, evOr1, evXs, evXo, evRg, evIfs, evI, bind_ok, bind_ite, rk_ite, rk_ite2, rk_and, rk_or, fin_ite, bindA, S.at, S.set, S.put, Ax.callWith, lend, apart, M.own, tst, truth, ofO, kBin, kCmp, kIsN, kNeg, kTup, kLst, kIx, kSl, kBi, kIsi, kSeq, kInt, kR1, kR2, kZip, kEnm, view, viewS, M.contS, M.cont, binD, biD, ixD, slD, itemsD, asBool, isiD, back, give, giveAll, setAll, giveBack, frz, frzAll, views, List.range, List.range.loop, Ax.fin, bindT, bindTs, keep1, lockS, unlockS, wipeS, unwipe, ownerOf, e4, qRgI_ok (lo := 0) (hi := r4) (by omega) (by omega) (by omega) (by omega)]
  obtain ⟨s', ⟨ps2, b, c, v5, rfl, q1, q2, q3, q4⟩, ee2⟩ := for_nE (call := callF prog (n + 2)) (as := .cons (.ret (.tup (.cons (.var 2) (.cons (.bi .tuple (.cons (.dSrt (.pr .int .int) 6) .nil)) .nil)))) .nil) (t := .nm 4) (b := b3_0) PyData.int (rangeI 0 r4) (fun k s => ∃ (ps : List (Int × Int)) (b c : Sl) (v5 : M), s = ⟨[.ref 0, .m (.fro (.int many)), .m (.fro (.int things)), a, b, .m (.fro (.list (order.map .int))), .m (.dct true (kvOf ps)), c, d, e], [v5]⟩ ∧ ps.Nodup ∧ (∀ p ∈ ps, Tie things p) ∧ ps.length ≤ 6 + k ∧ Fo (N + 503 + 500 * k) v5)
    x4 ⟨ps, .un, .un, v4, rfl, p1, p2, by omega, f4.mono (by omega)⟩ (by
      rintro k x s hx ⟨ps, b, c, v5, rfl, p1, p2, p3, f5⟩
      obtain ⟨h1, h2⟩ := rangeI_get hx
      obtain ⟨p, c', v6, ee, tp, f6⟩ := ring_web2 (n := n) (many := many) (at_ := 0) (ps := ps) (a := a) (b := .m (.fro (.int x))) (c := c) (d := d) (e := e) f5 (by omega) hp (by omega) hm4.2.2 (by omega)
      refine ⟨_, _, rfl, ee, _, _, _, v6, rfl, addP_nodup p1, fun q hq => ?_, Nat.le_trans (addP_len _ _) (by omega), f6.mono (by omega)⟩
      rcases addP_mem hq with hq | rfl
      · exact p2 q hq
      · exact tp)
  rw [len_rangeI] at q3 q4
  rw [ee2]
  have sr : srtD (.pr .int .int) (ps2.map tie) = some ((sortP ps2).map tie) := srtD_tie _ (by omega)
  refine ⟨things, ps2, v5, ?_, Web.of_sort (by omega) (by omega) q2 q1, hm4.2.2, q4.mono (by omega)⟩
  rw [ret_p (.fro (webD things (sortP ps2))) rfl (by simp [pev, pXs, pAnd, pAnd1, pOr, pOr1, pXo, pRg, pIfs, pI, got, goti, kDIn, kDGet, kDSrt, dctS, M.isD, keyD, leafK, leafsK, pfrz, pfrzs, pTup, pLst, pargs, pcall, resM, ptst, pfit_ok, pone, pown, pguard, pint, S.at, M.own, truth, asBool, kBin, kCmp, kIsN, kNeg, kIx, kSl, kBi, kIsi, kSrt, kSeq, qRgI_ok, qRng_ok, kZip, kEnm_map, ofO, view, viewS, M.contS, M.cont, add_ok, add_tup, add_lst, sub_ok, ixD, slD, itemsD, isiD, views, List.range, List.range.loop, bindT, bindTs, wipeS, S.set, List.foldl, ↓obind_m, ↓pOver_m, Option.map_some, Option.map_none, ↓pMap_map, pMap_some, ↓pMap_nil, ↓pMap_cons, some_ite, obool_and, obool_or, fm_one, fm_ite, fm_iteD, fm_bool, boolsD_of, cmpD, dok, dokAll, dokAll_ints, dokAll_ties, dokAll_rows, line, hasD_nil, hasD_cons, hasD_int, hasD_tie, eqv_int, Bool.and_true, Bool.true_and, Bool.or_false, -List.map_take, -List.map_drop, -List.map_tail, -List.map_dropLast, nthD_0, nthD_1, nthD_2, biD, keys_kv, sr])]
  rfl
end K82
namespace K82
open PySem Ax
--# _law_right _law_rings bare_ring is_chordal _law_ring_web _law_equal
theorem fit82 {m : Int} {ts : List (Int × Int)} (W : Web m ts) (hm : m ≤ 6) (b : Bool) : Fit (.list [optRow (firstRing ts m), optRow (firstRing ts m), .bool b, .bool b]) 1000 := by
  have f1 : Fit (optRow (firstRing ts m)) 100 := by
    cases h : firstRing ts m with
    | none => exact Fit.non.mono (by omega)
    | some w =>
      have : w ∈ (List.range (m.toNat - 1)).flatMap (ringsAt ts m) := List.mem_of_mem_head? (by rw [firstRing] at h; exact h)
      obtain ⟨j, hj, hw⟩ := List.mem_flatMap.mp this
      have hj := List.mem_range.mp hj
      rw [ringsAt] at hw
      split at hw
      · obtain ⟨w1, w2, w3⟩ := lawK_mem (List.mem_filter.mp hw).1
        exact (Fit.row (xs := w) fun x hx => ⟨(w3 x hx).1, by have := (w3 x hx).2; omega⟩).mono (by omega)
      · cases hw
  exact (Fit.list (.cons f1 (.cons f1 (.cons (.bool b) (.cons (.bool b) .nil))))).mono (by omega)
theorem body82 {m : Int} {ts : List (Int × Int)} {a b c d : Sl} (W : Web m ts) (hm : m ≤ 6) (u : List M) :
    ∃ c' d' : Sl, evSs (callF prog 28) b2_0 ⟨[a, b, .m (.fro (webD m ts)), c, d], u⟩ = .ok .next ⟨[a, b, .m (.fro (webD m ts)), c', d'], u⟩ := by
  have e1 := law_rings (n := 26) W.lo hm W.len []
  have e2 := bare_ring (n := 19) W hm []
  have e3 := is_chordal (n := 19) W hm []
  have er := rings_eq W
  have F := fit82 W hm (decide (firstRing ts m = none))
  have e4 : callF prog 28 11 [.m (.fro (.list [optRow (firstRing ts m), optRow (firstRing ts m), .bool (decide (firstRing ts m = none)), .bool (decide (firstRing ts m = none))])), .m (.fro (.list [optRow (firstRing ts m), optRow (firstRing ts m), .bool (decide (firstRing ts m = none)), .bool (decide (firstRing ts m = none))]))] [] = .ok (.fro (.bool true)) [] :=
    law_equal (n := 27) (by cases firstRing ts m <;> simp [dok, dokAll, optRow, dokAll_ints]) F.s (Nat.le_trans F.l (by decide)) []
  refine ⟨.m (.fro (.list ((lawRings ts m (m.toNat - 1)).map row))), .m (.fro (optRow (firstRing ts m))), ?_⟩
  rw [b2_0, asg_p (.fro (.list ((lawRings ts m (m.toNat - 1)).map row))) rfl (by simp [pev, pXs, pAnd, pAnd1, pOr, pOr1, pXo, pRg, pIfs, pI, got, goti, kDIn, kDGet, kDSrt, dctS, M.isD, keyD, leafK, leafsK, pfrz, pfrzs, pTup, pLst, pargs, pcall, resM, ptst, pfit_ok, pone, pown, pguard, pint, S.at, M.own, truth, asBool, kBin, kCmp, kIsN, kNeg, kIx, kSl, kBi, kIsi, kSrt, kSeq, qRgI_ok, qRng_ok, kZip, kEnm_map, ofO, view, viewS, M.contS, M.cont, add_ok, add_tup, add_lst, sub_ok, ixD, slD, itemsD, isiD, views, List.range, List.range.loop, bindT, bindTs, wipeS, S.set, List.foldl, ↓obind_m, ↓pOver_m, Option.map_some, Option.map_none, ↓pMap_map, pMap_some, ↓pMap_nil, ↓pMap_cons, some_ite, obool_and, obool_or, fm_one, fm_ite, fm_iteD, fm_bool, boolsD_of, cmpD, dok, dokAll, dokAll_ints, dokAll_ties, dokAll_rows, line, hasD_nil, hasD_cons, hasD_int, hasD_tie, eqv_int, Bool.and_true, Bool.true_and, Bool.or_false, -List.map_take, -List.map_drop, -List.map_tail, -List.map_dropLast, nthD_0, nthD_1, nthD_2, e1])]
  show evSs _ _ ⟨[a, b, .m (.fro (webD m ts)), .m (.fro (.list ((lawRings ts m (m.toNat - 1)).map row))), d], u⟩ = _
  rw [asg_p (.fro (optRow (firstRing ts m))) rfl (by
    rw [← er]
    cases lawRings ts m (m.toNat - 1) <;> simp [pev, pXs, pAnd, pAnd1, pOr, pOr1, pXo, pRg, pIfs, pI, got, goti, kDIn, kDGet, kDSrt, dctS, M.isD, keyD, leafK, leafsK, pfrz, pfrzs, pTup, pLst, pargs, pcall, resM, ptst, pfit_ok, pone, pown, pguard, pint, S.at, M.own, truth, asBool, kBin, kCmp, kIsN, kNeg, kIx, kSl, kBi, kIsi, kSrt, kSeq, qRgI_ok, qRng_ok, kZip, kEnm_map, ofO, view, viewS, M.contS, M.cont, add_ok, add_tup, add_lst, sub_ok, ixD, slD, itemsD, isiD, views, List.range, List.range.loop, bindT, bindTs, wipeS, S.set, List.foldl, ↓obind_m, ↓pOver_m, Option.map_some, Option.map_none, ↓pMap_map, pMap_some, ↓pMap_nil, ↓pMap_cons, some_ite, obool_and, obool_or, fm_one, fm_ite, fm_iteD, fm_bool, boolsD_of, cmpD, dok, dokAll, dokAll_ints, dokAll_ties, dokAll_rows, line, hasD_nil, hasD_cons, hasD_int, hasD_tie, eqv_int, Bool.and_true, Bool.true_and, Bool.or_false, -List.map_take, -List.map_drop, -List.map_tail, -List.map_dropLast, nthD_0, nthD_1, nthD_2, PyData.eqv, eqv_nil, optRow])]
  show evSs _ _ ⟨[a, b, .m (.fro (webD m ts)), .m (.fro (.list ((lawRings ts m (m.toNat - 1)).map row))), .m (.fro (optRow (firstRing ts m)))], u⟩ = _
  rw [guard_p false rfl (by
    cases hf : firstRing ts m <;> rw [hf] at e2 e3 e4 <;> simp only [optRow, reduceCtorEq, decide_false, decide_true] at e2 e3 e4 <;> simp [pev, pXs, pAnd, pAnd1, pOr, pOr1, pXo, pRg, pIfs, pI, got, goti, kDIn, kDGet, kDSrt, dctS, M.isD, keyD, leafK, leafsK, pfrz, pfrzs, pTup, pLst, pargs, pcall, resM, ptst, pfit_ok, pone, pown, pguard, pint, S.at, M.own, truth, asBool, kBin, kCmp, kIsN, kNeg, kIx, kSl, kBi, kIsi, kSrt, kSeq, qRgI_ok, qRng_ok, kZip, kEnm_map, ofO, view, viewS, M.contS, M.cont, add_ok, add_tup, add_lst, sub_ok, ixD, slD, itemsD, isiD, views, List.range, List.range.loop, bindT, bindTs, wipeS, S.set, List.foldl, ↓obind_m, ↓pOver_m, Option.map_some, Option.map_none, ↓pMap_map, pMap_some, ↓pMap_nil, ↓pMap_cons, some_ite, obool_and, obool_or, fm_one, fm_ite, fm_iteD, fm_bool, boolsD_of, cmpD, dok, dokAll, dokAll_ints, dokAll_ties, dokAll_rows, line, hasD_nil, hasD_cons, hasD_int, hasD_tie, eqv_int, Bool.and_true, Bool.true_and, Bool.or_false, -List.map_take, -List.map_drop, -List.map_tail, -List.map_dropLast, nthD_0, nthD_1, nthD_2, e2, e3, e4, optRow]), if_neg (by simp)]
  rfl
theorem right82 (v : M) (N : Int) (h : Fo N v) (hN : N ≤ 600000) : ∃ v', callF prog 29 2 [.lent 0] [v] = .ok (.fro (.bool true)) [v'] ∧ Fo (N + 100000) v' := by
  obtain ⟨m1, ts1, v1, e1, W1, m1b, f1⟩ := ring_web (n := 25) h (by omega)
  obtain ⟨v2, d0, e2, f2, hd⟩ := choose (n := 26) f1 (by omega) [.int 5, .int 6, .int 4, .int 3, .int 2, .int 1, .int 0] (by simp) (by simp)
  obtain ⟨m2, rfl, m20, m26⟩ : ∃ m : Int, d0 = .int m ∧ 0 ≤ m ∧ m ≤ 6 := by
    simp only [List.mem_cons, List.not_mem_nil, or_false] at hd
    rcases hd with rfl | rfl | rfl | rfl | rfl | rfl | rfl <;> exact ⟨_, rfl, by omega, by omega⟩
  obtain ⟨v3, r3, e3, f3, r3a, r3b⟩ := sip (n := 27) f2 (by omega) (k := 2) (by omega) (by omega)
  obtain ⟨ts2, v4, e4, W2, f4⟩ := law_web (n := 26) (m := m2) (o := 2 + r3) f3 (by omega) m20 (by omega) (by omega) (by omega)
  obtain ⟨v5, r5, e5, f5, r5a, r5b⟩ := sip (n := 27) f4 (by omega) (k := 6) (by omega) (by omega)
  obtain ⟨order, ts3, v6, e6, f6, hp, hc⟩ := chordal_web (n := 25) (m := 1 + r5) f5 (by omega) (by omega) (by omega)
  have W3 := hc.web (m := 1 + r5) (fun x hx => mem_rangeI.mp (hp.mem_iff.mp hx)) (by omega) (by omega)
  rw [callF_at (fn := ⟨1, N2.length, b2⟩) rfl rfl]
  show ∃ v', fin (evSs (callF prog 28) b2 ⟨[.ref 0, .un, .un, .un, .un], [v]⟩) = _ ∧ _
  have h1 : evE (callF prog 28) (.frz (.lst (.cons (.call 3 (.cons (.var 0) .nil)) (.cons (.call 6 (.cons (.var 0) (.cons (.call 8 (.cons (.var 0) (.cons (.lst (.cons (.int 5) (.cons (.int 6) (.cons (.int 4) (.cons (.int 3) (.cons (.int 2) (.cons (.int 1) (.cons (.int 0) .nil)))))))) .nil))) (.cons (.bin .Add (.int 2) (.call 4 (.cons (.var 0) (.cons (.int 2) .nil)))) .nil)))) (.cons (.call 7 (.cons (.var 0) (.cons (.bin .Add (.int 1) (.call 4 (.cons (.var 0) (.cons (.int 6) .nil)))) .nil))) .nil))))) ⟨[.ref 0, .un, .un, .un, .un], [v]⟩ =
      .ok (.m (.fro (.list [webD m1 (sortP ts1), webD m2 ts2, webD (1 + r5) (sortP ts3)]))) ⟨[.ref 0, .un, .un, .un, .un], [v6]⟩ := by
    obtain ⟨a1, b1, c1, rfl⟩ := h.at
    obtain ⟨a2, b2, c2, rfl⟩ := f1.at
    obtain ⟨a3, b3, c3, rfl⟩ := f2.at
    obtain ⟨a4, b4, c4, rfl⟩ := f3.at
    obtain ⟨a5, b5, c5, rfl⟩ := f4.at
    obtain ⟨a6, b6, c6, rfl⟩ := f5.at
    simp [evSs, line, M.isL, kFrz, evS, evE, evAnd, evAnd1, evOr, evOr1, evXs, evXo, evRg, evIfs, evI, bind_ok, bind_ite, rk_ite, rk_ite2, rk_and, rk_or, fin_ite, bindA, S.at, S.set, S.put, Ax.callWith, lend, apart, M.own, tst, truth, ofO, kBin, kCmp, kIsN, kNeg, kTup, kLst, kIx, kSl, kBi, kIsi, kSeq, kInt, kR1, kR2, kZip, kEnm, view, viewS, M.contS, M.cont, binD, biD, ixD, slD, itemsD, asBool, isiD, back, give, giveAll, setAll, giveBack, frz, frzAll, views, List.range, List.range.loop, Ax.fin, bindT, bindTs, keep1, lockS, unlockS, wipeS, unwipe, ownerOf, e1, e2, e3, e4, e5, e6]
  rw [b2, asg_e h1]
  obtain ⟨s', ⟨a, b, c, rfl⟩, e⟩ := for_n (call := callF prog 28) (as := .cons (.ret (.cmp .Is (.call 27 (.cons (.ix (.var 1) (.int 2)) .nil)) (.bl true))) .nil) (t := .nm 2) (it := .seq (.var 1)) (b := b2_0) (v := .fro (.list [webD m1 (sortP ts1), webD m2 ts2, webD (1 + r5) (sortP ts3)])) (fun p : Int × List (Int × Int) => webD p.1 p.2) [(m1, sortP ts1), (m2, ts2), (1 + r5, sortP ts3)] (fun k s => ∃ a b c : Sl, s = ⟨[.ref 0, .m (.fro (.list [webD m1 (sortP ts1), webD m2 ts2, webD (1 + r5) (sortP ts3)])), a, b, c], [v6]⟩)
    (s := ⟨[.ref 0, .m (.fro (.list [webD m1 (sortP ts1), webD m2 ts2, webD (1 + r5) (sortP ts3)])), .un, .un, .un], [v6]⟩) rfl (by simp [pev, pXs, pAnd, pAnd1, pOr, pOr1, pXo, pRg, pIfs, pI, got, goti, kDIn, kDGet, kDSrt, dctS, M.isD, keyD, leafK, leafsK, pfrz, pfrzs, pTup, pLst, pargs, pcall, resM, ptst, pfit_ok, pone, pown, pguard, pint, S.at, M.own, truth, asBool, kBin, kCmp, kIsN, kNeg, kIx, kSl, kBi, kIsi, kSrt, kSeq, qRgI_ok, qRng_ok, kZip, kEnm_map, ofO, view, viewS, M.contS, M.cont, add_ok, add_tup, add_lst, sub_ok, ixD, slD, itemsD, isiD, views, List.range, List.range.loop, bindT, bindTs, wipeS, S.set, List.foldl, ↓obind_m, ↓pOver_m, Option.map_some, Option.map_none, ↓pMap_map, pMap_some, ↓pMap_nil, ↓pMap_cons, some_ite, obool_and, obool_or, fm_one, fm_ite, fm_iteD, fm_bool, boolsD_of, cmpD, dok, dokAll, dokAll_ints, dokAll_ties, dokAll_rows, line, hasD_nil, hasD_cons, hasD_int, hasD_tie, eqv_int, Bool.and_true, Bool.true_and, Bool.or_false, -List.map_take, -List.map_drop, -List.map_tail, -List.map_dropLast, nthD_0, nthD_1, nthD_2]) ⟨_, _, _, rfl⟩ (by
      rintro k ⟨m', ts'⟩ s hk ⟨a, b, c, rfl⟩
      have WW : Web m' ts' ∧ m' ≤ 6 := by
        have := List.mem_of_getElem? hk
        simp only [List.mem_cons, List.not_mem_nil, or_false, Prod.mk.injEq] at this
        rcases this with ⟨rfl, rfl⟩ | ⟨rfl, rfl⟩ | ⟨rfl, rfl⟩
        · exact ⟨W1, m1b⟩
        · exact ⟨W2, m26⟩
        · exact ⟨W3, by omega⟩
      obtain ⟨c', d', ee⟩ := body82 (a := .ref 0) (b := .m (.fro (.list [webD m1 (sortP ts1), webD m2 ts2, webD (1 + r5) (sortP ts3)]))) (c := b) (d := c) WW.1 WW.2 [v6]
      exact ⟨_, _, rfl, ee, _, _, _, rfl⟩)
  have ec := is_chordal (n := 19) W3 (by omega) []
  rw [chord_none hc hp] at ec
  refine ⟨v6, ?_, f6.mono (by omega)⟩
  show fin (evSs _ _ ⟨[.ref 0, .m (.fro (.list [webD m1 (sortP ts1), webD m2 ts2, webD (1 + r5) (sortP ts3)])), .un, .un, .un], [v6]⟩) = _
  rw [e, ret_p (.fro (.bool true)) rfl (by simp [pev, pXs, pAnd, pAnd1, pOr, pOr1, pXo, pRg, pIfs, pI, got, goti, kDIn, kDGet, kDSrt, dctS, M.isD, keyD, leafK, leafsK, pfrz, pfrzs, pTup, pLst, pargs, pcall, resM, ptst, pfit_ok, pone, pown, pguard, pint, S.at, M.own, truth, asBool, kBin, kCmp, kIsN, kNeg, kIx, kSl, kBi, kIsi, kSrt, kSeq, qRgI_ok, qRng_ok, kZip, kEnm_map, ofO, view, viewS, M.contS, M.cont, add_ok, add_tup, add_lst, sub_ok, ixD, slD, itemsD, isiD, views, List.range, List.range.loop, bindT, bindTs, wipeS, S.set, List.foldl, ↓obind_m, ↓pOver_m, Option.map_some, Option.map_none, ↓pMap_map, pMap_some, ↓pMap_nil, ↓pMap_cons, some_ite, obool_and, obool_or, fm_one, fm_ite, fm_iteD, fm_bool, boolsD_of, cmpD, dok, dokAll, dokAll_ints, dokAll_ties, dokAll_rows, line, hasD_nil, hasD_cons, hasD_int, hasD_tie, eqv_int, Bool.and_true, Bool.true_and, Bool.or_false, -List.map_take, -List.map_drop, -List.map_tail, -List.map_dropLast, nthD_0, nthD_1, nthD_2, ec])]
  rfl
theorem run : ∀ ns : List Int, ns.length ≤ 63 → ∃ u, callF prog 30 0 [.m (.scr ns)] [] = .ok (.fro (.bool true)) u := law_go right82
end K82
namespace K82
open PySem Ax L2
theorem sc0 : FnScope N0 P0 (defScope t0) := ⟨rfl, rfl, rfl, by decide +kernel, rfl, by decide +kernel, by decide +kernel⟩
theorem ck0 : okSs fnm kwt ⟨N0, defScope t0, none⟩ b0 (defBody t0) = true := by decide +kernel
theorem sc1 : FnScope N1 P1 (defScope t1) := ⟨rfl, rfl, rfl, by decide +kernel, rfl, by decide +kernel, by decide +kernel⟩
theorem ck1 : okSs fnm kwt ⟨N1, defScope t1, none⟩ b1 (defBody t1) = true := by decide +kernel
theorem sc2 : FnScope N2 P2 (defScope t2) := ⟨rfl, rfl, rfl, by decide +kernel, rfl, by decide +kernel, by decide +kernel⟩
theorem ck2 : okSs fnm kwt ⟨N2, defScope t2, none⟩ b2 (defBody t2) = true := by decide +kernel
theorem sc3 : FnScope N3 P3 (defScope t3) := ⟨rfl, rfl, rfl, by decide +kernel, rfl, by decide +kernel, by decide +kernel⟩
theorem ck3 : okSs fnm kwt ⟨N3, defScope t3, none⟩ b3 (defBody t3) = true := by decide +kernel
theorem sc4 : FnScope N4 P4 (defScope t4) := ⟨rfl, rfl, rfl, by decide +kernel, rfl, by decide +kernel, by decide +kernel⟩
theorem ck4 : okSs fnm kwt ⟨N4, defScope t4, none⟩ b4 (defBody t4) = true := by decide +kernel
theorem sc5 : FnScope N5 P5 (defScope t5) := ⟨rfl, rfl, rfl, by decide +kernel, rfl, by decide +kernel, by decide +kernel⟩
theorem ck5 : okSs fnm kwt ⟨N5, defScope t5, none⟩ b5 (defBody t5) = true := by decide +kernel
theorem sc6 : FnScope N6 P6 (defScope t6) := ⟨rfl, rfl, rfl, by decide +kernel, rfl, by decide +kernel, by decide +kernel⟩
theorem ck6 : okSs fnm kwt ⟨N6, defScope t6, none⟩ b6 (defBody t6) = true := by decide +kernel
theorem sc7 : FnScope N7 P7 (defScope t7) := ⟨rfl, rfl, rfl, by decide +kernel, rfl, by decide +kernel, by decide +kernel⟩
theorem ck7 : okSs fnm kwt ⟨N7, defScope t7, none⟩ b7 (defBody t7) = true := by decide +kernel
theorem sc8 : FnScope N8 P8 (defScope t8) := ⟨rfl, rfl, rfl, by decide +kernel, rfl, by decide +kernel, by decide +kernel⟩
theorem ck8 : okSs fnm kwt ⟨N8, defScope t8, none⟩ b8 (defBody t8) = true := by decide +kernel
theorem sc9 : FnScope N9 P9 (defScope t9) := ⟨rfl, rfl, rfl, by decide +kernel, rfl, by decide +kernel, by decide +kernel⟩
theorem ck9 : okSs fnm kwt ⟨N9, defScope t9, none⟩ b9 (defBody t9) = true := by decide +kernel
theorem sc10 : FnScope N10 P10 (defScope t10) := ⟨rfl, rfl, rfl, by decide +kernel, rfl, by decide +kernel, by decide +kernel⟩
theorem ck10 : okSs fnm kwt ⟨N10, defScope t10, none⟩ b10 (defBody t10) = true := by decide +kernel
theorem sc11 : FnScope N11 P11 (defScope t11) := ⟨rfl, rfl, rfl, by decide +kernel, rfl, by decide +kernel, by decide +kernel⟩
theorem ck11 : okSs fnm kwt ⟨N11, defScope t11, none⟩ b11 (defBody t11) = true := by decide +kernel
theorem sc12 : FnScope N12 P12 (defScope t12) := ⟨rfl, rfl, rfl, by decide +kernel, rfl, by decide +kernel, by decide +kernel⟩
theorem ck12 : okSs fnm kwt ⟨N12, defScope t12, none⟩ b12 (defBody t12) = true := by decide +kernel
theorem sc13 : FnScope N13 P13 (defScope t13) := ⟨rfl, rfl, rfl, by decide +kernel, rfl, by decide +kernel, by decide +kernel⟩
theorem ck13 : okSs fnm kwt ⟨N13, defScope t13, none⟩ b13 (defBody t13) = true := by decide +kernel
theorem sc14 : FnScope N14 P14 (defScope t14) := ⟨rfl, rfl, rfl, by decide +kernel, rfl, by decide +kernel, by decide +kernel⟩
theorem ck14 : okSs fnm kwt ⟨N14, defScope t14, none⟩ b14 (defBody t14) = true := by decide +kernel
theorem sc15 : FnScope N15 P15 (defScope t15) := ⟨rfl, rfl, rfl, by decide +kernel, rfl, by decide +kernel, by decide +kernel⟩
theorem ck15 : okSs fnm kwt ⟨N15, defScope t15, none⟩ b15 (defBody t15) = true := by decide +kernel
theorem sc16 : FnScope N16 P16 (defScope t16) := ⟨rfl, rfl, rfl, by decide +kernel, rfl, by decide +kernel, by decide +kernel⟩
theorem ck16 : okSs fnm kwt ⟨N16, defScope t16, none⟩ b16 (defBody t16) = true := by decide +kernel
theorem sc17 : FnScope N17 P17 (defScope t17) := ⟨rfl, rfl, rfl, by decide +kernel, rfl, by decide +kernel, by decide +kernel⟩
theorem ck17 : okSs fnm kwt ⟨N17, defScope t17, none⟩ b17 (defBody t17) = true := by decide +kernel
theorem sc18 : FnScope N18 P18 (defScope t18) := ⟨rfl, rfl, rfl, by decide +kernel, rfl, by decide +kernel, by decide +kernel⟩
theorem ck18 : okSs fnm kwt ⟨N18, defScope t18, none⟩ b18 (defBody t18) = true := by decide +kernel
theorem sc19 : FnScope N19 P19 (defScope t19) := ⟨rfl, rfl, rfl, by decide +kernel, rfl, by decide +kernel, by decide +kernel⟩
theorem ck19 : okSs fnm kwt ⟨N19, defScope t19, none⟩ b19 (defBody t19) = true := by decide +kernel
theorem sc20 : FnScope N20 P20 (defScope t20) := ⟨rfl, rfl, rfl, by decide +kernel, rfl, by decide +kernel, by decide +kernel⟩
theorem ck20 : okSs fnm kwt ⟨N20, defScope t20, none⟩ b20 (defBody t20) = true := by decide +kernel
theorem sc21 : FnScope N21 P21 (defScope t21) := ⟨rfl, rfl, rfl, by decide +kernel, rfl, by decide +kernel, by decide +kernel⟩
theorem ck21 : okSs fnm kwt ⟨N21, defScope t21, none⟩ b21 (defBody t21) = true := by decide +kernel
theorem sc22 : FnScope N22 P22 (defScope t22) := ⟨rfl, rfl, rfl, by decide +kernel, rfl, by decide +kernel, by decide +kernel⟩
theorem ck22 : okSs fnm kwt ⟨N22, defScope t22, none⟩ b22 (defBody t22) = true := by decide +kernel
theorem sc23 : FnScope N23 P23 (defScope t23) := ⟨rfl, rfl, rfl, by decide +kernel, rfl, by decide +kernel, by decide +kernel⟩
theorem ck23 : okSs fnm kwt ⟨N23, defScope t23, none⟩ b23 (defBody t23) = true := by decide +kernel
theorem sc24 : FnScope N24 P24 (defScope t24) := ⟨rfl, rfl, rfl, by decide +kernel, rfl, by decide +kernel, by decide +kernel⟩
theorem ck24 : okSs fnm kwt ⟨N24, defScope t24, none⟩ b24 (defBody t24) = true := by decide +kernel
theorem sc25 : FnScope N25 P25 (defScope t25) := ⟨rfl, rfl, rfl, by decide +kernel, rfl, by decide +kernel, by decide +kernel⟩
theorem ck25 : okSs fnm kwt ⟨N25, defScope t25, none⟩ b25 (defBody t25) = true := by decide +kernel
theorem sc26 : FnScope N26 P26 (defScope t26) := ⟨rfl, rfl, rfl, by decide +kernel, rfl, by decide +kernel, by decide +kernel⟩
theorem ck26 : okSs fnm kwt ⟨N26, defScope t26, none⟩ b26 (defBody t26) = true := by decide +kernel
theorem sc27 : FnScope N27 P27 (defScope t27) := ⟨rfl, rfl, rfl, by decide +kernel, rfl, by decide +kernel, by decide +kernel⟩
theorem ck27 : okSs fnm kwt ⟨N27, defScope t27, none⟩ b27 (defBody t27) = true := by decide +kernel
/-- what the top has left -/
structure Top (K : PySem.W.Frag) (a0 a1 a2 a3 a4 a5 a6 a7 a8 a9 a10 a11 a12 a13 a14 a15 a16 a17 a18 a19 a20 a21 a22 a23 a24 a25 a26 a27 : Addr) : Prop where
  f0 : AtTop K "law" t0 a0
  f1 : AtTop K "_law_fount" t1 a1
  f2 : AtTop K "_law_right" t2 a2
  f3 : AtTop K "_law_ring_web" t3 a3
  f4 : AtTop K "_law_sip" t4 a4
  f5 : AtTop K "_law_shuffled" t5 a5
  f6 : AtTop K "_law_web" t6 a6
  f7 : AtTop K "_law_chordal_web" t7 a7
  f8 : AtTop K "_law_choose" t8 a8
  f9 : AtTop K "_law_rings" t9 a9
  f10 : AtTop K "_law_is_ring" t10 a10
  f11 : AtTop K "_law_equal" t11 a11
  f12 : AtTop K "bare_ring" t12 a12
  f13 : AtTop K "check_web" t13 a13
  f14 : AtTop K "fault_of" t14 a14
  f15 : AtTop K "is_tuple" t15 a15
  f16 : AtTop K "is_from" t16 a16
  f17 : AtTop K "is_integer" t17 a17
  f18 : AtTop K "pairs_fault" t18 a18
  f19 : AtTop K "is_ascending" t19 a19
  f20 : AtTop K "is_tie" t20 a20
  f21 : AtTop K "is_pair" t21 a21
  f22 : AtTop K "is_below" t22 a22
  f23 : AtTop K "bare_ring_in" t23 a23
  f24 : AtTop K "bare_ways" t24 a24
  f25 : AtTop K "near_in" t25 a25
  f26 : AtTop K "is_bare_ring" t26 a26
  f27 : AtTop K "is_chordal" t27 a27
  z_len : PySem.W.nsIn K mainGlobals "len" = some none
  z_tuple : PySem.W.nsIn K mainGlobals "tuple" = some none
  z_list : PySem.W.nsIn K mainGlobals "list" = some none
  z_all : PySem.W.nsIn K mainGlobals "all" = some none
  z_any : PySem.W.nsIn K mainGlobals "any" = some none
  z_min : PySem.W.nsIn K mainGlobals "min" = some none
  z_max : PySem.W.nsIn K mainGlobals "max" = some none
  z_abs : PySem.W.nsIn K mainGlobals "abs" = some none
  z_int : PySem.W.nsIn K mainGlobals "int" = some none
  z_repr : PySem.W.nsIn K mainGlobals "repr" = some none
  z_isinstance : PySem.W.nsIn K mainGlobals "isinstance" = some none
  z_range : PySem.W.nsIn K mainGlobals "range" = some none
  z_set : PySem.W.nsIn K mainGlobals "set" = some none
  z_sorted : PySem.W.nsIn K mainGlobals "sorted" = some none
  z_zip : PySem.W.nsIn K mainGlobals "zip" = some none
  z_enumerate : PySem.W.nsIn K mainGlobals "enumerate" = some none
  z_bool : PySem.W.nsIn K mainGlobals "bool" = some none
  z_str : PySem.W.nsIn K mainGlobals "str" = some none
  z_dict : PySem.W.nsIn K mainGlobals "dict" = some none
section
variable {K : PySem.W.Frag} {mg : Str → Option Value} {h : Heap} {a0 a1 a2 a3 a4 a5 a6 a7 a8 a9 a10 a11 a12 a13 a14 a15 a16 a17 a18 a19 a20 a21 a22 a23 a24 a25 a26 a27 : Addr}
abbrev adr (a0 a1 a2 a3 a4 a5 a6 a7 a8 a9 a10 a11 a12 a13 a14 a15 a16 a17 a18 a19 a20 a21 a22 a23 a24 a25 a26 a27 : Addr) : Nat → Addr := fun i => [a0, a1, a2, a3, a4, a5, a6, a7, a8, a9, a10, a11, a12, a13, a14, a15, a16, a17, a18, a19, a20, a21, a22, a23, a24, a25, a26, a27].getD i 0
theorem da0 (inK : K.In h) (G : h.Ns mainGlobals mg) (T : Top K a0 a1 a2 a3 a4 a5 a6 a7 a8 a9 a10 a11 a12 a13 a14 a15 a16 a17 a18 a19 a20 a21 a22 a23 a24 a25 a26 a27) : FnDat fnm kwt (adr a0 a1 a2 a3 a4 a5 a6 a7 a8 a9 a10 a11 a12 a13 a14 a15 a16 a17 a18 a19 a20 a21 a22 a23 a24 a25 a26 a27) K mg 0 ⟨1, N0.length, b0⟩ := by
  refine datum inK G (show AtTop K (fnm 0) t0 (adr a0 a1 a2 a3 a4 a5 a6 a7 a8 a9 a10 a11 a12 a13 a14 a15 a16 a17 a18 a19 a20 a21 a22 a23 a24 a25 a26 a27 0) from T.f0) sc0 ck0 rfl rfl (fun kV dc pm cd ct an us hl => ?_) fun kV dc pm cd ct an ks perm hne hm => ?_
  · match us, hl with
    | [_], _ => rfl
  · simp [kwt, fnm, fnl] at hm
theorem da1 (inK : K.In h) (G : h.Ns mainGlobals mg) (T : Top K a0 a1 a2 a3 a4 a5 a6 a7 a8 a9 a10 a11 a12 a13 a14 a15 a16 a17 a18 a19 a20 a21 a22 a23 a24 a25 a26 a27) : FnDat fnm kwt (adr a0 a1 a2 a3 a4 a5 a6 a7 a8 a9 a10 a11 a12 a13 a14 a15 a16 a17 a18 a19 a20 a21 a22 a23 a24 a25 a26 a27) K mg 1 ⟨2, N1.length, b1⟩ := by
  refine datum inK G (show AtTop K (fnm 1) t1 (adr a0 a1 a2 a3 a4 a5 a6 a7 a8 a9 a10 a11 a12 a13 a14 a15 a16 a17 a18 a19 a20 a21 a22 a23 a24 a25 a26 a27 1) from T.f1) sc1 ck1 rfl rfl (fun kV dc pm cd ct an us hl => ?_) fun kV dc pm cd ct an ks perm hne hm => ?_
  · match us, hl with
    | [_, _], _ => rfl
  · simp [kwt, fnm, fnl] at hm
theorem da2 (inK : K.In h) (G : h.Ns mainGlobals mg) (T : Top K a0 a1 a2 a3 a4 a5 a6 a7 a8 a9 a10 a11 a12 a13 a14 a15 a16 a17 a18 a19 a20 a21 a22 a23 a24 a25 a26 a27) : FnDat fnm kwt (adr a0 a1 a2 a3 a4 a5 a6 a7 a8 a9 a10 a11 a12 a13 a14 a15 a16 a17 a18 a19 a20 a21 a22 a23 a24 a25 a26 a27) K mg 2 ⟨1, N2.length, b2⟩ := by
  refine datum inK G (show AtTop K (fnm 2) t2 (adr a0 a1 a2 a3 a4 a5 a6 a7 a8 a9 a10 a11 a12 a13 a14 a15 a16 a17 a18 a19 a20 a21 a22 a23 a24 a25 a26 a27 2) from T.f2) sc2 ck2 rfl rfl (fun kV dc pm cd ct an us hl => ?_) fun kV dc pm cd ct an ks perm hne hm => ?_
  · match us, hl with
    | [_], _ => rfl
  · simp [kwt, fnm, fnl] at hm
theorem da3 (inK : K.In h) (G : h.Ns mainGlobals mg) (T : Top K a0 a1 a2 a3 a4 a5 a6 a7 a8 a9 a10 a11 a12 a13 a14 a15 a16 a17 a18 a19 a20 a21 a22 a23 a24 a25 a26 a27) : FnDat fnm kwt (adr a0 a1 a2 a3 a4 a5 a6 a7 a8 a9 a10 a11 a12 a13 a14 a15 a16 a17 a18 a19 a20 a21 a22 a23 a24 a25 a26 a27) K mg 3 ⟨1, N3.length, b3⟩ := by
  refine datum inK G (show AtTop K (fnm 3) t3 (adr a0 a1 a2 a3 a4 a5 a6 a7 a8 a9 a10 a11 a12 a13 a14 a15 a16 a17 a18 a19 a20 a21 a22 a23 a24 a25 a26 a27 3) from T.f3) sc3 ck3 rfl rfl (fun kV dc pm cd ct an us hl => ?_) fun kV dc pm cd ct an ks perm hne hm => ?_
  · match us, hl with
    | [_], _ => rfl
  · simp [kwt, fnm, fnl] at hm
theorem da4 (inK : K.In h) (G : h.Ns mainGlobals mg) (T : Top K a0 a1 a2 a3 a4 a5 a6 a7 a8 a9 a10 a11 a12 a13 a14 a15 a16 a17 a18 a19 a20 a21 a22 a23 a24 a25 a26 a27) : FnDat fnm kwt (adr a0 a1 a2 a3 a4 a5 a6 a7 a8 a9 a10 a11 a12 a13 a14 a15 a16 a17 a18 a19 a20 a21 a22 a23 a24 a25 a26 a27) K mg 4 ⟨2, N4.length, b4⟩ := by
  refine datum inK G (show AtTop K (fnm 4) t4 (adr a0 a1 a2 a3 a4 a5 a6 a7 a8 a9 a10 a11 a12 a13 a14 a15 a16 a17 a18 a19 a20 a21 a22 a23 a24 a25 a26 a27 4) from T.f4) sc4 ck4 rfl rfl (fun kV dc pm cd ct an us hl => ?_) fun kV dc pm cd ct an ks perm hne hm => ?_
  · match us, hl with
    | [_, _], _ => rfl
  · simp [kwt, fnm, fnl] at hm
theorem da5 (inK : K.In h) (G : h.Ns mainGlobals mg) (T : Top K a0 a1 a2 a3 a4 a5 a6 a7 a8 a9 a10 a11 a12 a13 a14 a15 a16 a17 a18 a19 a20 a21 a22 a23 a24 a25 a26 a27) : FnDat fnm kwt (adr a0 a1 a2 a3 a4 a5 a6 a7 a8 a9 a10 a11 a12 a13 a14 a15 a16 a17 a18 a19 a20 a21 a22 a23 a24 a25 a26 a27) K mg 5 ⟨2, N5.length, b5⟩ := by
  refine datum inK G (show AtTop K (fnm 5) t5 (adr a0 a1 a2 a3 a4 a5 a6 a7 a8 a9 a10 a11 a12 a13 a14 a15 a16 a17 a18 a19 a20 a21 a22 a23 a24 a25 a26 a27 5) from T.f5) sc5 ck5 rfl rfl (fun kV dc pm cd ct an us hl => ?_) fun kV dc pm cd ct an ks perm hne hm => ?_
  · match us, hl with
    | [_, _], _ => rfl
  · simp [kwt, fnm, fnl] at hm
theorem da6 (inK : K.In h) (G : h.Ns mainGlobals mg) (T : Top K a0 a1 a2 a3 a4 a5 a6 a7 a8 a9 a10 a11 a12 a13 a14 a15 a16 a17 a18 a19 a20 a21 a22 a23 a24 a25 a26 a27) : FnDat fnm kwt (adr a0 a1 a2 a3 a4 a5 a6 a7 a8 a9 a10 a11 a12 a13 a14 a15 a16 a17 a18 a19 a20 a21 a22 a23 a24 a25 a26 a27) K mg 6 ⟨3, N6.length, b6⟩ := by
  refine datum inK G (show AtTop K (fnm 6) t6 (adr a0 a1 a2 a3 a4 a5 a6 a7 a8 a9 a10 a11 a12 a13 a14 a15 a16 a17 a18 a19 a20 a21 a22 a23 a24 a25 a26 a27 6) from T.f6) sc6 ck6 rfl rfl (fun kV dc pm cd ct an us hl => ?_) fun kV dc pm cd ct an ks perm hne hm => ?_
  · match us, hl with
    | [_, _, _], _ => rfl
  · simp [kwt, fnm, fnl] at hm
theorem da7 (inK : K.In h) (G : h.Ns mainGlobals mg) (T : Top K a0 a1 a2 a3 a4 a5 a6 a7 a8 a9 a10 a11 a12 a13 a14 a15 a16 a17 a18 a19 a20 a21 a22 a23 a24 a25 a26 a27) : FnDat fnm kwt (adr a0 a1 a2 a3 a4 a5 a6 a7 a8 a9 a10 a11 a12 a13 a14 a15 a16 a17 a18 a19 a20 a21 a22 a23 a24 a25 a26 a27) K mg 7 ⟨2, N7.length, b7⟩ := by
  refine datum inK G (show AtTop K (fnm 7) t7 (adr a0 a1 a2 a3 a4 a5 a6 a7 a8 a9 a10 a11 a12 a13 a14 a15 a16 a17 a18 a19 a20 a21 a22 a23 a24 a25 a26 a27 7) from T.f7) sc7 ck7 rfl rfl (fun kV dc pm cd ct an us hl => ?_) fun kV dc pm cd ct an ks perm hne hm => ?_
  · match us, hl with
    | [_, _], _ => rfl
  · simp [kwt, fnm, fnl] at hm
theorem da8 (inK : K.In h) (G : h.Ns mainGlobals mg) (T : Top K a0 a1 a2 a3 a4 a5 a6 a7 a8 a9 a10 a11 a12 a13 a14 a15 a16 a17 a18 a19 a20 a21 a22 a23 a24 a25 a26 a27) : FnDat fnm kwt (adr a0 a1 a2 a3 a4 a5 a6 a7 a8 a9 a10 a11 a12 a13 a14 a15 a16 a17 a18 a19 a20 a21 a22 a23 a24 a25 a26 a27) K mg 8 ⟨2, N8.length, b8⟩ := by
  refine datum inK G (show AtTop K (fnm 8) t8 (adr a0 a1 a2 a3 a4 a5 a6 a7 a8 a9 a10 a11 a12 a13 a14 a15 a16 a17 a18 a19 a20 a21 a22 a23 a24 a25 a26 a27 8) from T.f8) sc8 ck8 rfl rfl (fun kV dc pm cd ct an us hl => ?_) fun kV dc pm cd ct an ks perm hne hm => ?_
  · match us, hl with
    | [_, _], _ => rfl
  · simp [kwt, fnm, fnl] at hm
theorem da9 (inK : K.In h) (G : h.Ns mainGlobals mg) (T : Top K a0 a1 a2 a3 a4 a5 a6 a7 a8 a9 a10 a11 a12 a13 a14 a15 a16 a17 a18 a19 a20 a21 a22 a23 a24 a25 a26 a27) : FnDat fnm kwt (adr a0 a1 a2 a3 a4 a5 a6 a7 a8 a9 a10 a11 a12 a13 a14 a15 a16 a17 a18 a19 a20 a21 a22 a23 a24 a25 a26 a27) K mg 9 ⟨1, N9.length, b9⟩ := by
  refine datum inK G (show AtTop K (fnm 9) t9 (adr a0 a1 a2 a3 a4 a5 a6 a7 a8 a9 a10 a11 a12 a13 a14 a15 a16 a17 a18 a19 a20 a21 a22 a23 a24 a25 a26 a27 9) from T.f9) sc9 ck9 rfl rfl (fun kV dc pm cd ct an us hl => ?_) fun kV dc pm cd ct an ks perm hne hm => ?_
  · match us, hl with
    | [_], _ => rfl
  · simp [kwt, fnm, fnl] at hm
theorem da10 (inK : K.In h) (G : h.Ns mainGlobals mg) (T : Top K a0 a1 a2 a3 a4 a5 a6 a7 a8 a9 a10 a11 a12 a13 a14 a15 a16 a17 a18 a19 a20 a21 a22 a23 a24 a25 a26 a27) : FnDat fnm kwt (adr a0 a1 a2 a3 a4 a5 a6 a7 a8 a9 a10 a11 a12 a13 a14 a15 a16 a17 a18 a19 a20 a21 a22 a23 a24 a25 a26 a27) K mg 10 ⟨2, N10.length, b10⟩ := by
  refine datum inK G (show AtTop K (fnm 10) t10 (adr a0 a1 a2 a3 a4 a5 a6 a7 a8 a9 a10 a11 a12 a13 a14 a15 a16 a17 a18 a19 a20 a21 a22 a23 a24 a25 a26 a27 10) from T.f10) sc10 ck10 rfl rfl (fun kV dc pm cd ct an us hl => ?_) fun kV dc pm cd ct an ks perm hne hm => ?_
  · match us, hl with
    | [_, _], _ => rfl
  · simp [kwt, fnm, fnl] at hm
theorem da11 (inK : K.In h) (G : h.Ns mainGlobals mg) (T : Top K a0 a1 a2 a3 a4 a5 a6 a7 a8 a9 a10 a11 a12 a13 a14 a15 a16 a17 a18 a19 a20 a21 a22 a23 a24 a25 a26 a27) : FnDat fnm kwt (adr a0 a1 a2 a3 a4 a5 a6 a7 a8 a9 a10 a11 a12 a13 a14 a15 a16 a17 a18 a19 a20 a21 a22 a23 a24 a25 a26 a27) K mg 11 ⟨2, N11.length, b11⟩ := by
  refine datum inK G (show AtTop K (fnm 11) t11 (adr a0 a1 a2 a3 a4 a5 a6 a7 a8 a9 a10 a11 a12 a13 a14 a15 a16 a17 a18 a19 a20 a21 a22 a23 a24 a25 a26 a27 11) from T.f11) sc11 ck11 rfl rfl (fun kV dc pm cd ct an us hl => ?_) fun kV dc pm cd ct an ks perm hne hm => ?_
  · match us, hl with
    | [_, _], _ => rfl
  · simp [kwt, fnm, fnl] at hm
theorem da12 (inK : K.In h) (G : h.Ns mainGlobals mg) (T : Top K a0 a1 a2 a3 a4 a5 a6 a7 a8 a9 a10 a11 a12 a13 a14 a15 a16 a17 a18 a19 a20 a21 a22 a23 a24 a25 a26 a27) : FnDat fnm kwt (adr a0 a1 a2 a3 a4 a5 a6 a7 a8 a9 a10 a11 a12 a13 a14 a15 a16 a17 a18 a19 a20 a21 a22 a23 a24 a25 a26 a27) K mg 12 ⟨1, N12.length, b12⟩ := by
  refine datum inK G (show AtTop K (fnm 12) t12 (adr a0 a1 a2 a3 a4 a5 a6 a7 a8 a9 a10 a11 a12 a13 a14 a15 a16 a17 a18 a19 a20 a21 a22 a23 a24 a25 a26 a27 12) from T.f12) sc12 ck12 rfl rfl (fun kV dc pm cd ct an us hl => ?_) fun kV dc pm cd ct an ks perm hne hm => ?_
  · match us, hl with
    | [_], _ => rfl
  · simp [kwt, fnm, fnl] at hm
    obtain ⟨rfl, rfl⟩ := hm
    · intro s us ws _ hk hl hn
      have hw : ws.length = 1 := hk.symm
      have hn2 : us.length + ws.length = 1 := hn
      have hu : us.length = 0 := by omega
      match us, ws, hu, hw with
      | [], [_], _, _ => exact BindsTo.of_eq rfl
theorem da13 (inK : K.In h) (G : h.Ns mainGlobals mg) (T : Top K a0 a1 a2 a3 a4 a5 a6 a7 a8 a9 a10 a11 a12 a13 a14 a15 a16 a17 a18 a19 a20 a21 a22 a23 a24 a25 a26 a27) : FnDat fnm kwt (adr a0 a1 a2 a3 a4 a5 a6 a7 a8 a9 a10 a11 a12 a13 a14 a15 a16 a17 a18 a19 a20 a21 a22 a23 a24 a25 a26 a27) K mg 13 ⟨1, N13.length, b13⟩ := by
  refine datum inK G (show AtTop K (fnm 13) t13 (adr a0 a1 a2 a3 a4 a5 a6 a7 a8 a9 a10 a11 a12 a13 a14 a15 a16 a17 a18 a19 a20 a21 a22 a23 a24 a25 a26 a27 13) from T.f13) sc13 ck13 rfl rfl (fun kV dc pm cd ct an us hl => ?_) fun kV dc pm cd ct an ks perm hne hm => ?_
  · match us, hl with
    | [_], _ => rfl
  · simp [kwt, fnm, fnl] at hm
theorem da14 (inK : K.In h) (G : h.Ns mainGlobals mg) (T : Top K a0 a1 a2 a3 a4 a5 a6 a7 a8 a9 a10 a11 a12 a13 a14 a15 a16 a17 a18 a19 a20 a21 a22 a23 a24 a25 a26 a27) : FnDat fnm kwt (adr a0 a1 a2 a3 a4 a5 a6 a7 a8 a9 a10 a11 a12 a13 a14 a15 a16 a17 a18 a19 a20 a21 a22 a23 a24 a25 a26 a27) K mg 14 ⟨1, N14.length, b14⟩ := by
  refine datum inK G (show AtTop K (fnm 14) t14 (adr a0 a1 a2 a3 a4 a5 a6 a7 a8 a9 a10 a11 a12 a13 a14 a15 a16 a17 a18 a19 a20 a21 a22 a23 a24 a25 a26 a27 14) from T.f14) sc14 ck14 rfl rfl (fun kV dc pm cd ct an us hl => ?_) fun kV dc pm cd ct an ks perm hne hm => ?_
  · match us, hl with
    | [_], _ => rfl
  · simp [kwt, fnm, fnl] at hm
theorem da15 (inK : K.In h) (G : h.Ns mainGlobals mg) (T : Top K a0 a1 a2 a3 a4 a5 a6 a7 a8 a9 a10 a11 a12 a13 a14 a15 a16 a17 a18 a19 a20 a21 a22 a23 a24 a25 a26 a27) : FnDat fnm kwt (adr a0 a1 a2 a3 a4 a5 a6 a7 a8 a9 a10 a11 a12 a13 a14 a15 a16 a17 a18 a19 a20 a21 a22 a23 a24 a25 a26 a27) K mg 15 ⟨2, N15.length, b15⟩ := by
  refine datum inK G (show AtTop K (fnm 15) t15 (adr a0 a1 a2 a3 a4 a5 a6 a7 a8 a9 a10 a11 a12 a13 a14 a15 a16 a17 a18 a19 a20 a21 a22 a23 a24 a25 a26 a27 15) from T.f15) sc15 ck15 rfl rfl (fun kV dc pm cd ct an us hl => ?_) fun kV dc pm cd ct an ks perm hne hm => ?_
  · match us, hl with
    | [_, _], _ => rfl
  · simp [kwt, fnm, fnl] at hm
theorem da16 (inK : K.In h) (G : h.Ns mainGlobals mg) (T : Top K a0 a1 a2 a3 a4 a5 a6 a7 a8 a9 a10 a11 a12 a13 a14 a15 a16 a17 a18 a19 a20 a21 a22 a23 a24 a25 a26 a27) : FnDat fnm kwt (adr a0 a1 a2 a3 a4 a5 a6 a7 a8 a9 a10 a11 a12 a13 a14 a15 a16 a17 a18 a19 a20 a21 a22 a23 a24 a25 a26 a27) K mg 16 ⟨2, N16.length, b16⟩ := by
  refine datum inK G (show AtTop K (fnm 16) t16 (adr a0 a1 a2 a3 a4 a5 a6 a7 a8 a9 a10 a11 a12 a13 a14 a15 a16 a17 a18 a19 a20 a21 a22 a23 a24 a25 a26 a27 16) from T.f16) sc16 ck16 rfl rfl (fun kV dc pm cd ct an us hl => ?_) fun kV dc pm cd ct an ks perm hne hm => ?_
  · match us, hl with
    | [_, _], _ => rfl
  · simp [kwt, fnm, fnl] at hm
theorem da17 (inK : K.In h) (G : h.Ns mainGlobals mg) (T : Top K a0 a1 a2 a3 a4 a5 a6 a7 a8 a9 a10 a11 a12 a13 a14 a15 a16 a17 a18 a19 a20 a21 a22 a23 a24 a25 a26 a27) : FnDat fnm kwt (adr a0 a1 a2 a3 a4 a5 a6 a7 a8 a9 a10 a11 a12 a13 a14 a15 a16 a17 a18 a19 a20 a21 a22 a23 a24 a25 a26 a27) K mg 17 ⟨1, N17.length, b17⟩ := by
  refine datum inK G (show AtTop K (fnm 17) t17 (adr a0 a1 a2 a3 a4 a5 a6 a7 a8 a9 a10 a11 a12 a13 a14 a15 a16 a17 a18 a19 a20 a21 a22 a23 a24 a25 a26 a27 17) from T.f17) sc17 ck17 rfl rfl (fun kV dc pm cd ct an us hl => ?_) fun kV dc pm cd ct an ks perm hne hm => ?_
  · match us, hl with
    | [_], _ => rfl
  · simp [kwt, fnm, fnl] at hm
theorem da18 (inK : K.In h) (G : h.Ns mainGlobals mg) (T : Top K a0 a1 a2 a3 a4 a5 a6 a7 a8 a9 a10 a11 a12 a13 a14 a15 a16 a17 a18 a19 a20 a21 a22 a23 a24 a25 a26 a27) : FnDat fnm kwt (adr a0 a1 a2 a3 a4 a5 a6 a7 a8 a9 a10 a11 a12 a13 a14 a15 a16 a17 a18 a19 a20 a21 a22 a23 a24 a25 a26 a27) K mg 18 ⟨3, N18.length, b18⟩ := by
  refine datum inK G (show AtTop K (fnm 18) t18 (adr a0 a1 a2 a3 a4 a5 a6 a7 a8 a9 a10 a11 a12 a13 a14 a15 a16 a17 a18 a19 a20 a21 a22 a23 a24 a25 a26 a27 18) from T.f18) sc18 ck18 rfl rfl (fun kV dc pm cd ct an us hl => ?_) fun kV dc pm cd ct an ks perm hne hm => ?_
  · match us, hl with
    | [_, _, _], _ => rfl
  · simp [kwt, fnm, fnl] at hm
theorem da19 (inK : K.In h) (G : h.Ns mainGlobals mg) (T : Top K a0 a1 a2 a3 a4 a5 a6 a7 a8 a9 a10 a11 a12 a13 a14 a15 a16 a17 a18 a19 a20 a21 a22 a23 a24 a25 a26 a27) : FnDat fnm kwt (adr a0 a1 a2 a3 a4 a5 a6 a7 a8 a9 a10 a11 a12 a13 a14 a15 a16 a17 a18 a19 a20 a21 a22 a23 a24 a25 a26 a27) K mg 19 ⟨1, N19.length, b19⟩ := by
  refine datum inK G (show AtTop K (fnm 19) t19 (adr a0 a1 a2 a3 a4 a5 a6 a7 a8 a9 a10 a11 a12 a13 a14 a15 a16 a17 a18 a19 a20 a21 a22 a23 a24 a25 a26 a27 19) from T.f19) sc19 ck19 rfl rfl (fun kV dc pm cd ct an us hl => ?_) fun kV dc pm cd ct an ks perm hne hm => ?_
  · match us, hl with
    | [_], _ => rfl
  · simp [kwt, fnm, fnl] at hm
theorem da20 (inK : K.In h) (G : h.Ns mainGlobals mg) (T : Top K a0 a1 a2 a3 a4 a5 a6 a7 a8 a9 a10 a11 a12 a13 a14 a15 a16 a17 a18 a19 a20 a21 a22 a23 a24 a25 a26 a27) : FnDat fnm kwt (adr a0 a1 a2 a3 a4 a5 a6 a7 a8 a9 a10 a11 a12 a13 a14 a15 a16 a17 a18 a19 a20 a21 a22 a23 a24 a25 a26 a27) K mg 20 ⟨2, N20.length, b20⟩ := by
  refine datum inK G (show AtTop K (fnm 20) t20 (adr a0 a1 a2 a3 a4 a5 a6 a7 a8 a9 a10 a11 a12 a13 a14 a15 a16 a17 a18 a19 a20 a21 a22 a23 a24 a25 a26 a27 20) from T.f20) sc20 ck20 rfl rfl (fun kV dc pm cd ct an us hl => ?_) fun kV dc pm cd ct an ks perm hne hm => ?_
  · match us, hl with
    | [_, _], _ => rfl
  · simp [kwt, fnm, fnl] at hm
    exact (hne hm.1).elim
theorem da21 (inK : K.In h) (G : h.Ns mainGlobals mg) (T : Top K a0 a1 a2 a3 a4 a5 a6 a7 a8 a9 a10 a11 a12 a13 a14 a15 a16 a17 a18 a19 a20 a21 a22 a23 a24 a25 a26 a27) : FnDat fnm kwt (adr a0 a1 a2 a3 a4 a5 a6 a7 a8 a9 a10 a11 a12 a13 a14 a15 a16 a17 a18 a19 a20 a21 a22 a23 a24 a25 a26 a27) K mg 21 ⟨2, N21.length, b21⟩ := by
  refine datum inK G (show AtTop K (fnm 21) t21 (adr a0 a1 a2 a3 a4 a5 a6 a7 a8 a9 a10 a11 a12 a13 a14 a15 a16 a17 a18 a19 a20 a21 a22 a23 a24 a25 a26 a27 21) from T.f21) sc21 ck21 rfl rfl (fun kV dc pm cd ct an us hl => ?_) fun kV dc pm cd ct an ks perm hne hm => ?_
  · match us, hl with
    | [_, _], _ => rfl
  · simp [kwt, fnm, fnl] at hm
theorem da22 (inK : K.In h) (G : h.Ns mainGlobals mg) (T : Top K a0 a1 a2 a3 a4 a5 a6 a7 a8 a9 a10 a11 a12 a13 a14 a15 a16 a17 a18 a19 a20 a21 a22 a23 a24 a25 a26 a27) : FnDat fnm kwt (adr a0 a1 a2 a3 a4 a5 a6 a7 a8 a9 a10 a11 a12 a13 a14 a15 a16 a17 a18 a19 a20 a21 a22 a23 a24 a25 a26 a27) K mg 22 ⟨2, N22.length, b22⟩ := by
  refine datum inK G (show AtTop K (fnm 22) t22 (adr a0 a1 a2 a3 a4 a5 a6 a7 a8 a9 a10 a11 a12 a13 a14 a15 a16 a17 a18 a19 a20 a21 a22 a23 a24 a25 a26 a27 22) from T.f22) sc22 ck22 rfl rfl (fun kV dc pm cd ct an us hl => ?_) fun kV dc pm cd ct an ks perm hne hm => ?_
  · match us, hl with
    | [_, _], _ => rfl
  · simp [kwt, fnm, fnl] at hm
theorem da23 (inK : K.In h) (G : h.Ns mainGlobals mg) (T : Top K a0 a1 a2 a3 a4 a5 a6 a7 a8 a9 a10 a11 a12 a13 a14 a15 a16 a17 a18 a19 a20 a21 a22 a23 a24 a25 a26 a27) : FnDat fnm kwt (adr a0 a1 a2 a3 a4 a5 a6 a7 a8 a9 a10 a11 a12 a13 a14 a15 a16 a17 a18 a19 a20 a21 a22 a23 a24 a25 a26 a27) K mg 23 ⟨1, N23.length, b23⟩ := by
  refine datum inK G (show AtTop K (fnm 23) t23 (adr a0 a1 a2 a3 a4 a5 a6 a7 a8 a9 a10 a11 a12 a13 a14 a15 a16 a17 a18 a19 a20 a21 a22 a23 a24 a25 a26 a27 23) from T.f23) sc23 ck23 rfl rfl (fun kV dc pm cd ct an us hl => ?_) fun kV dc pm cd ct an ks perm hne hm => ?_
  · match us, hl with
    | [_], _ => rfl
  · simp [kwt, fnm, fnl] at hm
theorem da24 (inK : K.In h) (G : h.Ns mainGlobals mg) (T : Top K a0 a1 a2 a3 a4 a5 a6 a7 a8 a9 a10 a11 a12 a13 a14 a15 a16 a17 a18 a19 a20 a21 a22 a23 a24 a25 a26 a27) : FnDat fnm kwt (adr a0 a1 a2 a3 a4 a5 a6 a7 a8 a9 a10 a11 a12 a13 a14 a15 a16 a17 a18 a19 a20 a21 a22 a23 a24 a25 a26 a27) K mg 24 ⟨2, N24.length, b24⟩ := by
  refine datum inK G (show AtTop K (fnm 24) t24 (adr a0 a1 a2 a3 a4 a5 a6 a7 a8 a9 a10 a11 a12 a13 a14 a15 a16 a17 a18 a19 a20 a21 a22 a23 a24 a25 a26 a27 24) from T.f24) sc24 ck24 rfl rfl (fun kV dc pm cd ct an us hl => ?_) fun kV dc pm cd ct an ks perm hne hm => ?_
  · match us, hl with
    | [_, _], _ => rfl
  · simp [kwt, fnm, fnl] at hm
theorem da25 (inK : K.In h) (G : h.Ns mainGlobals mg) (T : Top K a0 a1 a2 a3 a4 a5 a6 a7 a8 a9 a10 a11 a12 a13 a14 a15 a16 a17 a18 a19 a20 a21 a22 a23 a24 a25 a26 a27) : FnDat fnm kwt (adr a0 a1 a2 a3 a4 a5 a6 a7 a8 a9 a10 a11 a12 a13 a14 a15 a16 a17 a18 a19 a20 a21 a22 a23 a24 a25 a26 a27) K mg 25 ⟨2, N25.length, b25⟩ := by
  refine datum inK G (show AtTop K (fnm 25) t25 (adr a0 a1 a2 a3 a4 a5 a6 a7 a8 a9 a10 a11 a12 a13 a14 a15 a16 a17 a18 a19 a20 a21 a22 a23 a24 a25 a26 a27 25) from T.f25) sc25 ck25 rfl rfl (fun kV dc pm cd ct an us hl => ?_) fun kV dc pm cd ct an ks perm hne hm => ?_
  · match us, hl with
    | [_, _], _ => rfl
  · simp [kwt, fnm, fnl] at hm
theorem da26 (inK : K.In h) (G : h.Ns mainGlobals mg) (T : Top K a0 a1 a2 a3 a4 a5 a6 a7 a8 a9 a10 a11 a12 a13 a14 a15 a16 a17 a18 a19 a20 a21 a22 a23 a24 a25 a26 a27) : FnDat fnm kwt (adr a0 a1 a2 a3 a4 a5 a6 a7 a8 a9 a10 a11 a12 a13 a14 a15 a16 a17 a18 a19 a20 a21 a22 a23 a24 a25 a26 a27) K mg 26 ⟨2, N26.length, b26⟩ := by
  refine datum inK G (show AtTop K (fnm 26) t26 (adr a0 a1 a2 a3 a4 a5 a6 a7 a8 a9 a10 a11 a12 a13 a14 a15 a16 a17 a18 a19 a20 a21 a22 a23 a24 a25 a26 a27 26) from T.f26) sc26 ck26 rfl rfl (fun kV dc pm cd ct an us hl => ?_) fun kV dc pm cd ct an ks perm hne hm => ?_
  · match us, hl with
    | [_, _], _ => rfl
  · simp [kwt, fnm, fnl] at hm
theorem da27 (inK : K.In h) (G : h.Ns mainGlobals mg) (T : Top K a0 a1 a2 a3 a4 a5 a6 a7 a8 a9 a10 a11 a12 a13 a14 a15 a16 a17 a18 a19 a20 a21 a22 a23 a24 a25 a26 a27) : FnDat fnm kwt (adr a0 a1 a2 a3 a4 a5 a6 a7 a8 a9 a10 a11 a12 a13 a14 a15 a16 a17 a18 a19 a20 a21 a22 a23 a24 a25 a26 a27) K mg 27 ⟨1, N27.length, b27⟩ := by
  refine datum inK G (show AtTop K (fnm 27) t27 (adr a0 a1 a2 a3 a4 a5 a6 a7 a8 a9 a10 a11 a12 a13 a14 a15 a16 a17 a18 a19 a20 a21 a22 a23 a24 a25 a26 a27 27) from T.f27) sc27 ck27 rfl rfl (fun kV dc pm cd ct an us hl => ?_) fun kV dc pm cd ct an ks perm hne hm => ?_
  · match us, hl with
    | [_], _ => rfl
  · simp [kwt, fnm, fnl] at hm
    obtain ⟨rfl, rfl⟩ := hm
    · intro s us ws _ hk hl hn
      have hw : ws.length = 1 := hk.symm
      have hn2 : us.length + ws.length = 1 := hn
      have hu : us.length = 0 := by omega
      match us, ws, hu, hw with
      | [], [_], _, _ => exact BindsTo.of_eq rfl
theorem data (inK : K.In h) (G : h.Ns mainGlobals mg) (T : Top K a0 a1 a2 a3 a4 a5 a6 a7 a8 a9 a10 a11 a12 a13 a14 a15 a16 a17 a18 a19 a20 a21 a22 a23 a24 a25 a26 a27) : ∀ f fn, prog f = some fn → FnDat fnm kwt (adr a0 a1 a2 a3 a4 a5 a6 a7 a8 a9 a10 a11 a12 a13 a14 a15 a16 a17 a18 a19 a20 a21 a22 a23 a24 a25 a26 a27) K mg f fn := by
  intro f fn hf
  match f, hf with
  | 0, hf => cases hf; exact da0 inK G T
  | 1, hf => cases hf; exact da1 inK G T
  | 2, hf => cases hf; exact da2 inK G T
  | 3, hf => cases hf; exact da3 inK G T
  | 4, hf => cases hf; exact da4 inK G T
  | 5, hf => cases hf; exact da5 inK G T
  | 6, hf => cases hf; exact da6 inK G T
  | 7, hf => cases hf; exact da7 inK G T
  | 8, hf => cases hf; exact da8 inK G T
  | 9, hf => cases hf; exact da9 inK G T
  | 10, hf => cases hf; exact da10 inK G T
  | 11, hf => cases hf; exact da11 inK G T
  | 12, hf => cases hf; exact da12 inK G T
  | 13, hf => cases hf; exact da13 inK G T
  | 14, hf => cases hf; exact da14 inK G T
  | 15, hf => cases hf; exact da15 inK G T
  | 16, hf => cases hf; exact da16 inK G T
  | 17, hf => cases hf; exact da17 inK G T
  | 18, hf => cases hf; exact da18 inK G T
  | 19, hf => cases hf; exact da19 inK G T
  | 20, hf => cases hf; exact da20 inK G T
  | 21, hf => cases hf; exact da21 inK G T
  | 22, hf => cases hf; exact da22 inK G T
  | 23, hf => cases hf; exact da23 inK G T
  | 24, hf => cases hf; exact da24 inK G T
  | 25, hf => cases hf; exact da25 inK G T
  | 26, hf => cases hf; exact da26 inK G T
  | 27, hf => cases hf; exact da27 inK G T
  | n + 28, hf => exact absurd hf (by show ¬ (none : Option Fn) = some fn; simp)
theorem blt (inK : K.In h) (G : h.Ns mainGlobals mg) (T : Top K a0 a1 a2 a3 a4 a5 a6 a7 a8 a9 a10 a11 a12 a13 a14 a15 a16 a17 a18 a19 a20 a21 a22 a23 a24 a25 a26 a27) : ∀ x ∈ bltNames, mg x = none := by
  intro x hx
  simp only [bltNames, List.mem_cons, List.not_mem_nil, or_false] at hx
  rcases hx with rfl | rfl | rfl | rfl | rfl | rfl | rfl | rfl | rfl | rfl | rfl | rfl | rfl | rfl | rfl | rfl | rfl | rfl | rfl
  · exact PySem.W.mg_none_of inK G T.z_len
  · exact PySem.W.mg_none_of inK G T.z_tuple
  · exact PySem.W.mg_none_of inK G T.z_list
  · exact PySem.W.mg_none_of inK G T.z_all
  · exact PySem.W.mg_none_of inK G T.z_any
  · exact PySem.W.mg_none_of inK G T.z_min
  · exact PySem.W.mg_none_of inK G T.z_max
  · exact PySem.W.mg_none_of inK G T.z_abs
  · exact PySem.W.mg_none_of inK G T.z_int
  · exact PySem.W.mg_none_of inK G T.z_repr
  · exact PySem.W.mg_none_of inK G T.z_isinstance
  · exact PySem.W.mg_none_of inK G T.z_range
  · exact PySem.W.mg_none_of inK G T.z_set
  · exact PySem.W.mg_none_of inK G T.z_sorted
  · exact PySem.W.mg_none_of inK G T.z_zip
  · exact PySem.W.mg_none_of inK G T.z_enumerate
  · exact PySem.W.mg_none_of inK G T.z_bool
  · exact PySem.W.mg_none_of inK G T.z_str
  · exact PySem.W.mg_none_of inK G T.z_dict
theorem fvs (inK : K.In h) (G : h.Ns mainGlobals mg) (T : Top K a0 a1 a2 a3 a4 a5 a6 a7 a8 a9 a10 a11 a12 a13 a14 a15 a16 a17 a18 a19 a20 a21 a22 a23 a24 a25 a26 a27) : ∀ f, (f, [], []) ∈ kwt → mg (fnm f) = some (.ref (adr a0 a1 a2 a3 a4 a5 a6 a7 a8 a9 a10 a11 a12 a13 a14 a15 a16 a17 a18 a19 a20 a21 a22 a23 a24 a25 a26 a27 f)) := by
  intro f hf
  simp [kwt] at hf
  subst hf
  obtain ⟨_, _, _, _, _, _, _, _, _, h1, _⟩ := T.f20.ex
  exact PySem.W.mg_of inK G h1
theorem head {P : Program} {w : World} {fa : Addr} (inK : K.In h) (G : h.Ns mainGlobals mg) (T : Top K a0 a1 a2 a3 a4 a5 a6 a7 a8 a9 a10 a11 a12 a13 a14 a15 a16 a17 a18 a19 a20 a21 a22 a23 a24 a25 a26 a27) (hfa : mg "law" = some (.ref fa)) :
    ∃ (fd : FuncData) (ad : Nat → Addr), (∀ (s : Shared) (u : Value), BindsTo s fd ⟨[u], []⟩ [("script", u)]) ∧ ∀ base : Heap, K.In base → base.Ns mainGlobals mg → FnG P w K mg base Ax.CX0 30 fa fd ["script"] (spF (callF prog 30) K ad 0) := by
  obtain ⟨od, an, sl, oc, kV, dc, pm, cd, ct, h1, h2, h3, h4⟩ := T.f0.ex
  have e : fa = a0 := by have := hfa.symm.trans (PySem.W.mg_of inK G h1); cases this; rfl
  subst e
  exact ⟨_, adr fa a1 a2 a3 a4 a5 a6 a7 a8 a9 a10 a11 a12 a13 a14 a15 a16 a17 a18 a19 a20 a21 a22 a23 a24 a25 a26 a27, fun s u => .of_eq rfl, fun base _ _ => Ax.lawG (f := 0) (fn := ⟨1, N0.length, b0⟩) (n := 29) (data inK G T) (blt inK G T) (fvs inK G T) rfl h2 h3 sc0 ck0 rfl rfl⟩
end
end K82
open PySem PySem.W PyProof.Rows
set_option maxHeartbeats 0 in
theorem PySem.Challenge.cw_arrowsalike_k82_bare_rings_holds : PySem.Challenge.rw_arrowsalike_k82_bare_rings.Holds := by
  w_on; o_law; k_head; (case hw => w_witness2)
  k_fill
  refine Ax.walk_goes (l := PySem.Challenge.rw_arrowsalike_k82_bare_rings) (n := 63) (k := 30) (x := "script") (prog := K82.prog) (lf := 0) rfl (by decide) rfl ⟨rfl, by decide, by decide⟩ (fun w h Y => PySem.W.kIn_of Y) ?F K82.run
  case F =>
    intro w mg fa h KX G hmg
    refine' K82.head KX G ?T hmg
    case T =>
      refine' ⟨?f0, ?f1, ?f2, ?f3, ?f4, ?f5, ?f6, ?f7, ?f8, ?f9, ?f10, ?f11, ?f12, ?f13, ?f14, ?f15, ?f16, ?f17, ?f18, ?f19, ?f20, ?f21, ?f22, ?f23, ?f24, ?f25, ?f26, ?f27, ?z_len, ?z_tuple, ?z_list, ?z_all, ?z_any, ?z_min, ?z_max, ?z_abs, ?z_int, ?z_repr, ?z_isinstance, ?z_range, ?z_set, ?z_sorted, ?z_zip, ?z_enumerate, ?z_bool, ?z_str, ?z_dict⟩
      (case f0 => refine' Ax.at_top ?h1 ?h2 ?h3 ?h4; (case h1 => k_is); (case h2 => k_is); (case h3 => k_is); (case h4 => k_is))
      (case f1 => refine' Ax.at_top ?h1 ?h2 ?h3 ?h4; (case h1 => k_is); (case h2 => k_is); (case h3 => k_is); (case h4 => k_is))
      (case f2 => refine' Ax.at_top ?h1 ?h2 ?h3 ?h4; (case h1 => k_is); (case h2 => k_is); (case h3 => k_is); (case h4 => k_is))
      (case f3 => refine' Ax.at_top ?h1 ?h2 ?h3 ?h4; (case h1 => k_is); (case h2 => k_is); (case h3 => k_is); (case h4 => k_is))
      (case f4 => refine' Ax.at_top ?h1 ?h2 ?h3 ?h4; (case h1 => k_is); (case h2 => k_is); (case h3 => k_is); (case h4 => k_is))
      (case f5 => refine' Ax.at_top ?h1 ?h2 ?h3 ?h4; (case h1 => k_is); (case h2 => k_is); (case h3 => k_is); (case h4 => k_is))
      (case f6 => refine' Ax.at_top ?h1 ?h2 ?h3 ?h4; (case h1 => k_is); (case h2 => k_is); (case h3 => k_is); (case h4 => k_is))
      (case f7 => refine' Ax.at_top ?h1 ?h2 ?h3 ?h4; (case h1 => k_is); (case h2 => k_is); (case h3 => k_is); (case h4 => k_is))
      (case f8 => refine' Ax.at_top ?h1 ?h2 ?h3 ?h4; (case h1 => k_is); (case h2 => k_is); (case h3 => k_is); (case h4 => k_is))
      (case f9 => refine' Ax.at_top ?h1 ?h2 ?h3 ?h4; (case h1 => k_is); (case h2 => k_is); (case h3 => k_is); (case h4 => k_is))
      (case f10 => refine' Ax.at_top ?h1 ?h2 ?h3 ?h4; (case h1 => k_is); (case h2 => k_is); (case h3 => k_is); (case h4 => k_is))
      (case f11 => refine' Ax.at_top ?h1 ?h2 ?h3 ?h4; (case h1 => k_is); (case h2 => k_is); (case h3 => k_is); (case h4 => k_is))
      (case f12 => refine' Ax.at_top ?h1 ?h2 ?h3 ?h4; (case h1 => k_is); (case h2 => k_is); (case h3 => k_is); (case h4 => k_is))
      (case f13 => refine' Ax.at_top ?h1 ?h2 ?h3 ?h4; (case h1 => k_is); (case h2 => k_is); (case h3 => k_is); (case h4 => k_is))
      (case f14 => refine' Ax.at_top ?h1 ?h2 ?h3 ?h4; (case h1 => k_is); (case h2 => k_is); (case h3 => k_is); (case h4 => k_is))
      (case f15 => refine' Ax.at_top ?h1 ?h2 ?h3 ?h4; (case h1 => k_is); (case h2 => k_is); (case h3 => k_is); (case h4 => k_is))
      (case f16 => refine' Ax.at_top ?h1 ?h2 ?h3 ?h4; (case h1 => k_is); (case h2 => k_is); (case h3 => k_is); (case h4 => k_is))
      (case f17 => refine' Ax.at_top ?h1 ?h2 ?h3 ?h4; (case h1 => k_is); (case h2 => k_is); (case h3 => k_is); (case h4 => k_is))
      (case f18 => refine' Ax.at_top ?h1 ?h2 ?h3 ?h4; (case h1 => k_is); (case h2 => k_is); (case h3 => k_is); (case h4 => k_is))
      (case f19 => refine' Ax.at_top ?h1 ?h2 ?h3 ?h4; (case h1 => k_is); (case h2 => k_is); (case h3 => k_is); (case h4 => k_is))
      (case f20 => refine' Ax.at_top ?h1 ?h2 ?h3 ?h4; (case h1 => k_is); (case h2 => k_is); (case h3 => k_is); (case h4 => k_is))
      (case f21 => refine' Ax.at_top ?h1 ?h2 ?h3 ?h4; (case h1 => k_is); (case h2 => k_is); (case h3 => k_is); (case h4 => k_is))
      (case f22 => refine' Ax.at_top ?h1 ?h2 ?h3 ?h4; (case h1 => k_is); (case h2 => k_is); (case h3 => k_is); (case h4 => k_is))
      (case f23 => refine' Ax.at_top ?h1 ?h2 ?h3 ?h4; (case h1 => k_is); (case h2 => k_is); (case h3 => k_is); (case h4 => k_is))
      (case f24 => refine' Ax.at_top ?h1 ?h2 ?h3 ?h4; (case h1 => k_is); (case h2 => k_is); (case h3 => k_is); (case h4 => k_is))
      (case f25 => refine' Ax.at_top ?h1 ?h2 ?h3 ?h4; (case h1 => k_is); (case h2 => k_is); (case h3 => k_is); (case h4 => k_is))
      (case f26 => refine' Ax.at_top ?h1 ?h2 ?h3 ?h4; (case h1 => k_is); (case h2 => k_is); (case h3 => k_is); (case h4 => k_is))
      (case f27 => refine' Ax.at_top ?h1 ?h2 ?h3 ?h4; (case h1 => k_is); (case h2 => k_is); (case h3 => k_is); (case h4 => k_is))
      (case z_len => k_is)
      (case z_tuple => k_is)
      (case z_list => k_is)
      (case z_all => k_is)
      (case z_any => k_is)
      (case z_min => k_is)
      (case z_max => k_is)
      (case z_abs => k_is)
      (case z_int => k_is)
      (case z_repr => k_is)
      (case z_isinstance => k_is)
      (case z_range => k_is)
      (case z_set => k_is)
      (case z_sorted => k_is)
      (case z_zip => k_is)
      (case z_enumerate => k_is)
      (case z_bool => k_is)
      (case z_str => k_is)
      (case z_dict => k_is)
