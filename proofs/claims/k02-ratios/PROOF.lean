import PyProof.Rows.All
import Wide.All
import OpenK.AllK
import Wide.FinOn
import PyProof.EqAt
import PyProof.EqKinds
import PyProof.TupleCall
import KE.SortData
import HandS.Base
import HandS.Call
import HandS.List
import HandS.Lambda
import HandS.Dict
import HandS.Words
import HandS.Flow
import HandS.Wide
import HandS.TupAny
import HandS.TupMul
import HandS.Deep
import HandS.Style
import HandS.IsInst
import HandS.Conv
import HandS.ExcInit
import HandS.ExcField
import HandS.Gcd
import HandS.RaiseMore
import HandS.WordsDict
import HandS.SortInts
import HandS.WideBits
import HandS.Comp
import HandS.Iter
import HandS.Walk
import HandS.Small
import HandS.SetFor
import HandS.Set
import HandS.TryMany
import HandS.Head0
import HandS.Head1
import HandS.Head2
import HandS.HeadEnd
import HandS.HeadHook1
import HandS.HeadHook2
import HandS.HeadHook3
import HandS.HeadHook4
import HandS.HeadWalk
import HandS.EndTab
import PySem.Challenge.RW_chainorders_k02_ratios
import HandS.Head3
set_option Elab.async false
set_option linter.all false
set_option maxRecDepth 100000
/-! Z1: an own small language: its terms, its values (trees), its meaning as a predicate transformer over trees. -/
namespace Zl
open PySem
abbrev Str := PySem.Str
abbrev Key := Sum Int Str

/-! ### the terms -/
inductive Bop | add | sub | mul | fdiv | mod | pow | shl | shr | band | bor | bxor
  deriving DecidableEq
inductive Cop | eq | ne | lt | le | gt | ge | is_ | isnot | isin | notin
  deriving DecidableEq
inductive Blt | len | tuple | list | all | any | sorted | sset | lset | sdict | repr | int | sum | max | min | max2 | min2 | abs | gcd | dict
  deriving DecidableEq
inductive Mt | index | get | bitlen
  deriving DecidableEq
/-- what isinstance names: a built-in type, an own class -/
inductive Cl | ty (n : String) | own (c : Str)
  deriving DecidableEq
mutual
inductive Tg
  | nm (i : Nat)
  | tp (ts : Tgs)
inductive Tgs
  | nil
  | cons (t : Tg) (ts : Tgs)
end
mutual
inductive E
  | nm (i : Nat) | int (i : Int) | str (s : Str) | bl (b : Bool) | non
  | con (x : Str) | fnv (x : Str)
  | tup (es : Es) | lst (es : Es)
  | bin (op : Bop) (a b : E)
  | neg (a : E) | inv (a : E) | not (a : E)
  | cmp (op : Cop) (a b : E) | chn (op op' : Cop) (a b c : E)
  | and (a b : E) | or (a b : E) | ite (c a b : E)
  | ix (a b : E) | sl (a : E) (lo hi : Eo) | rev (a : E)
  | fld (a : E) (f : Str)
  | call (f : Str) (es : Es) | mk (c q : Str) (es : Es) | mk0 (c : Str)
  | blt (b : Blt) (es : Es) | mth (m : Mt) (o : E) (es : Es)
  | isi (a : E) (cs : List Cl)
  | app (i : Nat) (e : E) | pop (i : Nat) | popAt (i : Nat) (e : E)
  | lrng (tup : Bool) (a b : E)
  | dsp (ks : List Str) (es : Es)
  | comp (own : List Nat) (tg : Tg) (it : It) (c : Eo) (elt : E)
  | lam (cs : List Nat) (body : E)
inductive Es
  | nil
  | cons (e : E) (es : Es)
inductive Eo
  | none
  | some (e : E)
inductive It
  | val (e : E) | rng (a b : E) | enum (e : E) | zip (a b : E)
end
/-- what a statement stores to -/
inductive Tx
  | tg (t : Tg)
  | ix (i : Nat) (k : E)
  | fld (i : Nat) (f : Str)
mutual
inductive S
  | asg (t : Tx) (e : E)
  | par (is : List Nat) (es : Es)
  | aug (op : Bop) (i : Nat) (e : E) | augix (op : Bop) (i : Nat) (k e : E)
  | ex (e : E) | ret (e : E) | retn
  | if_ (c : E) (a b : Ss)
  | for_ (t : Tg) (it : It) (b : Ss)
  | while_ (c : E) (b : Ss)
  | brk | cnt | pass
  | raise (c : Str) (es : Es)
  | tryf (i : Nat) (hs : List (Str × Str × List Str))
inductive Ss
  | nil
  | cons (s : S) (ss : Ss)
end

/-! ### the values -/
inductive T where
  | non | bl (b : Bool) | int (i : Int) | str (x : Str)
  | tup (xs : List T) | lst (xs : List T) | scr (xs : List T)
  | dct (kvs : List (Key × T))
  | ins (c : Str) (fs : List (Str × T))
  | fn (x : Str)
  | clo (body : E) (caps : List (Option T))
  deriving Inhabited
/-- a name's slot: nothing; a value that nobody writes any more; such a one that a lambda has seen (never stored to again); a list or dict that this name alone holds; one that the caller's name holds; an instance that is being made -/
inductive Slot where
  | no | sh (t : T) | lk (t : T) | ow (t : T) | io (t : T) | nw (c : Str) (fs : List (Str × T))
  deriving Inhabited
abbrev Env := List Slot
/-- an operand: a value (fr: new, held by nobody), or what a name holds -/
inductive Opd where
  | val (t : T) (fr : Bool) | slot (i : Nat)

/-! ### data -/
mutual
def T.pd : T → Option PyData
  | .non => some .none
  | .bl b => some (.bool b)
  | .int i => some (.int i)
  | .str x => some (.str x)
  | .tup xs => (pds xs).map .tuple
  | .lst xs => (pds xs).map .list
  | _ => none
def pds : List T → Option (List PyData)
  | [] => some []
  | x :: xs => match x.pd, pds xs with
    | some d, some ds => some (d :: ds)
    | _, _ => none
end

mutual
/-- .. as they are shown: {} too -/
def T.sd : T → Option PyData
  | .non => some .none
  | .bl b => some (.bool b)
  | .int i => some (.int i)
  | .str x => some (.str x)
  | .tup xs => (sds xs).map .tuple
  | .lst xs => (sds xs).map .list
  | .dct kvs => if kvs.isEmpty then some (.dict []) else none
  | _ => none
def sds : List T → Option (List PyData)
  | [] => some []
  | x :: xs => match x.sd, sds xs with
    | some d, some ds => some (d :: ds)
    | _, _ => none
end

/-! ### the slots -/
def rd (ρ : Env) : Opd → Option T
  | .val t _ => some t
  | .slot i => match ρ[i]? with
    | some (.sh t) => some t
    | some (.lk t) => some t
    | some (.ow t) => some t
    | some (.io t) => some t
    | _ => none
/-- as a value that nobody writes any more -/
def fz (ρ : Env) : Opd → Option (T × Env)
  | .val t _ => some (t, ρ)
  | .slot i => match ρ[i]? with
    | some (.sh t) => some (t, ρ)
    | some (.lk t) => some (t, ρ)
    | some (.ow t) => some (t, ρ.set i (.sh t))
    | _ => none
def fzs (ρ : Env) : List Opd → Option (List T × Env)
  | [] => some ([], ρ)
  | o :: os => match fz ρ o with
    | some (t, ρ1) => (match fzs ρ1 os with
      | some (ts, ρ2) => some (t :: ts, ρ2)
      | none => none)
    | none => none
/-- a slot that may be stored to -/
def free (ρ : Env) (i : Nat) : Bool := match ρ[i]? with
  | some (.no) => true
  | some (.sh _) => true
  | some (.ow _) => true
  | _ => false
/-- an operand as a new slot -/
def put (ρ : Env) (i : Nat) : Opd → Option Env
  | .val t fr => if free ρ i then some (ρ.set i (if fr then .ow t else .sh t)) else none
  | .slot j => match fz ρ (.slot j) with
    | some (t, ρ1) => if free ρ1 i then some (ρ1.set i (.sh t)) else none
    | none => none
mutual
/-- a value unpacked to names -/
def stT (t : T) (ρ : Env) : Tg → Option Env
  | .nm i => if free ρ i then some (ρ.set i (.sh t)) else none
  | .tp ts => match t with
    | .tup xs => stTs xs ρ ts
    | _ => none
def stTs (xs : List T) (ρ : Env) : Tgs → Option Env
  | .nil => match xs with
    | [] => some ρ
    | _ :: _ => none
  | .cons t ts => match xs with
    | [] => none
    | x :: r => match stT x ρ t with
      | some ρ1 => stTs r ρ1 ts
      | none => none
end
/-- operands, none of them a name any more -/
def fzo (ρ : Env) : List Opd → Option (List Opd × Env)
  | [] => some ([], ρ)
  | .val t fr :: os => match fzo ρ os with
    | some (r, ρ2) => some (.val t fr :: r, ρ2)
    | none => none
  | .slot i :: os => match fz ρ (.slot i) with
    | some (t, ρ1) => (match fzo ρ1 os with
      | some (r, ρ2) => some (.val t false :: r, ρ2)
      | none => none)
    | none => none
def putAll (ρ : Env) : List Nat → List Opd → Option Env
  | [], [] => some ρ
  | i :: is, o :: os => match put ρ i o with
    | some ρ1 => putAll ρ1 is os
    | none => none
  | _, _ => none
/-- the arguments of a call: the first one may be a dict that its name holds -/
def cargs (ρ : Env) : List Opd → Option (List Slot × Env)
  | [] => some ([], ρ)
  | o :: os => match fzs ρ os with
    | none => none
    | some (ts, ρ1) =>
      let cont (r : Option (T × Env)) : Option (List Slot × Env) := match r with
        | some (t, ρ2) => some (.sh t :: ts.map .sh, ρ2)
        | none => none
      match o with
      | .slot i => match ρ1[i]? with
        | some (.ow (.dct kvs)) => some (.io (.dct kvs) :: ts.map .sh, ρ1)
        | some (.io t) => some (.io t :: ts.map .sh, ρ1)
        | _ => cont (fz ρ1 o)
      | _ => cont (fz ρ1 o)
/-- behind a call that raised -/
def lost (ρ : Env) (os : List Opd) : Env := match os with
  | .slot i :: _ => (match ρ[i]? with
    | some (.ow (.dct _)) => ρ.set i .no
    | some (.io _) => ρ.set i .no
    | _ => ρ)
  | _ => ρ
/-- behind a call: what the first argument's name holds -/
def back (ρ : Env) (os : List Opd) (io : Option T) : Env := match os with
  | .slot i :: _ => match io with
    | some t => (match ρ[i]? with
      | some (.ow (.dct _)) => ρ.set i (.ow t)
      | some (.io _) => ρ.set i (.io t)
      | _ => ρ)
    | none => lost ρ os
  | _ => ρ
/-- what a def hands back -/
def retv (ρ : Env) : Opd → Option (T × Bool)
  | .val t fr => some (t, fr)
  | .slot i => match ρ[i]? with
    | some (.sh t) => some (t, false)
    | some (.lk t) => some (t, false)
    | some (.ow t) => some (t, true)
    | _ => none
/-- what the first parameter holds at the end -/
def ioOf (args : List Slot) (ρ : Env) : Option T := match args[(0 : Nat)]?, ρ[(0 : Nat)]? with
  | some (.io _), some (.io t) => some t
  | some (.nw c _), some (.nw d fs) => if c = d then some (.ins c fs) else none
  | _, _ => none
/-- the names of a comprehension's own: emptied for its turns, put back behind it -/
def wipeR (ρ : Env) : List Nat → Env
  | [] => ρ
  | i :: is => (wipeR ρ is).set i .no
def ownFz (ρ : Env) : List Nat → Option Env
  | [] => some ρ
  | i :: is => match ρ[i]? with
    | some .no => ownFz ρ is
    | some (.sh _) => ownFz ρ is
    | some (.ow t) => ownFz (ρ.set i (.sh t)) is
    | _ => none
def restore (ρ0 ρ : Env) : List Nat → Env
  | [] => ρ
  | i :: is => match ρ0[i]? with
    | some s => (restore ρ0 ρ is).set i s
    | none => restore ρ0 ρ is

/-- names that a lambda sees: nobody stores to them any more -/
def lkAll (ρ : Env) : List Nat → Option Env
  | [] => some ρ
  | i :: is => match ρ[i]? with
    | some (.sh t) => lkAll (ρ.set i (.lk t)) is
    | some (.lk _) => lkAll ρ is
    | some (.ow t) => lkAll (ρ.set i (.lk t)) is
    | _ => none
def lkOf : Option Slot → Option T
  | some (.lk t) => some t
  | _ => none
def capsOf (ρ : Env) (cs : List Nat) : List (Option T) := (List.range ρ.length).map fun i => if i ∈ cs then lkOf ρ[i]? else none
def capS : Option T → Slot
  | some t => .lk t
  | none => .no

/-! ### the operations -/
abbrev KV := T → Bool → Prop
def keyT : T → Option Key
  | .int i => some (.inl i)
  | .str x => some (.inr x)
  | _ => none
def dlook (kvs : List (Key × T)) (k : Key) : Option T := (kvs.find? fun kv => decide (kv.1 = k)).map (·.2)
def dput (kvs : List (Key × T)) (k : Key) (v : T) : List (Key × T) :=
  if (kvs.any fun kv => decide (kv.1 = k)) = true then kvs.map (fun kv => if kv.1 = k then (kv.1, v) else kv) else kvs ++ [(k, v)]
/-- a value's truth -/
def tru : T → Option Bool
  | .non => some false
  | .bl b => some b
  | .int i => some (i != 0)
  | .lst xs => some (!xs.isEmpty)
  | .tup xs => some (!xs.isEmpty)
  | .dct xs => some (!xs.isEmpty)
  | _ => none
def opR (op : Bop) (a b : T) (Q : KV) : Prop := match op, a, b with
  | .add, .int i, .int j => Q (.int (i + j)) false
  | .add, .lst xs, .lst ys => xs.length + ys.length ≤ sizeLine ∧ Q (.lst (xs ++ ys)) true
  | .add, .tup xs, .tup ys => xs.length + ys.length ≤ sizeLine ∧ Q (.tup (xs ++ ys)) false
  | .add, .str x, .str y => x.length + y.length ≤ sizeLine ∧ Q (.str (x ++ y)) false
  | .sub, .int i, .int j => Q (.int (i - j)) false
  | .mul, .int i, .int j => IntMulOk i j ∧ Q (.int (i * j)) false
  | .mul, .lst xs, .int k => (-(2 ^ 63) ≤ k ∧ k < 2 ^ 63 ∧ xs.length * k.toNat ≤ sizeLine) ∧ Q (.lst (List.replicate k.toNat xs).flatten) true
  | .mul, .tup xs, .int k => (xs ≠ [] ∧ 2 ≤ k ∧ k ≤ 1000 ∧ xs.length ≤ 1000) ∧ Q (.tup (List.replicate k.toNat xs).flatten) false
  | .fdiv, .int i, .int j => (j ≠ 0 ∧ j.natAbs.log2 < 9000) ∧ Q (.int (i.fdiv j)) false
  | .mod, .int i, .int j => j ≠ 0 ∧ Q (.int (i.fmod j)) false
  | .pow, .int i, .int j => (0 ≤ j ∧ j ≤ 1000000 ∧ i.natAbs < 2 ^ 64) ∧ Q (.int (i ^ j.toNat)) false
  | .shl, .int i, .int j => (0 ≤ j ∧ j ≤ 1000000 ∧ i.natAbs < 2 ^ 64) ∧ Q (.int (i * 2 ^ j.toNat)) false
  | .shr, .int i, .int j => 0 ≤ j ∧ Q (.int (i / 2 ^ j.toNat)) false
  | .band, .int i, .int j => Q (.int (Builtin.bitAnd i j)) false
  | .bor, .int i, .int j => Q (.int (Builtin.bitOr i j)) false
  | .bxor, .int i, .int j => Q (.int (Builtin.bitXor i j)) false
  | _, _, _ => False
def eqR (a b : T) (Q : Bool → Prop) : Prop := match a, b with
  | .str x, .str y => Q (x == y)
  | _, _ => match a.pd, b.pd with
    | some d, some e => SeqAt.shaped d = true ∧ SeqAt.shaped e = true ∧ Q (PyData.eqv d e)
    | _, _ => False
def inR (x : T) (c : T) (Q : Bool → Prop) : Prop := match c with
  | .dct kvs => (match keyT x with
    | some k => Q (dlook kvs k).isSome
    | none => False)
  | _ => match x.pd, c.pd with
    | some d, some (.list ds) => SeqAt.shaped d = true ∧ SeqAt.shaped (.list ds) = true ∧ Q (ds.any fun z => PyData.eqv z d)
    | some d, some (.tuple ds) => SeqAt.shaped d = true ∧ SeqAt.shaped (.tuple ds) = true ∧ Q (ds.any fun z => PyData.eqv z d)
    | _, _ => False
def isR (a b : T) (Q : Bool → Prop) : Prop := match b with
  | .non => Q (match a with
    | .non => true
    | _ => false)
  | .bl y => (match a with
    | .bl x => Q (x == y)
    | _ => False)
  | _ => False
def cmpR (op : Cop) (a b : T) (Q : Bool → Prop) : Prop := match op with
  | .eq => eqR a b Q
  | .ne => eqR a b fun k => Q !k
  | .lt => (match a, b with
    | .int i, .int j => Q (decide (i < j))
    | _, _ => False)
  | .le => (match a, b with
    | .int i, .int j => Q (decide (i ≤ j))
    | _, _ => False)
  | .gt => (match a, b with
    | .int i, .int j => Q (decide (j < i))
    | _, _ => False)
  | .ge => (match a, b with
    | .int i, .int j => Q (decide (j ≤ i))
    | _, _ => False)
  | .is_ => isR a b Q
  | .isnot => isR a b fun k => Q !k
  | .isin => inR a b Q
  | .notin => inR a b fun k => Q !k
def allBl : List T → Option (List Bool)
  | [] => some []
  | .bl b :: r => (allBl r).map (b :: ·)
  | _ :: _ => none
def allInt : List T → Option (List Int)
  | [] => some []
  | .int i :: r => (allInt r).map (i :: ·)
  | _ :: _ => none
/-- as data, for sorting -/
def T.enc (t : T) : PyData := t.pd.getD .none
/-- the order of sorting -/
def tLe : T → T → Bool := PySem.W.dataLe false T.enc
/-- a value that may be sorted with others -/
def sortable (xs : List T) : Prop := match pds xs with
  | some ds => PySem.W.AllAlike ds ∧ PySem.W.Sortable ds ∧ ∀ d ∈ ds, d.depth ≤ 64
  | none => False
/-- ascending, each once -/
def insI (x : Int) : List Int → List Int
  | [] => [x]
  | y :: r => if x < y then x :: y :: r else if x = y then y :: r else y :: insI x r
def setI (ns : List Int) : List Int := ns.foldr insI []
def bltR (b : Blt) (ts : List T) (Q : KV) : Prop := match b, ts with
  | .len, [.lst xs] => Q (.int xs.length) false
  | .len, [.tup xs] => Q (.int xs.length) false
  | .len, [.dct xs] => Q (.int xs.length) false
  | .tuple, [.lst xs] => Q (.tup xs) false
  | .tuple, [.tup xs] => Q (.tup xs) false
  | .list, [.lst xs] => Q (.lst xs) true
  | .list, [.tup xs] => Q (.lst xs) true
  | .list, [.scr xs] => Q (.lst xs) true
  | .len, [.scr xs] => Q (.int xs.length) false
  | .all, [.lst xs] => (match allBl xs with
    | some bs => Q (.bl (bs.all id)) false
    | none => False)
  | .any, [.lst xs] => (match allBl xs with
    | some bs => Q (.bl (bs.any id)) false
    | none => False)
  | .sset, [.lst xs] => (match allInt xs with
    | some ns => (ns.length + 1 < 4096 ∧ (setI ns).length < 64) ∧ Q (.lst ((setI ns).map .int)) true
    | none => False)
  | .sorted, [.lst xs] => sortable xs ∧ Q (.lst (xs.mergeSort tLe)) true
  | .repr, [.lst xs] => (match sds xs with
    | some ds => (PyData.list ds).showable = true ∧ (PyData.list ds).depth ≤ 64 ∧ (PyData.list ds).shown.length ≤ sizeLine ∧ Q (.str (PyData.list ds).shown) false
    | none => False)
  | .repr, [.tup xs] => (match sds xs with
    | some ds => (PyData.tuple ds).showable = true ∧ (PyData.tuple ds).depth ≤ 64 ∧ (PyData.tuple ds).shown.length ≤ sizeLine ∧ Q (.str (PyData.tuple ds).shown) false
    | none => False)
  | .repr, [.dct kvs] => kvs.isEmpty = true ∧ Q (.str (PyData.dict []).shown) false
  | .repr, [.int i] => i.natAbs.log2 < 1920 ∧ Q (.str (toString i)) false
  | .repr, [.bl b] => Q (.str (if b then ("True" : Str) else ("False" : Str))) false
  | .repr, [.non] => Q (.str ("None" : Str)) false
  | .int, [.int i] => Q (.int i) false
  | .int, [.bl k] => Q (.int (if k then 1 else 0)) false
  | .sum, [.lst xs] => (match allInt xs with
    | some ns => Q (.int ns.sum) false
    | none => False)
  | .max, [.lst xs] => (match allInt xs with
    | some ns => 0 < ns.length ∧ ∀ m, m ∈ ns → (∀ y, y ∈ ns → y ≤ m) → Q (.int m) false
    | none => False)
  | .min, [.lst xs] => (match allInt xs with
    | some ns => 0 < ns.length ∧ ∀ m, m ∈ ns → (∀ y, y ∈ ns → m ≤ y) → Q (.int m) false
    | none => False)
  | .max2, [.int i, .int j] => Q (.int (if j > i then j else i)) false
  | .min2, [.int i, .int j] => Q (.int (if j < i then j else i)) false
  | .abs, [.int i] => Q (.int (if i < 0 then -i else i)) false
  | .gcd, [.int i, .int j] => Q (.int ((Nat.gcd i.natAbs j.natAbs : Nat) : Int)) false
  | _, _ => False
def T.scal : T → Bool
  | .non => true
  | .bl _ => true
  | .int _ => true
  | .str _ => true
  | _ => false
/-- what a method is asked of -/
def mtOk (m : Mt) (o : T) : Prop := match m, o with
  | .bitlen, .int _ => True
  | .index, .lst _ => True
  | .get, .dct _ => True
  | _, _ => False
def mthR (m : Mt) (o : T) (ts : List T) (Q : KV) : Prop := match m, o, ts with
  | .bitlen, .int i, [] => Q (.int (Builtin.Int.intBits i : Nat)) false
  | .index, .lst xs, [x] => (match pds xs, x.pd with
    | some ds, some d => (SeqAt.shaped (.list ds) = true ∧ SeqAt.shaped d = true) ∧ ∃ j z, ds[j]? = some z ∧ PyData.eqv z d = true ∧ (∀ (m : Nat) z', m < j → ds[m]? = some z' → PyData.eqv z' d = false) ∧ Q (.int (j : Nat)) false
    | _, _ => False)
  | .get, .dct kvs, [k, d] => (match keyT k with
    | some k => d.scal = true ∧ Q ((dlook kvs k).getD d) false
    | none => False)
  | _, _, _ => False
def ixR (a b : T) (Q : T → Prop) : Prop := match a, b with
  | .lst xs, .int i => ∃ t, L2.atI xs i = some t ∧ Q t
  | .tup xs, .int i => ∃ t, L2.atI xs i = some t ∧ Q t
  | .dct kvs, k => (match keyT k with
    | some k => ∃ t, dlook kvs k = some t ∧ Q t
    | none => False)
  | _, _ => False
def cutT (xs : List T) (lo hi : Option Int) : List T := (xs.drop (HT.sIx xs.length 0 lo)).take (HT.sIx xs.length xs.length hi - HT.sIx xs.length 0 lo)
def slR (a : T) (lo hi : Option Int) (Q : KV) : Prop := match a with
  | .lst xs => Q (.lst (cutT xs lo hi)) true
  | .tup xs => Q (.tup (cutT xs lo hi)) false
  | _ => False
def revR (a : T) (Q : KV) : Prop := match a with
  | .lst xs => Q (.lst xs.reverse) true
  | _ => False
/-- what a for walks: the values of its turns -/
def itemsR (a : T) (Q : List T → Prop) : Prop := match a with
  | .lst xs => Q xs
  | .tup xs => Q xs
  | .scr xs => Q xs
  | _ => False
def rngT (lo hi : Int) : List T := (List.range (hi - lo).toNat).map fun i => .int (lo + (i : Nat))
def enumT (xs : List T) : List T := (List.range xs.length).zipWith (fun i x => .tup [.int (i : Nat), x]) xs
def zipT (xs ys : List T) : List T := xs.zipWith (fun x y => .tup [x, y]) ys
end Zl

set_option Elab.async false
set_option linter.all false
set_option maxRecDepth 100000
/-! Z2: the meaning of the terms as predicate transformers. -/
namespace Zl
open PySem
/-- an exception: its class, its attributes -/
abbrev KX := Str → List (Str × T) → Prop
abbrev KE' := Opd → Env → Prop
/-- what a call hands back: the value, whether it is new, what the first argument holds -/
abbrev KR := T → Bool → Option T → Prop
/-- the program as its defs see it -/
structure Pr where
  call : Str → List Slot → KR → KX → Prop
  con : Str → Option T
  sub : Str → Str → Bool
  heq : Str → Option (Str × Str)
  exf : Str → Option (List Str)
  clo : E → List (Option T) → (T → Bool → Prop) → KX → Prop
def one (ρ : Env) (o : Opd) (K : T → Prop) : Prop := match rd ρ o with
  | some t => K t
  | none => False
def two (ρ : Env) (o1 o2 : Opd) (K : T → T → Prop) : Prop := match rd ρ o1, rd ρ o2 with
  | some t, some u => K t u
  | _, _ => False
def rds (ρ : Env) : List Opd → Option (List T)
  | [] => some []
  | o :: os => match rd ρ o, rds ρ os with
    | some t, some ts => some (t :: ts)
    | _, _ => none
def tyT : T → String
  | .non => "NoneType" | .bl _ => "bool" | .int _ => "int" | .str _ => "str" | .tup _ => "tuple" | .lst _ => "list" | .scr _ => "list" | .dct _ => "dict" | _ => "?"
def tabB (a n : String) : Bool := a == n || (a == "bool" && n == "int")
def tyb (a : T) (n : String) : Bool := tabB (tyT a) n
def tyOk (a : T) : Bool := match a with
  | .fn _ => false
  | .clo _ _ => false
  | .scr _ => false
  | _ => true
def isaT (c : Pr) (a : T) (k : Cl) : Bool := match k with
  | .ty n => tyb a n
  | .own d => match a with
    | .ins x _ => c.sub x d
    | _ => false
/-- what an own == may be asked of -/
def likeI (n : Str) : T → Prop
  | .ins m _ => m = n
  | .tup _ => True
  | _ => False
def T.isNon : T → Bool
  | .non => true
  | _ => false
def cmpI (c : Pr) (op : Cop) (ρ : Env) (o1 o2 : Opd) (Q : Bool → Env → Prop) (X : KX) : Prop := two ρ o1 o2 fun x y => match op, x with
  | .eq, .ins n _ => likeI n y ∧ (match c.heq n, fzs ρ [o1, o2] with
    | some (q, _), some (ts, ρ2) => c.call q (ts.map .sh) (fun t _ _ => ∃ k, t = .bl k ∧ Q k ρ2) X
    | _, _ => False)
  | .ne, .ins n _ => likeI n y ∧ (match c.heq n, fzs ρ [o1, o2] with
    | some (_, q), some (ts, ρ2) => c.call q (ts.map .sh) (fun t _ _ => ∃ k, t = .bl k ∧ Q k ρ2) X
    | _, _ => False)
  | _, _ => cmpR op x y fun k => Q k ρ
/-- the turns of a comprehension -/
def compL (own : List Nat) (step : T → Env → (Option T → Env → Prop) → Prop) : List T → List T → Env → (List T → Env → Prop) → Prop
  | [], acc, ρ, Q => Q acc ρ
  | t :: ts, acc, ρ, Q => step t (wipeR ρ own) fun r ρ1 => match r with
    | some x => compL own step ts (acc ++ [x]) ρ1 Q
    | none => compL own step ts acc ρ1 Q
/-- no name is seen by a lambda -/
def noLk (ρ : Env) : Bool := ρ.all fun s => match s with
  | .lk _ => false
  | _ => true
def noX : KX := fun _ _ => False
mutual
def wpE (c : Pr) : E → Env → KE' → KX → Prop
  | .nm i, ρ, Q, _ => (match ρ[i]? with
    | some (.sh _) => Q (.slot i) ρ
    | some (.lk _) => Q (.slot i) ρ
    | some (.ow _) => Q (.slot i) ρ
    | some (.io _) => Q (.slot i) ρ
    | _ => False)
  | .int i, ρ, Q, _ => Q (.val (.int i) false) ρ
  | .str x, ρ, Q, _ => Q (.val (.str x) false) ρ
  | .bl b, ρ, Q, _ => Q (.val (.bl b) false) ρ
  | .non, ρ, Q, _ => Q (.val .non false) ρ
  | .con x, ρ, Q, _ => (match c.con x with
    | some t => Q (.val t false) ρ
    | none => False)
  | .fnv x, ρ, Q, _ => Q (.val (.fn x) false) ρ
  | .tup es, ρ, Q, X => wpEs c es ρ (fun os ρ1 => match fzs ρ1 os with
    | some (ts, ρ2) => Q (.val (.tup ts) false) ρ2
    | none => False) X
  | .lst es, ρ, Q, X => wpEs c es ρ (fun os ρ1 => match fzs ρ1 os with
    | some (ts, ρ2) => Q (.val (.lst ts) true) ρ2
    | none => False) X
  | .bin op a b, ρ, Q, X => wpE c a ρ (fun o1 ρ1 => wpE c b ρ1 (fun o2 ρ2 => two ρ2 o1 o2 fun x y => opR op x y fun t f => Q (.val t f) ρ2) X) X
  | .neg a, ρ, Q, X => wpE c a ρ (fun o ρ1 => one ρ1 o fun x => match x with
    | .int i => Q (.val (.int (-i)) false) ρ1
    | _ => False) X
  | .inv a, ρ, Q, X => wpE c a ρ (fun o ρ1 => one ρ1 o fun x => match x with
    | .int i => Q (.val (.int (Builtin.bitNot i)) false) ρ1
    | _ => False) X
  | .not a, ρ, Q, X => wpE c a ρ (fun o ρ1 => one ρ1 o fun x => match tru x with
    | some k => Q (.val (.bl (!k)) false) ρ1
    | none => False) X
  | .cmp op a b, ρ, Q, X => wpE c a ρ (fun o1 ρ1 => wpE c b ρ1 (fun o2 ρ2 => cmpI c op ρ2 o1 o2 (fun k ρ3 => Q (.val (.bl k) false) ρ3) X) X) X
  | .chn op op' a b d, ρ, Q, X => wpE c a ρ (fun o1 ρ1 => wpE c b ρ1 (fun o2 ρ2 => two ρ2 o1 o2 fun x y => cmpR op x y fun k =>
      (k = true → wpE c d ρ2 (fun o3 ρ3 => two ρ3 o2 o3 fun y z => cmpR op' y z fun k' => Q (.val (.bl k') false) ρ3) X) ∧ (k = false → Q (.val (.bl false) false) ρ2)) X) X
  | .and a b, ρ, Q, X => wpE c a ρ (fun o ρ1 => one ρ1 o fun x => ∃ k, tru x = some k ∧ (k = true → wpE c b ρ1 Q X) ∧ (k = false → Q o ρ1)) X
  | .or a b, ρ, Q, X => wpE c a ρ (fun o ρ1 => one ρ1 o fun x => ∃ k, tru x = some k ∧ (k = true → Q o ρ1) ∧ (k = false → wpE c b ρ1 Q X)) X
  | .ite t a b, ρ, Q, X => wpB c t ρ (fun k ρ1 => (k = true → wpE c a ρ1 Q X) ∧ (k = false → wpE c b ρ1 Q X)) X
  | .ix a b, ρ, Q, X => wpE c a ρ (fun o1 ρ1 => wpE c b ρ1 (fun o2 ρ2 => two ρ2 o1 o2 fun x y => ixR x y fun t => Q (.val t false) ρ2) X) X
  | .sl a lo hi, ρ, Q, X => wpE c a ρ (fun o ρ1 => wpEo c lo ρ1 (fun l ρ2 => wpEo c hi ρ2 (fun h ρ3 => one ρ3 o fun x => slR x l h fun t f => Q (.val t f) ρ3) X) X) X
  | .rev a, ρ, Q, X => wpE c a ρ (fun o ρ1 => one ρ1 o fun x => revR x fun t f => Q (.val t f) ρ1) X
  | .fld a f, ρ, Q, X => wpE c a ρ (fun o ρ1 => one ρ1 o fun x => match x with
    | .ins _ fs => (match fs.lookup f with
      | some t => Q (.val t false) ρ1
      | none => False)
    | _ => False) X
  | .call f es, ρ, Q, X => wpEs c es ρ (fun os ρ1 => match cargs ρ1 os with
    | some (sl, ρ2) => c.call f sl (fun t fr io => Q (.val t fr) (back ρ2 os io)) X
    | none => False) X
  | .mk n q es, ρ, Q, X => wpEs c es ρ (fun os ρ1 => match fzs ρ1 os with
    | some (ts, ρ2) => c.call q (.nw n [] :: ts.map .sh) (fun r _ io => r.isNon = true ∧ (match io with
      | some t => Q (.val t false) ρ2
      | none => False)) X
    | none => False) X
  | .mk0 n, ρ, Q, _ => Q (.val (.ins n []) false) ρ
  | .blt b es, ρ, Q, X => wpEs c es ρ (fun os ρ1 => match rds ρ1 os with
    | some ts => bltR b ts fun t f => Q (.val t f) ρ1
    | none => False) X
  | .mth m a es, ρ, Q, X => wpE c a ρ (fun o ρ1 => one ρ1 o fun x0 => mtOk m x0 ∧ wpEs c es ρ1 (fun os ρ2 => match rd ρ2 o, rds ρ2 os with
    | some x, some ts => mthR m x ts fun t f => Q (.val t f) ρ2
    | _, _ => False) X) X
  | .isi a cs, ρ, Q, X => wpE c a ρ (fun o ρ1 => one ρ1 o fun x => tyOk x = true ∧ Q (.val (.bl (cs.any (isaT c x))) false) ρ1) X
  | .app i e, ρ, Q, X => (match ρ[i]? with
    | some (.ow (.lst _)) => wpE c e ρ (fun o ρ1 => match fz ρ1 o with
      | some (t, ρ2) => (match ρ2[i]? with
        | some (.ow (.lst xs)) => xs.length < sizeLine ∧ Q (.val .non false) (ρ2.set i (.ow (.lst (xs ++ [t]))))
        | _ => False)
      | none => False) X
    | _ => False)
  | .pop i, ρ, Q, _ => (match ρ[i]? with
    | some (.ow (.lst xs)) => (match xs.getLast? with
      | some y => Q (.val y false) (ρ.set i (.ow (.lst xs.dropLast)))
      | none => False)
    | _ => False)
  | .popAt i e, ρ, Q, X => (match ρ[i]? with
    | some (.ow (.lst _)) => wpE c e ρ (fun o ρ1 => one ρ1 o fun k => match k with
      | .int k => (match ρ1[i]? with
        | some (.ow (.lst xs)) => ∃ j y, L2.ixN xs.length k = some j ∧ xs[j]? = some y ∧ Q (.val y false) (ρ1.set i (.ow (.lst (xs.eraseIdx j))))
        | _ => False)
      | _ => False) X
    | _ => False)
  | .lrng tp a b, ρ, Q, X => wpE c a ρ (fun o1 ρ1 => wpE c b ρ1 (fun o2 ρ2 => two ρ2 o1 o2 fun x y => match x, y with
    | .int lo, .int hi => (-(2 ^ 62) ≤ lo ∧ lo < 2 ^ 62 ∧ -(2 ^ 62) ≤ hi ∧ hi < 2 ^ 62 ∧ (hi - lo).toNat ≤ 2 ^ 24) ∧ Q (.val (if tp then .tup (rngT lo hi) else .lst (rngT lo hi)) (!tp)) ρ2
    | _, _ => False) X) X
  | .dsp ks es, ρ, Q, X => wpEs c es ρ (fun os ρ1 => match fzs ρ1 os with
    | some (ts, ρ2) => ks.length = ts.length ∧ Q (.val (.dct ((ks.map Sum.inr).zip ts)) true) ρ2
    | none => False) X
  | .comp own tg it cd elt, ρ, Q, X => wpIt c it ρ (fun ts ρ1 => match ownFz ρ1 own with
    | some ρ2 => noLk ρ2 = true ∧ compL own (fun t ρ3 K => match stT t ρ3 tg with
        | some ρ4 => wpC c cd ρ4 (fun k ρ5 => (k = true → wpE c elt ρ5 (fun o ρ6 => match fz ρ6 o with
            | some (x, ρ7) => K (some x) ρ7
            | none => False) noX) ∧ (k = false → K none ρ5)) noX
        | none => False) ts [] (wipeR ρ2 own) (fun acc ρ8 => Q (.val (.lst acc) true) (restore ρ2 ρ8 own))
    | none => False) X
  | .lam cs b, ρ, Q, _ => (match lkAll ρ cs with
    | some ρ1 => Q (.val (.clo b (capsOf ρ1 cs)) false) ρ1
    | none => False)
def wpEs (c : Pr) : Es → Env → (List Opd → Env → Prop) → KX → Prop
  | .nil, ρ, Q, _ => Q [] ρ
  | .cons e es, ρ, Q, X => wpE c e ρ (fun o ρ1 => wpEs c es ρ1 (fun os ρ2 => Q (o :: os) ρ2) X) X
def wpEo (c : Pr) : Eo → Env → (Option Int → Env → Prop) → KX → Prop
  | .none, ρ, Q, _ => Q none ρ
  | .some e, ρ, Q, X => wpE c e ρ (fun o ρ1 => one ρ1 o fun x => match x with
    | .int i => Q (some i) ρ1
    | _ => False) X
/-- a comprehension's test -/
def wpC (c : Pr) : Eo → Env → (Bool → Env → Prop) → KX → Prop
  | .none, ρ, Q, _ => Q true ρ
  | .some e, ρ, Q, X => wpB c e ρ Q X
/-- as a test -/
def wpB (c : Pr) : E → Env → (Bool → Env → Prop) → KX → Prop
  | .not a, ρ, Q, X => wpB c a ρ (fun k ρ1 => Q (!k) ρ1) X
  | .and a b, ρ, Q, X => wpB c a ρ (fun k ρ1 => (k = true → wpB c b ρ1 Q X) ∧ (k = false → Q false ρ1)) X
  | .or a b, ρ, Q, X => wpB c a ρ (fun k ρ1 => (k = true → Q true ρ1) ∧ (k = false → wpB c b ρ1 Q X)) X
  | .cmp op a b, ρ, Q, X => wpE c a ρ (fun o1 ρ1 => wpE c b ρ1 (fun o2 ρ2 => cmpI c op ρ2 o1 o2 Q X) X) X
  | .chn op op' a b d, ρ, Q, X => wpE c a ρ (fun o1 ρ1 => wpE c b ρ1 (fun o2 ρ2 => two ρ2 o1 o2 fun x y => cmpR op x y fun k =>
      (k = true → wpE c d ρ2 (fun o3 ρ3 => two ρ3 o2 o3 fun y z => cmpR op' y z fun k' => Q k' ρ3) X) ∧ (k = false → Q false ρ2)) X) X
  | e, ρ, Q, X => wpE c e ρ (fun o ρ1 => one ρ1 o fun x => match tru x with
    | some k => Q k ρ1
    | none => False) X
def wpIt (c : Pr) : It → Env → (List T → Env → Prop) → KX → Prop
  | .val e, ρ, Q, X => wpE c e ρ (fun o ρ1 => match fz ρ1 o with
    | some (t, ρ2) => itemsR t fun ts => Q ts ρ2
    | none => False) X
  | .rng a b, ρ, Q, X => wpE c a ρ (fun o1 ρ1 => wpE c b ρ1 (fun o2 ρ2 => two ρ2 o1 o2 fun x y => match x, y with
    | .int lo, .int hi => (-(2 ^ 62) ≤ lo ∧ lo < 2 ^ 62 ∧ -(2 ^ 62) ≤ hi ∧ hi < 2 ^ 62 ∧ (hi - lo).toNat ≤ sizeLine) ∧ Q (rngT lo hi) ρ2
    | _, _ => False) X) X
  | .enum e, ρ, Q, X => wpE c e ρ (fun o ρ1 => match fz ρ1 o with
    | some (.lst xs, ρ2) => Q (enumT xs) ρ2
    | _ => False) X
  | .zip a b, ρ, Q, X => wpE c a ρ (fun o1 ρ1 => wpE c b ρ1 (fun o2 ρ2 => match fzs ρ2 [o1, o2] with
    | some ([.lst xs, .lst ys], ρ3) => Q (zipT xs ys) ρ3
    | _ => False) X) X
end
/-- the clauses of a try: the first one that the exception is of tells its tag and some of the exception's fields -/
def hnd (K : T → Prop) (X : KX) : List (Str × Str × List Str) → KX
  | [], n, fs => X n fs
  | (d, tag, fl) :: r, n, fs => if n = d then ∃ ts, fl.mapM (fun f => fs.lookup f) = some ts ∧ K (.tup (.str tag :: ts)) else hnd K X r n fs
/-- what is wanted behind a statement -/
structure Dn where
  nx : Env → Prop
  rt : Opd → Env → Prop
  bk : Env → Prop
  ct : Env → Prop
  xx : KX
def forL (step : T → Env → Dn → Prop) : List T → Env → Dn → Prop
  | [], ρ, D => D.nx ρ
  | t :: ts, ρ, D => step t ρ { D with nx := fun ρ1 => forL step ts ρ1 D, ct := fun ρ1 => forL step ts ρ1 D, bk := D.nx }
def whileL (cond : Env → (Bool → Env → Prop) → Prop) (step : Env → Dn → Prop) (ρ : Env) (D : Dn) : Prop :=
  ∃ W : Nat → Env → Prop, (∃ m, W m ρ) ∧ ∀ m ρ, W m ρ → cond ρ fun k ρ1 =>
    (k = true → step ρ1 { D with nx := fun ρ2 => ∃ m', m' < m ∧ W m' ρ2, ct := fun ρ2 => ∃ m', m' < m ∧ W m' ρ2, bk := D.nx }) ∧ (k = false → D.nx ρ1)
def setF (fs : List (Str × T)) (f : Str) (t : T) : List (Str × T) := match fs with
  | [] => [(f, t)]
  | (g, x) :: r => if g = f then (g, t) :: r else (g, x) :: setF r f t
/-- a name that holds a list or a dict alone -/
def holdsC (ρ : Env) (i : Nat) : Bool := match ρ[i]? with
  | some (.ow _) => true
  | some (.io _) => true
  | _ => false
/-- a store -/
def wpX (c : Pr) (t : Tx) (o : Opd) (ρ : Env) (Q : Env → Prop) (X : KX) : Prop := match t with
  | .tg (.nm i) => (match put ρ i o with
    | some ρ1 => Q ρ1
    | none => False)
  | .tg tp => (match fz ρ o with
    | some (t, ρ1) => (match stT t ρ1 tp with
      | some ρ2 => Q ρ2
      | none => False)
    | none => False)
  | .ix i k => (match fz ρ o with
    | some (t, ρ1) => holdsC ρ1 i = true ∧ wpE c k ρ1 (fun o2 ρ2 => one ρ2 o2 fun k => match ρ2[i]?, k with
      | some (.ow (.lst xs)), .int z => ∃ j, L2.ixN xs.length z = some j ∧ Q (ρ2.set i (.ow (.lst (xs.set j t))))
      | some (.ow (.dct kvs)), k => (match keyT k with
        | some k => kvs.length < sizeLine ∧ Q (ρ2.set i (.ow (.dct (dput kvs k t))))
        | none => False)
      | some (.io (.dct kvs)), k => (match keyT k with
        | some k => kvs.length < sizeLine ∧ Q (ρ2.set i (.io (.dct (dput kvs k t))))
        | none => False)
      | _, _ => False) X
    | none => False)
  | .fld i f => (match fz ρ o with
    | some (t, ρ1) => (match ρ1[i]? with
      | some (.nw n fs) => fs.length < 900 ∧ Q (ρ1.set i (.nw n (setF fs f t)))
      | _ => False)
    | none => False)
mutual
def wpS (c : Pr) : S → Env → Dn → Prop
  | .asg t e, ρ, D => wpE c e ρ (fun o ρ1 => wpX c t o ρ1 D.nx D.xx) D.xx
  | .par is es, ρ, D => wpEs c es ρ (fun os ρ1 => match fzo ρ1 os with
    | some (os', ρ2) => (match putAll ρ2 is os' with
      | some ρ3 => D.nx ρ3
      | none => False)
    | none => False) D.xx
  | .aug op i e, ρ, D => wpE c (.bin op (.nm i) e) ρ (fun o ρ1 => match o with
    | .val (.int z) _ => (match put ρ1 i (.val (.int z) false) with
      | some ρ2 => D.nx ρ2
      | none => False)
    | _ => False) D.xx
  | .augix op i k e, ρ, D => holdsC ρ i = true ∧ wpE c k ρ (fun o1 ρ1 => one ρ1 o1 fun kk => match ρ1[i]?, kk with
      | some (.ow (.lst xs)), .int z => ∃ j x, L2.ixN xs.length z = some j ∧ xs[j]? = some x ∧ wpE c e ρ1 (fun o2 ρ2 => one ρ2 o2 fun y => opR op x y fun t _ => (match t, ρ2[i]? with
        | .int m, some (.ow (.lst ys)) => ∃ j2, L2.ixN ys.length z = some j2 ∧ D.nx (ρ2.set i (.ow (.lst (ys.set j2 (.int m)))))
        | _, _ => False)) D.xx
      | _, _ => False) D.xx
  | .ex e, ρ, D => wpE c e ρ (fun _ ρ1 => D.nx ρ1) D.xx
  | .ret e, ρ, D => wpE c e ρ D.rt D.xx
  | .retn, ρ, D => D.rt (.val .non false) ρ
  | .if_ t a b, ρ, D => wpB c t ρ (fun k ρ1 => (k = true → wpSs c a ρ1 D) ∧ (k = false → wpSs c b ρ1 D)) D.xx
  | .for_ t it b, ρ, D => wpIt c it ρ (fun ts ρ1 => forL (fun x ρ2 D2 => match stT x ρ2 t with
      | some ρ3 => wpSs c b ρ3 D2
      | none => False) ts ρ1 D) D.xx
  | .while_ t b, ρ, D => whileL (fun ρ1 K => wpB c t ρ1 K D.xx) (fun ρ1 D1 => wpSs c b ρ1 D1) ρ D
  | .brk, ρ, D => D.bk ρ
  | .cnt, ρ, D => D.ct ρ
  | .pass, ρ, D => D.nx ρ
  | .raise n es, ρ, D => wpEs c es ρ (fun os ρ1 => match fzs ρ1 os, c.exf n with
    | some (ts, _), some fs => fs.length = ts.length ∧ D.xx n (fs.zip ts)
    | _, _ => False) D.xx
  | .tryf i hs, ρ, D => (match ρ[i]? with
    | some (.sh (.clo b cs)) => c.clo b cs (fun _ _ => D.nx ρ) (fun n fs => (c.exf n).isSome = true ∧ hnd (fun t => D.rt (.val t false) ρ) D.xx hs n fs)
    | _ => False)
def wpSs (c : Pr) : Ss → Env → Dn → Prop
  | .nil, ρ, D => D.nx ρ
  | .cons s ss, ρ, D => wpS c s ρ { D with nx := fun ρ1 => wpSs c ss ρ1 D }
end
/-- a def: its parameters, its slots, its body -/
structure Fn where
  ps : Nat
  n : Nat
  body : Ss
def wpFn (c : Pr) (f : Fn) (args : List Slot) (Q : KR) (X : KX) : Prop :=
  args.length = f.ps ∧ wpSs c f.body (args ++ List.replicate (f.n - f.ps) .no)
    { nx := fun ρ => Q .non false (ioOf args ρ), rt := fun o ρ => match retv ρ o with
      | some (t, fr) => Q t fr (ioOf args ρ)
      | none => False, bk := fun _ => False, ct := fun _ => False, xx := X }
/-- the program's text as the layer has it -/
structure Pg where
  fn : Str → Option Fn
  con : Str → Option T
  sub : Str → Str → Bool
  heq : Str → Option (Str × Str)
  exf : Str → Option (List Str)
/-- .. with n calls within one another -/
def Pg.at (g : Pg) : Nat → Pr
  | 0 => ⟨fun _ _ _ _ => False, g.con, g.sub, g.heq, g.exf, fun _ _ _ _ => False⟩
  | n + 1 => ⟨fun f args Q X => match g.fn f with
    | some d => wpFn (g.at n) d args Q X
    | none => False, g.con, g.sub, g.heq, g.exf, fun b cs Q X => wpE (g.at n) b (cs.map capS) (fun o ρ => match retv ρ o with
      | some (t, fr) => Q t fr
      | none => False) X⟩
end Zl

set_option Elab.async false
set_option linter.all false
set_option maxRecDepth 100000
set_option maxHeartbeats 4000000
/-! Z3: the meaning is monotone. -/
namespace Zl
open PySem
theorem one_mono {ρ : Env} {o : Opd} {K K' : T → Prop} (h : ∀ t, K t → K' t) (a : one ρ o K) : one ρ o K' := by
  unfold one at *; cases e : rd ρ o with
  | none => rw [e] at a; exact a.elim
  | some t => rw [e] at a; exact h t a
theorem two_mono {ρ : Env} {o u : Opd} {K K' : T → T → Prop} (h : ∀ t s, K t s → K' t s) (a : two ρ o u K) : two ρ o u K' := by
  unfold two at *; cases h1 : rd ρ o with
  | none => rw [h1] at a; exact a.elim
  | some t =>
    rw [h1] at a
    cases h2 : rd ρ u with
    | none => rw [h2] at a; exact a.elim
    | some s => rw [h2] at a; exact h _ _ a
theorem opR_mono {op : Bop} {a b : T} {Q Q' : KV} (h : ∀ t f, Q t f → Q' t f) (x : opR op a b Q) : opR op a b Q' := by
  unfold opR at *
  split at x <;> first | exact h _ _ x | exact ⟨x.1, h _ _ x.2⟩ | exact x.elim
theorem eqR_mono {a b : T} {Q Q' : Bool → Prop} (h : ∀ k, Q k → Q' k) (x : eqR a b Q) : eqR a b Q' := by
  unfold eqR at *
  split at x
  · exact h _ x
  · split at x
    · exact ⟨x.1, x.2.1, h _ x.2.2⟩
    · exact x.elim
theorem inR_mono {a b : T} {Q Q' : Bool → Prop} (h : ∀ k, Q k → Q' k) (x : inR a b Q) : inR a b Q' := by
  unfold inR at *
  split at x
  · split at x
    · exact h _ x
    · exact x.elim
  · split at x
    · exact ⟨x.1, x.2.1, h _ x.2.2⟩
    · exact ⟨x.1, x.2.1, h _ x.2.2⟩
    · exact x.elim
theorem isR_mono {a b : T} {Q Q' : Bool → Prop} (h : ∀ k, Q k → Q' k) (x : isR a b Q) : isR a b Q' := by
  unfold isR at *
  split at x
  · exact h _ x
  · split at x
    · exact h _ x
    · exact x.elim
  · exact x.elim
theorem cmpR_mono {op : Cop} {a b : T} {Q Q' : Bool → Prop} (h : ∀ k, Q k → Q' k) (x : cmpR op a b Q) : cmpR op a b Q' := by
  cases op
  · exact eqR_mono h x
  · exact eqR_mono (fun k q => h _ q) x
  all_goals first
    | exact isR_mono h x
    | exact isR_mono (fun k q => h _ q) x
    | exact inR_mono h x
    | exact inR_mono (fun k q => h _ q) x
    | (unfold cmpR at *; dsimp only at *; split at x <;> first | exact h _ x | exact x.elim)
theorem bltR_mono {b : Blt} {ts : List T} {Q Q' : KV} (h : ∀ t f, Q t f → Q' t f) (x : bltR b ts Q) : bltR b ts Q' := by
  unfold bltR at *
  split at x <;> first
    | exact h _ _ x
    | exact ⟨x.1, h _ _ x.2⟩
    | exact x.elim
    | (split at x <;> first
        | exact h _ _ x
        | exact ⟨x.1, x.2.1, x.2.2.1, h _ _ x.2.2.2⟩
        | exact ⟨x.1, h _ _ x.2⟩
        | exact ⟨x.1, fun m a b => h _ _ (x.2 m a b)⟩
        | exact x.elim)
theorem mthR_mono {m : Mt} {o : T} {ts : List T} {Q Q' : KV} (h : ∀ t f, Q t f → Q' t f) (x : mthR m o ts Q) : mthR m o ts Q' := by
  unfold mthR at *
  split at x <;> first
    | exact h _ _ x
    | exact x.elim
    | (split at x <;> first
        | exact h _ _ x
        | (obtain ⟨a, j, z, b, c, d, e⟩ := x; exact ⟨a, j, z, b, c, d, h _ _ e⟩)
        | exact ⟨x.1, h _ _ x.2⟩
        | exact x.elim)
theorem ixR_mono {a b : T} {Q Q' : T → Prop} (h : ∀ k, Q k → Q' k) (x : ixR a b Q) : ixR a b Q' := by
  unfold ixR at *
  split at x
  · obtain ⟨t, e, q⟩ := x; exact ⟨t, e, h _ q⟩
  · obtain ⟨t, e, q⟩ := x; exact ⟨t, e, h _ q⟩
  · split at x
    · obtain ⟨t, e, q⟩ := x; exact ⟨t, e, h _ q⟩
    · exact x.elim
  · exact x.elim
theorem slR_mono {a : T} {l u : Option Int} {Q Q' : KV} (h : ∀ t f, Q t f → Q' t f) (x : slR a l u Q) : slR a l u Q' := by
  unfold slR at *; split at x <;> first | exact h _ _ x | exact x.elim
theorem revR_mono {a : T} {Q Q' : KV} (h : ∀ t f, Q t f → Q' t f) (x : revR a Q) : revR a Q' := by
  unfold revR at *; split at x <;> first | exact h _ _ x | exact x.elim
theorem itemsR_mono {a : T} {Q Q' : List T → Prop} (h : ∀ k, Q k → Q' k) (x : itemsR a Q) : itemsR a Q' := by
  unfold itemsR at *; split at x <;> first | exact h _ x | exact x.elim
/-- the calls are monotone -/
def Pr.Mono (c : Pr) : Prop := (∀ f sl (Q Q' : KR) (X X' : KX), (∀ t fr io, Q t fr io → Q' t fr io) → (∀ n fs, X n fs → X' n fs) → c.call f sl Q X → c.call f sl Q' X') ∧
  ∀ b cs (Q Q' : T → Bool → Prop) (X X' : KX), (∀ t fr, Q t fr → Q' t fr) → (∀ n fs, X n fs → X' n fs) → c.clo b cs Q X → c.clo b cs Q' X'
theorem cmpI_mono {c : Pr} (hc : c.Mono) {op : Cop} {ρ : Env} {o1 o2 : Opd} {Q Q' : Bool → Env → Prop} {X X' : KX} (h : ∀ k ρ, Q k ρ → Q' k ρ) (hX : ∀ n fs, X n fs → X' n fs) (x : cmpI c op ρ o1 o2 Q X) : cmpI c op ρ o1 o2 Q' X' := by
  unfold cmpI at *
  refine two_mono (fun t s a => ?_) x
  split at a
  · split at a
    · exact ⟨a.1, hc.1 _ _ _ _ _ _ (fun t fr io ⟨k, e, q⟩ => ⟨k, e, h _ _ q⟩) hX a.2⟩
    · exact a.2.elim
  · split at a
    · exact ⟨a.1, hc.1 _ _ _ _ _ _ (fun t fr io ⟨k, e, q⟩ => ⟨k, e, h _ _ q⟩) hX a.2⟩
    · exact a.2.elim
  · exact cmpR_mono (fun k q => h _ _ q) a
theorem compL_mono {own : List Nat} {step step' : T → Env → (Option T → Env → Prop) → Prop}
    (hs : ∀ t ρ K K', (∀ r ρ1, K r ρ1 → K' r ρ1) → step t ρ K → step' t ρ K') : ∀ (ts acc : List T) (ρ : Env) (Q Q' : List T → Env → Prop), (∀ a ρ, Q a ρ → Q' a ρ) → compL own step ts acc ρ Q → compL own step' ts acc ρ Q'
  | [], acc, ρ, Q, Q', h, x => h _ _ x
  | t :: ts, acc, ρ, Q, Q', h, x => by
    unfold compL at *
    refine hs _ _ _ _ (fun r ρ1 a => ?_) x
    cases r with
    | none => exact compL_mono hs ts _ _ _ _ h a
    | some y => exact compL_mono hs ts _ _ _ _ h a
section
variable {c : Pr} (hc : c.Mono)
include hc
mutual
theorem wpE_mono : ∀ (e : E) (ρ : Env) (Q Q' : KE') (X X' : KX), (∀ o ρ1, Q o ρ1 → Q' o ρ1) → (∀ n fs, X n fs → X' n fs) → wpE c e ρ Q X → wpE c e ρ Q' X'
  | .nm i, ρ, Q, Q', X, X', h, hX, x => by unfold wpE at *; split at x <;> first | exact h _ _ x | exact x.elim
  | .int i, ρ, Q, Q', X, X', h, hX, x => by unfold wpE at *; exact h _ _ x
  | .str i, ρ, Q, Q', X, X', h, hX, x => by unfold wpE at *; exact h _ _ x
  | .bl i, ρ, Q, Q', X, X', h, hX, x => by unfold wpE at *; exact h _ _ x
  | .non, ρ, Q, Q', X, X', h, hX, x => by unfold wpE at *; exact h _ _ x
  | .con x, ρ, Q, Q', X, X', h, hX, y => by unfold wpE at *; split at y <;> first | exact h _ _ y | exact y.elim
  | .fnv i, ρ, Q, Q', X, X', h, hX, x => by unfold wpE at *; exact h _ _ x
  | .tup es, ρ, Q, Q', X, X', h, hX, x => by
    unfold wpE at *
    refine wpEs_mono es _ _ _ _ _ (fun os ρ1 a => ?_) hX x
    split at a <;> first | exact h _ _ a | exact a.elim
  | .lst es, ρ, Q, Q', X, X', h, hX, x => by
    unfold wpE at *
    refine wpEs_mono es _ _ _ _ _ (fun os ρ1 a => ?_) hX x
    split at a <;> first | exact h _ _ a | exact a.elim
  | .bin op a b, ρ, Q, Q', X, X', h, hX, x => by
    unfold wpE at *
    exact wpE_mono a _ _ _ _ _ (fun o1 ρ1 y => wpE_mono b _ _ _ _ _ (fun o2 ρ2 z => two_mono (fun t s w => opR_mono (fun t f q => h _ _ q) w) z) hX y) hX x
  | .neg a, ρ, Q, Q', X, X', h, hX, x => by
    unfold wpE at *
    exact wpE_mono a _ _ _ _ _ (fun o1 ρ1 y => one_mono (fun t z => by split at z <;> first | exact h _ _ z | exact z.elim) y) hX x
  | .inv a, ρ, Q, Q', X, X', h, hX, x => by
    unfold wpE at *
    exact wpE_mono a _ _ _ _ _ (fun o1 ρ1 y => one_mono (fun t z => by split at z <;> first | exact h _ _ z | exact z.elim) y) hX x
  | .not a, ρ, Q, Q', X, X', h, hX, x => by
    unfold wpE at *
    exact wpE_mono a _ _ _ _ _ (fun o1 ρ1 y => one_mono (fun t z => by split at z <;> first | exact h _ _ z | exact z.elim) y) hX x
  | .cmp op a b, ρ, Q, Q', X, X', h, hX, x => by
    unfold wpE at *
    exact wpE_mono a _ _ _ _ _ (fun o1 ρ1 y => wpE_mono b _ _ _ _ _ (fun o2 ρ2 z => cmpI_mono hc (fun k ρ3 q => h _ _ q) hX z) hX y) hX x
  | .chn op op' a b d, ρ, Q, Q', X, X', h, hX, x => by
    unfold wpE at *
    exact wpE_mono a _ _ _ _ _ (fun o1 ρ1 y => wpE_mono b _ _ _ _ _ (fun o2 ρ2 z => two_mono (fun t s w => cmpR_mono (fun k q =>
      ⟨fun e => wpE_mono d _ _ _ _ _ (fun o3 ρ3 r => two_mono (fun t s w => cmpR_mono (fun k q => h _ _ q) w) r) hX (q.1 e), fun e => h _ _ (q.2 e)⟩) w) z) hX y) hX x
  | .and a b, ρ, Q, Q', X, X', h, hX, x => by
    unfold wpE at *
    exact wpE_mono a _ _ _ _ _ (fun o1 ρ1 y => one_mono (fun t ⟨k, e, p, q⟩ => ⟨k, e, fun z => wpE_mono b _ _ _ _ _ h hX (p z), fun z => h _ _ (q z)⟩) y) hX x
  | .or a b, ρ, Q, Q', X, X', h, hX, x => by
    unfold wpE at *
    exact wpE_mono a _ _ _ _ _ (fun o1 ρ1 y => one_mono (fun t ⟨k, e, p, q⟩ => ⟨k, e, fun z => h _ _ (p z), fun z => wpE_mono b _ _ _ _ _ h hX (q z)⟩) y) hX x
  | .ite t a b, ρ, Q, Q', X, X', h, hX, x => by
    unfold wpE at *
    exact wpB_mono t _ _ _ _ _ (fun k ρ1 y => ⟨fun e => wpE_mono a _ _ _ _ _ h hX (y.1 e), fun e => wpE_mono b _ _ _ _ _ h hX (y.2 e)⟩) hX x
  | .ix a b, ρ, Q, Q', X, X', h, hX, x => by
    unfold wpE at *
    exact wpE_mono a _ _ _ _ _ (fun o1 ρ1 y => wpE_mono b _ _ _ _ _ (fun o2 ρ2 z => two_mono (fun t s w => ixR_mono (fun t q => h _ _ q) w) z) hX y) hX x
  | .sl a lo hi, ρ, Q, Q', X, X', h, hX, x => by
    unfold wpE at *
    exact wpE_mono a _ _ _ _ _ (fun o1 ρ1 y => wpEo_mono lo _ _ _ _ _ (fun l ρ2 z => wpEo_mono hi _ _ _ _ _ (fun u ρ3 w => one_mono (fun t r => slR_mono (fun t f q => h _ _ q) r) w) hX z) hX y) hX x
  | .rev a, ρ, Q, Q', X, X', h, hX, x => by
    unfold wpE at *
    exact wpE_mono a _ _ _ _ _ (fun o1 ρ1 y => one_mono (fun t z => revR_mono (fun t f q => h _ _ q) z) y) hX x
  | .fld a f, ρ, Q, Q', X, X', h, hX, x => by
    unfold wpE at *
    exact wpE_mono a _ _ _ _ _ (fun o1 ρ1 y => one_mono (fun t z => by
      split at z
      · split at z <;> first | exact h _ _ z | exact z.elim
      · exact z.elim) y) hX x
  | .call f es, ρ, Q, Q', X, X', h, hX, x => by
    unfold wpE at *
    refine wpEs_mono es _ _ _ _ _ (fun os ρ1 a => ?_) hX x
    split at a
    · exact hc.1 _ _ _ _ _ _ (fun t fr io q => h _ _ q) hX a
    · exact a.elim
  | .mk n q es, ρ, Q, Q', X, X', h, hX, x => by
    unfold wpE at *
    refine wpEs_mono es _ _ _ _ _ (fun os ρ1 a => ?_) hX x
    split at a
    · exact hc.1 _ _ _ _ _ _ (fun t fr io q => ⟨q.1, by have q := q.2; split at q <;> first | exact h _ _ q | exact q.elim⟩) hX a
    · exact a.elim
  | .mk0 i, ρ, Q, Q', X, X', h, hX, x => by unfold wpE at *; exact h _ _ x
  | .blt b es, ρ, Q, Q', X, X', h, hX, x => by
    unfold wpE at *
    refine wpEs_mono es _ _ _ _ _ (fun os ρ1 a => ?_) hX x
    split at a
    · exact bltR_mono (fun t f q => h _ _ q) a
    · exact a.elim
  | .mth m o es, ρ, Q, Q', X, X', h, hX, x => by
    unfold wpE at *
    refine wpE_mono o _ _ _ _ _ (fun o1 ρ1 y => one_mono (fun x0 y => ⟨y.1, wpEs_mono es _ _ _ _ _ (fun os ρ1 a => ?_) hX y.2⟩) y) hX x
    split at a
    · exact mthR_mono (fun t f q => h _ _ q) a
    · exact a.elim
  | .isi a cs, ρ, Q, Q', X, X', h, hX, x => by
    unfold wpE at *
    exact wpE_mono a _ _ _ _ _ (fun o1 ρ1 y => one_mono (fun t z => ⟨z.1, h _ _ z.2⟩) y) hX x
  | .app i e, ρ, Q, Q', X, X', h, hX, x => by
    unfold wpE at *
    split at x
    · refine wpE_mono e _ _ _ _ _ (fun o1 ρ1 y => ?_) hX x
      split at y
      · split at y
        · exact ⟨y.1, h _ _ y.2⟩
        · exact y.elim
      · exact y.elim
    · exact x.elim
  | .pop i, ρ, Q, Q', X, X', h, hX, x => by
    unfold wpE at *
    split at x
    · split at x
      · exact h _ _ x
      · exact x.elim
    · exact x.elim
  | .popAt i e, ρ, Q, Q', X, X', h, hX, x => by
    unfold wpE at *
    split at x
    · refine wpE_mono e _ _ _ _ _ (fun o1 ρ1 y => one_mono (fun t z => ?_) y) hX x
      split at z
      · split at z
        · obtain ⟨j, y, a, b, q⟩ := z; exact ⟨j, y, a, b, h _ _ q⟩
        · exact z.elim
      · exact z.elim
    · exact x.elim
  | .lrng tp a b, ρ, Q, Q', X, X', h, hX, x => by
    unfold wpE at *
    refine wpE_mono a _ _ _ _ _ (fun o1 ρ1 y => wpE_mono b _ _ _ _ _ (fun o2 ρ2 z => two_mono (fun t s w => ?_) z) hX y) hX x
    split at w
    · exact ⟨w.1, h _ _ w.2⟩
    · exact w.elim
  | .dsp ks es, ρ, Q, Q', X, X', h, hX, x => by
    unfold wpE at *
    refine wpEs_mono es _ _ _ _ _ (fun os ρ1 a => ?_) hX x
    split at a
    · exact ⟨a.1, h _ _ a.2⟩
    · exact a.elim
  | .comp own tg it cd elt, ρ, Q, Q', X, X', h, hX, x => by
    unfold wpE at *
    refine wpIt_mono it _ _ _ _ _ (fun ts ρ1 a => ?_) hX x
    split at a
    · refine ⟨a.1, compL_mono (fun t ρ K K' hK b => ?_) _ _ _ _ _ (fun acc ρ8 q => h _ _ q) a.2⟩
      split at b
      · refine wpC_mono cd _ _ _ _ _ (fun k ρ5 d => ⟨fun e => wpE_mono elt _ _ _ _ _ (fun o ρ6 g => ?_) (fun _ _ z => z) (d.1 e), fun e => hK _ _ (d.2 e)⟩) (fun _ _ z => z) b
        split at g
        · exact hK _ _ g
        · exact g.elim
      · exact b.elim
    · exact a.elim
  | .lam cs b, ρ, Q, Q', X, X', h, hX, x => by
    unfold wpE at *
    split at x <;> first | exact h _ _ x | exact x.elim
theorem wpEs_mono : ∀ (es : Es) (ρ : Env) (Q Q' : List Opd → Env → Prop) (X X' : KX), (∀ o ρ1, Q o ρ1 → Q' o ρ1) → (∀ n fs, X n fs → X' n fs) → wpEs c es ρ Q X → wpEs c es ρ Q' X'
  | .nil, ρ, Q, Q', X, X', h, hX, x => by unfold wpEs at *; exact h _ _ x
  | .cons e es, ρ, Q, Q', X, X', h, hX, x => by
    unfold wpEs at *
    exact wpE_mono e _ _ _ _ _ (fun o ρ1 y => wpEs_mono es _ _ _ _ _ (fun os ρ2 z => h _ _ z) hX y) hX x
theorem wpEo_mono : ∀ (e : Eo) (ρ : Env) (Q Q' : Option Int → Env → Prop) (X X' : KX), (∀ o ρ1, Q o ρ1 → Q' o ρ1) → (∀ n fs, X n fs → X' n fs) → wpEo c e ρ Q X → wpEo c e ρ Q' X'
  | .none, ρ, Q, Q', X, X', h, hX, x => by unfold wpEo at *; exact h _ _ x
  | .some e, ρ, Q, Q', X, X', h, hX, x => by
    unfold wpEo at *
    exact wpE_mono e _ _ _ _ _ (fun o ρ1 y => one_mono (fun t z => by split at z <;> first | exact h _ _ z | exact z.elim) y) hX x
theorem wpC_mono : ∀ (e : Eo) (ρ : Env) (Q Q' : Bool → Env → Prop) (X X' : KX), (∀ o ρ1, Q o ρ1 → Q' o ρ1) → (∀ n fs, X n fs → X' n fs) → wpC c e ρ Q X → wpC c e ρ Q' X'
  | .none, ρ, Q, Q', X, X', h, hX, x => by unfold wpC at *; exact h _ _ x
  | .some e, ρ, Q, Q', X, X', h, hX, x => by unfold wpC at *; exact wpB_mono e _ _ _ _ _ h hX x
theorem wpB_mono : ∀ (e : E) (ρ : Env) (Q Q' : Bool → Env → Prop) (X X' : KX), (∀ o ρ1, Q o ρ1 → Q' o ρ1) → (∀ n fs, X n fs → X' n fs) → wpB c e ρ Q X → wpB c e ρ Q' X'
  | .not a, ρ, Q, Q', X, X', h, hX, x => by unfold wpB at *; exact wpB_mono a _ _ _ _ _ (fun k ρ1 y => h _ _ y) hX x
  | .and a b, ρ, Q, Q', X, X', h, hX, x => by
    unfold wpB at *
    exact wpB_mono a _ _ _ _ _ (fun k ρ1 y => ⟨fun e => wpB_mono b _ _ _ _ _ h hX (y.1 e), fun e => h _ _ (y.2 e)⟩) hX x
  | .or a b, ρ, Q, Q', X, X', h, hX, x => by
    unfold wpB at *
    exact wpB_mono a _ _ _ _ _ (fun k ρ1 y => ⟨fun e => h _ _ (y.1 e), fun e => wpB_mono b _ _ _ _ _ h hX (y.2 e)⟩) hX x
  | .cmp op a b, ρ, Q, Q', X, X', h, hX, x => by
    unfold wpB at *
    exact wpE_mono a _ _ _ _ _ (fun o1 ρ1 y => wpE_mono b _ _ _ _ _ (fun o2 ρ2 z => cmpI_mono hc h hX z) hX y) hX x
  | .chn op op' a b d, ρ, Q, Q', X, X', h, hX, x => by
    unfold wpB at *
    exact wpE_mono a _ _ _ _ _ (fun o1 ρ1 y => wpE_mono b _ _ _ _ _ (fun o2 ρ2 z => two_mono (fun t s w => cmpR_mono (fun k q =>
      ⟨fun e => wpE_mono d _ _ _ _ _ (fun o3 ρ3 r => two_mono (fun t s w => cmpR_mono (fun k q => h _ _ q) w) r) hX (q.1 e), fun e => h _ _ (q.2 e)⟩) w) z) hX y) hX x
  | .nm _, ρ, Q, Q', X, X', h, hX, x | .int _, ρ, Q, Q', X, X', h, hX, x | .str _, ρ, Q, Q', X, X', h, hX, x | .bl _, ρ, Q, Q', X, X', h, hX, x | .non, ρ, Q, Q', X, X', h, hX, x
  | .con _, ρ, Q, Q', X, X', h, hX, x | .fnv _, ρ, Q, Q', X, X', h, hX, x | .tup _, ρ, Q, Q', X, X', h, hX, x | .lst _, ρ, Q, Q', X, X', h, hX, x | .bin _ _ _, ρ, Q, Q', X, X', h, hX, x
  | .neg _, ρ, Q, Q', X, X', h, hX, x | .inv _, ρ, Q, Q', X, X', h, hX, x | .ite _ _ _, ρ, Q, Q', X, X', h, hX, x | .ix _ _, ρ, Q, Q', X, X', h, hX, x | .sl _ _ _, ρ, Q, Q', X, X', h, hX, x
  | .rev _, ρ, Q, Q', X, X', h, hX, x | .fld _ _, ρ, Q, Q', X, X', h, hX, x | .call _ _, ρ, Q, Q', X, X', h, hX, x | .mk _ _ _, ρ, Q, Q', X, X', h, hX, x | .mk0 _, ρ, Q, Q', X, X', h, hX, x
  | .blt _ _, ρ, Q, Q', X, X', h, hX, x | .mth _ _ _, ρ, Q, Q', X, X', h, hX, x | .isi _ _, ρ, Q, Q', X, X', h, hX, x | .app _ _, ρ, Q, Q', X, X', h, hX, x | .pop _, ρ, Q, Q', X, X', h, hX, x
  | .popAt _ _, ρ, Q, Q', X, X', h, hX, x | .lrng _ _ _, ρ, Q, Q', X, X', h, hX, x | .dsp _ _, ρ, Q, Q', X, X', h, hX, x | .comp _ _ _ _ _, ρ, Q, Q', X, X', h, hX, x | .lam _ _, ρ, Q, Q', X, X', h, hX, x => by
    unfold wpB at *
    exact wpE_mono _ _ _ _ _ _ (fun o1 ρ1 y => one_mono (fun t z => by split at z <;> first | exact h _ _ z | exact z.elim) y) hX x
theorem wpIt_mono : ∀ (e : It) (ρ : Env) (Q Q' : List T → Env → Prop) (X X' : KX), (∀ o ρ1, Q o ρ1 → Q' o ρ1) → (∀ n fs, X n fs → X' n fs) → wpIt c e ρ Q X → wpIt c e ρ Q' X'
  | .val e, ρ, Q, Q', X, X', h, hX, x => by
    unfold wpIt at *
    refine wpE_mono e _ _ _ _ _ (fun o ρ1 y => ?_) hX x
    split at y
    · exact itemsR_mono (fun ts q => h _ _ q) y
    · exact y.elim
  | .rng a b, ρ, Q, Q', X, X', h, hX, x => by
    unfold wpIt at *
    refine wpE_mono a _ _ _ _ _ (fun o1 ρ1 y => wpE_mono b _ _ _ _ _ (fun o2 ρ2 z => two_mono (fun t s w => ?_) z) hX y) hX x
    split at w
    · exact ⟨w.1, h _ _ w.2⟩
    · exact w.elim
  | .enum e, ρ, Q, Q', X, X', h, hX, x => by
    unfold wpIt at *
    refine wpE_mono e _ _ _ _ _ (fun o ρ1 y => ?_) hX x
    split at y <;> first | exact h _ _ y | exact y.elim
  | .zip a b, ρ, Q, Q', X, X', h, hX, x => by
    unfold wpIt at *
    refine wpE_mono a _ _ _ _ _ (fun o1 ρ1 y => wpE_mono b _ _ _ _ _ (fun o2 ρ2 z => ?_) hX y) hX x
    split at z <;> first | exact h _ _ z | exact z.elim
end
end
theorem hnd_mono {K K' : T → Prop} {X X' : KX} (h : ∀ t, K t → K' t) (hX : ∀ n fs, X n fs → X' n fs) : ∀ hs n fs, hnd K X hs n fs → hnd K' X' hs n fs
  | [], n, fs, x => hX _ _ x
  | (d, tag, fl) :: r, n, fs, x => by
    unfold hnd at *
    split
    · rename_i e
      rw [if_pos e] at x
      obtain ⟨ts, a, b⟩ := x
      exact ⟨ts, a, h _ b⟩
    · rename_i e
      rw [if_neg e] at x
      exact hnd_mono h hX r n fs x
/-- a wish is weaker -/
structure Dn.Le (D D' : Dn) : Prop where
  nx : ∀ ρ, D.nx ρ → D'.nx ρ
  rt : ∀ o ρ, D.rt o ρ → D'.rt o ρ
  bk : ∀ ρ, D.bk ρ → D'.bk ρ
  ct : ∀ ρ, D.ct ρ → D'.ct ρ
  xx : ∀ n fs, D.xx n fs → D'.xx n fs
theorem forL_mono {step step' : T → Env → Dn → Prop} (hs : ∀ t ρ D D', D.Le D' → step t ρ D → step' t ρ D') : ∀ (ts : List T) (ρ : Env) (D D' : Dn), D.Le D' → forL step ts ρ D → forL step' ts ρ D'
  | [], ρ, D, D', h, x => h.nx _ x
  | t :: ts, ρ, D, D', h, x => by
    unfold forL at *
    refine hs t ρ { D with nx := fun ρ1 => forL step ts ρ1 D, ct := fun ρ1 => forL step ts ρ1 D, bk := D.nx } _ ?_ x
    exact ⟨fun ρ1 y => forL_mono hs ts _ _ _ h y, h.rt, h.nx, fun ρ1 y => forL_mono hs ts _ _ _ h y, h.xx⟩
theorem whileL_mono {cond cond' : Env → (Bool → Env → Prop) → Prop} {step step' : Env → Dn → Prop} (h1 : ∀ ρ K K', (∀ k ρ1, K k ρ1 → K' k ρ1) → cond ρ K → cond' ρ K') (hs : ∀ ρ D D', D.Le D' → step ρ D → step' ρ D')
    (ρ : Env) (D D' : Dn) (h : D.Le D') (x : whileL cond step ρ D) : whileL cond' step' ρ D' := by
  obtain ⟨W, h0, hw⟩ := x
  exact ⟨W, h0, fun m ρ w => h1 _ _ _ (fun k ρ1 y => ⟨fun e => hs ρ1 { D with nx := fun ρ2 => ∃ m', m' < m ∧ W m' ρ2, ct := fun ρ2 => ∃ m', m' < m ∧ W m' ρ2, bk := D.nx } _ ⟨fun _ z => z, h.rt, h.nx, fun _ z => z, h.xx⟩ (y.1 e), fun e => h.nx _ (y.2 e)⟩) (hw m ρ w)⟩
section
variable {c : Pr} (hc : c.Mono)
include hc
theorem wpX_mono (t : Tx) (o : Opd) (ρ : Env) (Q Q' : Env → Prop) (X X' : KX) (h : ∀ ρ, Q ρ → Q' ρ) (hX : ∀ n fs, X n fs → X' n fs) (x : wpX c t o ρ Q X) : wpX c t o ρ Q' X' := by
  cases t with
  | tg tp =>
    cases tp with
    | nm i => unfold wpX at *; dsimp only at *; split at x <;> first | exact h _ x | exact x.elim
    | tp ts =>
      unfold wpX at *; dsimp only at *
      split at x
      · split at x <;> first | exact h _ x | exact x.elim
      · exact x.elim
  | ix i k =>
    unfold wpX at *; dsimp only at *
    split at x
    · refine ⟨x.1, wpE_mono hc k _ _ _ _ _ (fun o2 ρ2 y => one_mono (fun t z => ?_) y) hX x.2⟩
      split at z
      · obtain ⟨j, e, q⟩ := z; exact ⟨j, e, h _ q⟩
      · split at z
        · exact ⟨z.1, h _ z.2⟩
        · exact z.elim
      · split at z
        · exact ⟨z.1, h _ z.2⟩
        · exact z.elim
      · exact z.elim
    · exact x.elim
  | fld i f =>
    unfold wpX at *; dsimp only at *
    split at x
    · split at x
      · exact ⟨x.1, h _ x.2⟩
      · exact x.elim
    · exact x.elim
mutual
theorem wpS_mono : ∀ (s : S) (ρ : Env) (D D' : Dn), D.Le D' → wpS c s ρ D → wpS c s ρ D'
  | .asg t e, ρ, D, D', h, x => by
    unfold wpS at *
    exact wpE_mono hc e _ _ _ _ _ (fun o ρ1 y => wpX_mono hc t o ρ1 _ _ _ _ h.nx h.xx y) h.xx x
  | .par is es, ρ, D, D', h, x => by
    unfold wpS at *
    refine wpEs_mono hc es _ _ _ _ _ (fun o ρ1 y => ?_) h.xx x
    split at y
    · split at y
      · exact h.nx _ y
      · exact y.elim
    · exact y.elim
  | .aug op i e, ρ, D, D', h, x => by
    unfold wpS at *
    refine wpE_mono hc _ _ _ _ _ _ (fun o ρ1 y => ?_) h.xx x
    split at y
    · split at y
      · exact h.nx _ y
      · exact y.elim
    · exact y.elim
  | .augix op i k e, ρ, D, D', h, x => by
    unfold wpS at *
    refine ⟨x.1, wpE_mono hc k _ _ _ _ _ (fun o ρ1 y => one_mono (fun kk z => ?_) y) h.xx x.2⟩
    split at z
    · obtain ⟨j, x, a, b, q⟩ := z
      refine ⟨j, x, a, b, wpE_mono hc e _ _ _ _ _ (fun o2 ρ2 w => one_mono (fun y u => opR_mono (fun t f r => ?_) u) w) h.xx q⟩
      split at r
      · obtain ⟨j2, e2, q2⟩ := r; exact ⟨j2, e2, h.nx _ q2⟩
      · exact r.elim
    · exact z.elim
  | .ex e, ρ, D, D', h, x => by unfold wpS at *; exact wpE_mono hc e _ _ _ _ _ (fun o ρ1 y => h.nx _ y) h.xx x
  | .ret e, ρ, D, D', h, x => by unfold wpS at *; exact wpE_mono hc e _ _ _ _ _ h.rt h.xx x
  | .retn, ρ, D, D', h, x => by unfold wpS at *; exact h.rt _ _ x
  | .if_ t a b, ρ, D, D', h, x => by
    unfold wpS at *
    exact wpB_mono hc t _ _ _ _ _ (fun k ρ1 y => ⟨fun e => wpSs_mono a _ _ _ h (y.1 e), fun e => wpSs_mono b _ _ _ h (y.2 e)⟩) h.xx x
  | .for_ t it b, ρ, D, D', h, x => by
    unfold wpS at *
    refine wpIt_mono hc it _ _ _ _ _ (fun ts ρ1 y => forL_mono (fun v ρ D D' h z => ?_) ts _ _ _ h y) h.xx x
    split at z
    · exact wpSs_mono b _ _ _ h z
    · exact z.elim
  | .while_ t b, ρ, D, D', h, x => by
    unfold wpS at *
    refine whileL_mono ?_ ?_ _ _ _ h x
    · exact fun ρ K K' hK y => wpB_mono hc t _ _ _ _ _ hK h.xx y
    · exact fun ρ D D' h z => wpSs_mono b _ _ _ h z
  | .brk, ρ, D, D', h, x => by unfold wpS at *; exact h.bk _ x
  | .cnt, ρ, D, D', h, x => by unfold wpS at *; exact h.ct _ x
  | .pass, ρ, D, D', h, x => by unfold wpS at *; exact h.nx _ x
  | .raise n es, ρ, D, D', h, x => by
    unfold wpS at *
    refine wpEs_mono hc es _ _ _ _ _ (fun o ρ1 y => ?_) h.xx x
    split at y
    · exact ⟨y.1, h.xx _ _ y.2⟩
    · exact y.elim
  | .tryf i hs, ρ, D, D', h, x => by
    unfold wpS at *
    split at x
    · exact hc.2 _ _ _ _ _ _ (fun _ _ y => h.nx _ y) (fun n fs y => ⟨y.1, hnd_mono (fun t y => h.rt _ _ y) h.xx hs n fs y.2⟩) x
    · exact x.elim
theorem wpSs_mono : ∀ (s : Ss) (ρ : Env) (D D' : Dn), D.Le D' → wpSs c s ρ D → wpSs c s ρ D'
  | .nil, ρ, D, D', h, x => by unfold wpSs at *; exact h.nx _ x
  | .cons s ss, ρ, D, D', h, x => by
    unfold wpSs at *
    refine wpS_mono s _ _ _ ?_ x
    exact ⟨fun ρ1 y => wpSs_mono ss _ _ _ h y, h.rt, h.bk, h.ct, h.xx⟩
end
theorem wpFn_mono (f : Fn) (args : List Slot) (Q Q' : KR) (X X' : KX) (h : ∀ t fr io, Q t fr io → Q' t fr io) (hX : ∀ n fs, X n fs → X' n fs) (x : wpFn c f args Q X) : wpFn c f args Q' X' := by
  unfold wpFn at *
  refine ⟨x.1, wpSs_mono hc _ _ _ _ ?_ x.2⟩
  refine ⟨fun ρ y => h _ _ _ y, fun o ρ y => ?_, fun _ y => y, fun _ y => y, hX⟩
  dsimp only at *
  split at y
  · exact h _ _ _ y
  · exact y.elim
end
theorem Pg.mono (g : Pg) : ∀ n, (g.at n).Mono
  | 0 => ⟨fun _ _ _ _ _ _ _ _ x => x.elim, fun _ _ _ _ _ _ _ _ x => x.elim⟩
  | n + 1 => ⟨fun f sl Q Q' X X' h hX x => by
    unfold Pg.at at *
    dsimp only at *
    split at x
    · exact wpFn_mono (g.mono n) _ _ _ _ _ _ h hX x
    · exact x.elim, fun b cs Q Q' X X' h hX x => by
    unfold Pg.at at *
    dsimp only at *
    refine wpE_mono (g.mono n) _ _ _ _ _ _ (fun o ρ y => ?_) hX x
    split at y <;> first | exact h _ _ y | exact y.elim⟩
/-- more depth does no harm -/
theorem Pg.more (g : Pg) : True := trivial
end Zl

set_option Elab.async false
set_option linter.all false
set_option maxRecDepth 100000
set_option maxHeartbeats 4000000
/-! Z4: trees and the abstract heap. -/
namespace Zl
open PySem PySem.Spec PyProof.Rows L2
/-- the program behind its top: what the text wrote, where the defs and classes stand; what object a lambda is -/
structure Wd where
  K : PySem.W.Frag
  FA : Str → Addr
  CA : Str → Addr
  okc : Str → Prop
  lams : List Str → List (Str × NameKind) → Expr → E → Prop
  tbs : List (Addr × Addr)
/-- what object a lambda is: its body is told among the text's lambdas -/
def COk (W : Wd) (f c' : Addr) (q : Str) (N : List Str) (cl : List (Str × Addr)) (b : E) (o : HO) : Prop :=
  ∃ (params : Arguments) (py : Expr) (scope : Scope) (pm ctv : Value), W.lams N scope.names py b ∧ o = .ext (fun h => h.get? f = some (PySem.W.kla_obj "<lambda>" q params py scope cl pm c' ctv)) ∧
    (∀ cv, bindArgs (PySem.W.kla_fn "<lambda>" q params py scope cl pm cv ctv) ⟨[], []⟩ = pure []) ∧ scope.kind = .function ∧ scope.isCoroutine = false ∧ scope.isGenerator = false ∧ (∀ y ∈ scope.names, y.2 ≠ .local ∧ y.2 ≠ .cell) ∧
    (∀ x, scope.names.lookup x = some .free → ∃ a, cl.lookup x = some a) ∧ (∀ y z a, cl.lookup y = some a → cl.lookup z = some a → y = z) ∧ ∀ x a, cl.lookup x = some a → x ∈ N
/-- lists, dicts, instances that nobody writes any more; the cells that lambdas see -/
structure Gh where
  S : Addr → Prop
  Γ : List (Addr × V)
structure Gh.Le (g g' : Gh) : Prop where
  s : ∀ a, g.S a → g'.S a
  c : ∀ p, p ∈ g.Γ → p ∈ g'.Γ
theorem Gh.Le.refl (g : Gh) : g.Le g := ⟨fun _ h => h, fun _ h => h⟩
theorem Gh.Le.trans {a b c : Gh} (x : a.Le b) (y : b.Le c) : a.Le c := ⟨fun _ h => y.s _ (x.s _ h), fun _ h => y.c _ (x.c _ h)⟩
/-- objects that never change -/
def imm : HO → Prop
  | .tup _ => True
  | .frz _ _ => True
  | .ext _ => True
  | _ => False
def TupAt (K : PySem.W.Frag) (H : Hp) (a : Addr) (vs : List V) : Prop :=
  H a = some (.tup vs) ∨ ∃ (o : Obj) (its : Array Value) (n : Nat), K.lookup a = some o ∧ o.cls = .type "tuple" ∧ o.data = .seq its n ∧ its.size ≤ sizeLine ∧ Vals vs its.toList
theorem TupAt.sq {K : PySem.W.Frag} {H : Hp} {a : Addr} {vs : List V} (h : TupAt K H a vs) : SqT K H a vs := by
  rcases h with h | h
  · exact .inl (.inl h)
  · exact .inr h
/-- a list of the law's script: nobody writes it -/
def ScrAt (K : PySem.W.Frag) (S : Addr → Prop) (H : Hp) (a : Addr) (vs : List V) : Prop :=
  (S a ∧ H a = some (.lst vs)) ∨ (∃ o, H a = some (.frz o (.lst vs))) ∨ ∃ (o : Obj) (its : Array Value) (n : Nat), K.lookup a = some o ∧ o.cls = .type "list" ∧ o.dict = none ∧ o.data = .seq its n ∧ its.size ≤ sizeLine ∧ Vals vs its.toList
theorem ScrAt.sq {K : PySem.W.Frag} {S : Addr → Prop} {H : Hp} {a : Addr} {vs : List V} (h : ScrAt K S H a vs) : SqL K H a vs := by
  rcases h with ⟨_, h⟩ | h | h
  · exact .of h
  · exact .inl (.inr h)
  · exact .inr h
mutual
inductive Rep (W : Wd) (g : Gh) (H : Hp) : V → T → Prop
  | non : Rep W g H .non .non
  | bl (b : Bool) : Rep W g H (.bl b) (.bl b)
  | int (i : Int) : Rep W g H (.int i) (.int i)
  | str (x : Str) : Rep W g H (.str x) (.str x)
  | tup {a : Addr} {vs : List V} {ts : List T} (h : TupAt W.K H a vs) (r : RepL W g H vs ts) : Rep W g H (.ref a) (.tup ts)
  | lst {a : Addr} {vs : List V} {ts : List T} (h : g.S a) (e : H a = some (.lst vs)) (r : RepL W g H vs ts) : Rep W g H (.ref a) (.lst ts)
  | scr {a : Addr} {vs : List V} {ts : List T} (e : ScrAt W.K g.S H a vs) (r : RepL W g H vs ts) : Rep W g H (.ref a) (.scr ts)
  | dct {a : Addr} {kvs : List (Key × V)} {kts : List (Key × T)} (h : g.S a) (e : H a = some (.dK kvs)) (r : RepK W g H kvs kts) : Rep W g H (.ref a) (.dct kts)
  | ins {a dx : Addr} {c : Str} {vs : List (Str × V)} {fs : List (Str × T)} (m : W.okc c) (h : g.S a) (e : H a = some (.ins (W.CA c) dx vs)) (r : RepF W g H vs fs) : Rep W g H (.ref a) (.ins c fs)
  | fn (x : Str) : Rep W g H (.ref (W.FA x)) (.fn x)
  | clo {f c' : Addr} {q : Str} {o : HO} {N : List Str} {cl : List (Str × Addr)} {body : E} {caps : List (Option T)} (e : H f = some o) (i : imm o) (e2 : H c' = some (LamX.CodeO c' q)) (c : COk W f c' q N cl body o) (r : RepC W g H cl N caps) : Rep W g H (.ref f) (.clo body caps)
inductive RepL (W : Wd) (g : Gh) (H : Hp) : List V → List T → Prop
  | nil : RepL W g H [] []
  | cons {v : V} {t : T} {vs : List V} {ts : List T} (r : Rep W g H v t) (rs : RepL W g H vs ts) : RepL W g H (v :: vs) (t :: ts)
inductive RepK (W : Wd) (g : Gh) (H : Hp) : List (Key × V) → List (Key × T) → Prop
  | nil : RepK W g H [] []
  | cons {k : Key} {v : V} {t : T} {vs : List (Key × V)} {ts : List (Key × T)} (r : Rep W g H v t) (rs : RepK W g H vs ts) : RepK W g H ((k, v) :: vs) ((k, t) :: ts)
inductive RepF (W : Wd) (g : Gh) (H : Hp) : List (Str × V) → List (Str × T) → Prop
  | nil : RepF W g H [] []
  | cons {f : Str} {v : V} {t : T} {vs : List (Str × V)} {ts : List (Str × T)} (r : Rep W g H v t) (rs : RepF W g H vs ts) : RepF W g H ((f, v) :: vs) ((f, t) :: ts)
inductive RepC (W : Wd) (g : Gh) (H : Hp) : List (Str × Addr) → List Str → List (Option T) → Prop
  | nil {cl : List (Str × Addr)} : RepC W g H cl [] []
  | no {cl : List (Str × Addr)} {n : Str} {N : List Str} {caps : List (Option T)} (e : cl.lookup n = none) (rs : RepC W g H cl N caps) : RepC W g H cl (n :: N) (none :: caps)
  | yes {cl : List (Str × Addr)} {n : Str} {c : Addr} {v : V} {t : T} {N : List Str} {caps : List (Option T)} (e : cl.lookup n = some c) (m : (c, v) ∈ g.Γ) (r : Rep W g H v t) (rs : RepC W g H cl N caps) : RepC W g H cl (n :: N) (some t :: caps)
end
/-- what a reading leans on stands on -/
structure Keep (g : Gh) (H : Hp) (g' : Gh) (H' : Hp) : Prop where
  le : g.Le g'
  obj : ∀ a o, H a = some o → (g.S a ∨ imm o) → H' a = some o
theorem Keep.refl (g : Gh) (H : Hp) : Keep g H g H := ⟨.refl g, fun _ _ h _ => h⟩
theorem TupAt.keep {K : PySem.W.Frag} {g g' : Gh} {H H' : Hp} {a : Addr} {vs : List V} (k : Keep g H g' H') (h : TupAt K H a vs) : TupAt K H' a vs := by
  rcases h with h | h
  · exact .inl (k.obj _ _ h (.inr trivial))
  · exact .inr h
theorem ScrAt.keep {K : PySem.W.Frag} {g g' : Gh} {H H' : Hp} {a : Addr} {vs : List V} (k : Keep g H g' H') (h : ScrAt K g.S H a vs) : ScrAt K g'.S H' a vs := by
  rcases h with ⟨s, h⟩ | ⟨o, h⟩ | h
  · exact .inl ⟨k.le.s _ s, k.obj _ _ h (.inl s)⟩
  · exact .inr (.inl ⟨o, k.obj _ _ h (.inr trivial)⟩)
  · exact .inr (.inr h)
section
variable {W : Wd} {g g' : Gh} {H H' : Hp} (k : Keep g H g' H')
include k
mutual
theorem Rep.keep : ∀ {v : V} {t : T}, Rep W g H v t → Rep W g' H' v t
  | _, _, .non => .non
  | _, _, .bl b => .bl b
  | _, _, .int b => .int b
  | _, _, .str b => .str b
  | _, _, .tup h r => .tup (h.keep k) r.keep
  | _, _, .lst h e r => .lst (k.le.s _ h) (k.obj _ _ e (.inl h)) r.keep
  | _, _, .scr e r => .scr (e.keep k) r.keep
  | _, _, .dct h e r => .dct (k.le.s _ h) (k.obj _ _ e (.inl h)) r.keep
  | _, _, .ins m h e r => .ins m (k.le.s _ h) (k.obj _ _ e (.inl h)) r.keep
  | _, _, .fn x => .fn x
  | _, _, .clo e i e2 c r => .clo (k.obj _ _ e (.inr i)) i (k.obj _ _ e2 (.inr trivial)) c r.keep
theorem RepL.keep : ∀ {v : List V} {t : List T}, RepL W g H v t → RepL W g' H' v t
  | _, _, .nil => .nil
  | _, _, .cons r rs => .cons r.keep rs.keep
theorem RepK.keep : ∀ {v : List (Key × V)} {t : List (Key × T)}, RepK W g H v t → RepK W g' H' v t
  | _, _, .nil => .nil
  | _, _, .cons r rs => .cons r.keep rs.keep
theorem RepF.keep : ∀ {v : List (Str × V)} {t : List (Str × T)}, RepF W g H v t → RepF W g' H' v t
  | _, _, .nil => .nil
  | _, _, .cons r rs => .cons r.keep rs.keep
theorem RepC.keep : ∀ {cl : List (Str × Addr)} {v : List Str} {t : List (Option T)}, RepC W g H cl v t → RepC W g' H' cl v t
  | _, _, _, .nil => .nil
  | _, _, _, .no e rs => .no e rs.keep
  | _, _, _, .yes e m r rs => .yes e (k.le.c _ m) r.keep rs.keep
end
end
theorem RepL.length {W : Wd} {g : Gh} {H : Hp} : ∀ {vs : List V} {ts : List T}, RepL W g H vs ts → vs.length = ts.length
  | _, _, .nil => rfl
  | _, _, .cons _ r => by simp [r.length]
theorem RepL.append {W : Wd} {g : Gh} {H : Hp} : ∀ {vs ws : List V} {ts us : List T}, RepL W g H vs ts → RepL W g H ws us → RepL W g H (vs ++ ws) (ts ++ us)
  | _, _, _, _, .nil, s => s
  | _, _, _, _, .cons r rs, s => .cons r (rs.append s)
theorem RepL.get {W : Wd} {g : Gh} {H : Hp} : ∀ {vs : List V} {ts : List T} {i : Nat} {t : T}, RepL W g H vs ts → ts[i]? = some t → ∃ v, vs[i]? = some v ∧ Rep W g H v t
  | _, _, _, _, .nil, e => by simp at e
  | _, _, 0, t, .cons (v := v) r _, e => by simp at e; subst e; exact ⟨v, rfl, r⟩
  | _, _, i + 1, t, .cons _ r, e => by
    obtain ⟨v, h, q⟩ := r.get (i := i) (t := t) (by simpa using e)
    exact ⟨v, by simpa using h, q⟩
theorem RepL.getV {W : Wd} {g : Gh} {H : Hp} : ∀ {vs : List V} {ts : List T} {i : Nat} {v : V}, RepL W g H vs ts → vs[i]? = some v → ∃ t, ts[i]? = some t ∧ Rep W g H v t
  | _, _, _, _, .nil, e => by simp at e
  | _, _, 0, v, .cons (t := t) r _, e => by simp at e; subst e; exact ⟨t, rfl, r⟩
  | _, _, i + 1, v, .cons _ r, e => by
    obtain ⟨t, h, q⟩ := r.getV (i := i) (v := v) (by simpa using e)
    exact ⟨t, by simpa using h, q⟩
theorem RepL.set {W : Wd} {g : Gh} {H : Hp} {v : V} {t : T} (q : Rep W g H v t) : ∀ {vs : List V} {ts : List T} (i : Nat), RepL W g H vs ts → RepL W g H (vs.set i v) (ts.set i t)
  | _, _, _, .nil => .nil
  | _, _, 0, .cons _ r => .cons q r
  | _, _, i + 1, .cons p r => .cons p (RepL.set q i r)
theorem RepL.take {W : Wd} {g : Gh} {H : Hp} : ∀ {vs : List V} {ts : List T} (n : Nat), RepL W g H vs ts → RepL W g H (vs.take n) (ts.take n)
  | _, _, 0, _ => .nil
  | _, _, _ + 1, .nil => .nil
  | _, _, n + 1, .cons p r => .cons p (r.take n)
theorem RepL.drop {W : Wd} {g : Gh} {H : Hp} : ∀ {vs : List V} {ts : List T} (n : Nat), RepL W g H vs ts → RepL W g H (vs.drop n) (ts.drop n)
  | _, _, 0, r => r
  | _, _, _ + 1, .nil => .nil
  | _, _, n + 1, .cons p r => r.drop n
theorem RepL.reverse {W : Wd} {g : Gh} {H : Hp} {vs : List V} {ts : List T} (r : RepL W g H vs ts) : RepL W g H vs.reverse ts.reverse := by
  induction r using RepL.rec (motive_1 := fun _ _ _ => True) (motive_3 := fun _ _ _ => True) (motive_4 := fun _ _ _ => True) (motive_5 := fun _ _ _ _ => True) with
  | nil => exact .nil
  | cons p q ih1 ih => simp only [List.reverse_cons]; exact ih.append (.cons p .nil)
  | _ => intros; trivial
theorem RepL.eraseIdx {W : Wd} {g : Gh} {H : Hp} : ∀ {vs : List V} {ts : List T} (n : Nat), RepL W g H vs ts → RepL W g H (vs.eraseIdx n) (ts.eraseIdx n)
  | _, _, _, .nil => .nil
  | _, _, 0, .cons _ r => r
  | _, _, n + 1, .cons p r => .cons p (r.eraseIdx n)
theorem RepL.dropLast {W : Wd} {g : Gh} {H : Hp} : ∀ {vs : List V} {ts : List T}, RepL W g H vs ts → RepL W g H vs.dropLast ts.dropLast
  | _, _, .nil => .nil
  | _, _, .cons p .nil => .nil
  | _, _, .cons p (.cons q r) => .cons p (RepL.dropLast (.cons q r))
theorem RepL.rep {W : Wd} {g : Gh} {H : Hp} {vs : List V} {ts : List T} (r : RepL W g H vs ts) : ∀ k : Nat, RepL W g H (List.replicate k vs).flatten (List.replicate k ts).flatten
  | 0 => .nil
  | k + 1 => by simp only [List.replicate_succ, List.flatten_cons]; exact r.append (r.rep k)
theorem RepK.length {W : Wd} {g : Gh} {H : Hp} : ∀ {vs : List (Key × V)} {ts : List (Key × T)}, RepK W g H vs ts → vs.length = ts.length
  | _, _, .nil => rfl
  | _, _, .cons _ r => by simp [r.length]
theorem RepF.length {W : Wd} {g : Gh} {H : Hp} : ∀ {vs : List (Str × V)} {ts : List (Str × T)}, RepF W g H vs ts → vs.length = ts.length
  | _, _, .nil => rfl
  | _, _, .cons _ r => by simp [r.length]
theorem RepF.lookup {W : Wd} {g : Gh} {H : Hp} {f : Str} {t : T} : ∀ {vs : List (Str × V)} {ts : List (Str × T)}, RepF W g H vs ts → ts.lookup f = some t → ∃ v, vs.lookup f = some v ∧ Rep W g H v t
  | _, _, .nil, e => by simp at e
  | _, _, .cons (f := h) (v := v) (t := u) r rs, e => by
    rw [List.lookup_cons] at e
    rw [List.lookup_cons]
    cases q : f == h with
    | true => rw [q] at e; simp at e; subst e; exact ⟨v, rfl, r⟩
    | false => rw [q] at e; exact rs.lookup e
theorem RepF.setF {W : Wd} {g : Gh} {H : Hp} {f : Str} {v : V} {t : T} (q : Rep W g H v t) : ∀ {vs : List (Str × V)} {ts : List (Str × T)}, RepF W g H vs ts → RepF W g H (putF f v vs) (setF ts f t)
  | _, _, .nil => .cons q .nil
  | _, _, .cons (f := h) r rs => by
    unfold putF Zl.setF
    by_cases e : h = f
    · rw [if_pos e, if_pos e]; exact .cons q rs
    · rw [if_neg e, if_neg e]; exact .cons r (rs.setF q)
theorem RepK.look {W : Wd} {g : Gh} {H : Hp} {k : Key} : ∀ {vs : List (Key × V)} {ts : List (Key × T)}, RepK W g H vs ts → (∀ t, dlook ts k = some t → ∃ v, valV vs k = some v ∧ Rep W g H v t) ∧ (dlook ts k = none → valV vs k = none)
  | _, _, .nil => ⟨fun t e => by simp [dlook] at e, fun _ => rfl⟩
  | _, _, .cons (k := h) (v := v) (t := u) r rs => by
    unfold dlook valV
    rw [List.find?_cons, List.find?_cons]
    by_cases e : h = k
    · simp only [e, decide_true]
      exact ⟨fun t q => by simp at q; subst q; exact ⟨v, rfl, r⟩, fun q => by simp at q⟩
    · simp only [e, decide_false]
      exact rs.look
/-! ### what a name may hold alone -/
def OwnR (W : Wd) (g : Gh) (H : Hp) (a : Addr) : T → Prop
  | .lst ts => ∃ vs, H a = some (.lst vs) ∧ RepL W g H vs ts
  | .dct kts => ∃ kvs, H a = some (.dK kvs) ∧ RepK W g H kvs kts
  | _ => False
/-- a value as it can be read -/
def RepB (W : Wd) (g : Gh) (H : Hp) (v : V) (t : T) : Prop := Rep W g H v t ∨ ∃ a, v = .ref a ∧ OwnR W g H a t
/-- the frame of a def: the heap at its entry, what its first argument holds, the cells known there; the names, their cells; the lambdas' tables -/
structure Fb where
  H0 : Hp
  S0 : Addr → Prop
  lam : Bool
  IO : Addr → Prop
  Γ0 : List (Addr × V)
  N : List Str
  cells : List (Str × Addr)
  tab : List (Addr × Str)
def SlotR (W : Wd) (B : Fb) (g : Gh) (H : Hp) (o : Option (Option V)) : Slot → Prop
  | .no => True
  | .sh t => ∃ v, o = some (some v) ∧ Rep W g H v t
  | .lk t => ∃ v, o = some (some v) ∧ Rep W g H v t
  | .ow t => ∃ a, o = some (some (.ref a)) ∧ ¬ g.S a ∧ OwnR W g H a t ∧ B.H0 a = none
  | .io t => ∃ a, o = some (some (.ref a)) ∧ ¬ g.S a ∧ OwnR W g H a t ∧ B.IO a
  | .nw c fs => ∃ a dx vs, o = some (some (.ref a)) ∧ ¬ g.S a ∧ H a = some (.ins (W.CA c) dx vs) ∧ RepF W g H vs fs ∧ B.IO a ∧ W.okc c
def Slot.held : Slot → Bool
  | .ow _ => true
  | .io _ => true
  | .nw _ _ => true
  | _ => false
/-- the address that slot i holds alone -/
def OwI (ρ : Env) (σ : L2.St) (i : Nat) (a : Addr) : Prop := (∃ s, ρ[i]? = some s ∧ s.held = true) ∧ σ[i]? = some (some (.ref a))
def OwAt (ρ : Env) (σ : L2.St) (a : Addr) : Prop := ∃ i, OwI ρ σ i a
def CellOk (B : Fb) (ρ : Env) (σ : L2.St) (p : Addr × V) : Prop := p ∈ B.Γ0 ∨ B.lam = true ∧ ∃ (i : Nat) (x : Str) (t : T), B.N[i]? = some x ∧ B.cells.lookup x = some p.1 ∧ σ[i]? = some (some p.2) ∧ ρ[i]? = some (Slot.lk t)
def notTbl (o : HO) : Prop := ∀ ps, o ≠ .tbl ps
/-- the heap since the def's entry -/
structure Sh (B : Fb) (g : Gh) (H : Hp) : Prop where
  fr : ∀ a o, B.H0 a = some o → ¬ B.IO a → notTbl o → H a = some o
  sd : ∀ a, g.S a → ∃ o, H a = some o ∧ notTbl o
  ns : ∀ a, g.S a → B.S0 a ∨ B.H0 a = none
  tb : LamX.Tabs B.tab H
  tk : ∀ a ps, B.H0 a = some (.tbl ps) → ∃ ps', H a = some (.tbl ps')
  io : ∀ a, B.IO a → ∃ o, H a = some o
/-- the slots, the heap and the trees go together -/
structure Sr (W : Wd) (B : Fb) (g : Gh) (ρ : Env) (σ : L2.St) (H : Hp) : Prop where
  len : ρ.length = σ.length
  sh : Sh B g H
  sl : ∀ (i : Nat) s, ρ[i]? = some s → SlotR W B g H (σ[i]?) s
  ds : ∀ i j a, i ≠ j → OwI ρ σ i a → OwI ρ σ j a → False
  cg : ∀ p, p ∈ g.Γ → CellOk B ρ σ p
/-- behind a step: F tells what may have become known as never written -/
structure Ex (W : Wd) (B : Fb) (σ : L2.St) (F : Addr → Prop) (g : Gh) (ρ : Env) (H : Hp) (g' : Gh) (ρ' : Env) (H' : Hp) : Prop where
  st : Sr W B g' ρ' σ H'
  le : g.Le g'
  news : ∀ a, g'.S a → g.S a ∨ F a ∨ OwAt ρ σ a
  keep : ∀ a o, H a = some o → ¬ OwAt ρ σ a → notTbl o → H' a = some o
  owk : ∀ a, OwAt ρ' σ a → OwAt ρ σ a
  lkk : ∀ (i : Nat) t, ρ[i]? = some (Slot.lk t) → ρ'[i]? = some (Slot.lk t)
  tbk : ∀ a ps, H a = some (.tbl ps) → ∃ ps', H' a = some (.tbl ps')
  hk : ∀ a, OwAt ρ σ a → ∃ o, H' a = some o
/-- new ones -/
abbrev nw (H : Hp) : Addr → Prop := fun a => H a = none
section
variable {W : Wd} {B : Fb} {σ : L2.St} {g g1 g2 : Gh} {ρ ρ1 ρ2 : Env} {H H1 H2 : Hp} {F F1 F2 : Addr → Prop}
theorem Sr.some_at (s : Sr W B g ρ σ H) {a : Addr} (h : OwAt ρ σ a) : ∃ o, H a = some o := by
  obtain ⟨i, ⟨u, h1, h2⟩, h3⟩ := h
  have q := s.sl i u h1
  rw [h3] at q
  cases u with
  | no => cases h2
  | sh t => cases h2
  | lk t => cases h2
  | ow t =>
    obtain ⟨b, e, _, r, _⟩ := q
    cases e
    cases t with
    | lst ts => obtain ⟨vs, e, _⟩ := r; exact ⟨_, e⟩
    | dct ts => obtain ⟨vs, e, _⟩ := r; exact ⟨_, e⟩
    | _ => exact r.elim
  | io t =>
    obtain ⟨b, e, _, r, _⟩ := q
    cases e
    cases t with
    | lst ts => obtain ⟨vs, e, _⟩ := r; exact ⟨_, e⟩
    | dct ts => obtain ⟨vs, e, _⟩ := r; exact ⟨_, e⟩
    | _ => exact r.elim
  | nw c fs => obtain ⟨b, dx, vs, e, _, r, _⟩ := q; cases e; exact ⟨_, r⟩
theorem Ex.refl (s : Sr W B g ρ σ H) : Ex W B σ F g ρ H g ρ H := ⟨s, .refl g, fun _ h => .inl h, fun _ _ h _ _ => h, fun _ h => h, fun _ _ h => h, fun _ ps h => ⟨ps, h⟩, fun _ h => s.some_at h⟩
theorem Ex.none_back (a : Ex W B σ F g ρ H g1 ρ1 H1) {x : Addr} (q : H1 x = none) : H x = none := by
  by_cases o : OwAt ρ σ x
  · obtain ⟨u, e⟩ := a.hk x o
    rw [q] at e; cases e
  · cases e : H x with
    | none => rfl
    | some u =>
      by_cases t : notTbl u
      · rw [a.keep x u e o t] at q; cases q
      · have : ∃ ps, u = .tbl ps := Classical.byContradiction fun z => t fun ps e => z ⟨ps, e⟩
        obtain ⟨ps, rfl⟩ := this
        obtain ⟨ps', h'⟩ := a.tbk x ps e
        rw [h'] at q; cases q
theorem Ex.trans' (a : Ex W B σ F1 g ρ H g1 ρ1 H1) (b : Ex W B σ F2 g1 ρ1 H1 g2 ρ2 H2) (h1 : ∀ x, F1 x → F x) (h2 : ∀ x, F2 x → F x ∨ OwAt ρ σ x) : Ex W B σ F g ρ H g2 ρ2 H2 where
  st := b.st
  le := a.le.trans b.le
  news := fun x h => by
    rcases b.news x h with q | q | q
    · rcases a.news x q with w | w | w
      · exact .inl w
      · exact .inr (.inl (h1 x w))
      · exact .inr (.inr w)
    · exact .inr (h2 x q)
    · exact .inr (.inr (a.owk x q))
  keep := fun x o h n t => b.keep x o (a.keep x o h n t) (fun z => n (a.owk x z)) t
  owk := fun x h => a.owk x (b.owk x h)
  lkk := fun i t h => b.lkk i t (a.lkk i t h)
  tbk := fun x ps h => let ⟨p1, h1⟩ := a.tbk x ps h; b.tbk x p1 h1
  hk := fun x h => by
    cases e : H2 x with
    | some o => exact ⟨o, rfl⟩
    | none =>
      obtain ⟨u, hu⟩ := a.hk x h
      rw [b.none_back e] at hu; cases hu
theorem Ex.trans (a : Ex W B σ (nw H) g ρ H g1 ρ1 H1) (b : Ex W B σ (nw H1) g1 ρ1 H1 g2 ρ2 H2) : Ex W B σ (nw H) g ρ H g2 ρ2 H2 :=
  a.trans' b (fun _ h => h) fun _ h => .inl (a.none_back h)
end
end Zl

set_option Elab.async false
set_option linter.all false
set_option maxRecDepth 100000
set_option maxHeartbeats 4000000
/-! Z5: steps of the state: a new object, a name frozen, an own object written, a name stored. -/
namespace Zl
open PySem PySem.Spec PyProof.Rows L2
section
variable {W : Wd} {B : Fb} {σ : L2.St} {g g' : Gh} {ρ ρ' : Env} {H H' : Hp} {F : Addr → Prop}
theorem Keep.alloc {p : Addr} {o : HO} (hp : H p = none) : Keep g H g (upd H p o) :=
  ⟨.refl g, fun a u e _ => by rw [upd_ne (ne_of_none e hp)]; exact e⟩
theorem OwnR.keep {a : Addr} {t : T} (k : Keep g H g' H') (e : ∀ o, H a = some o → H' a = some o) (h : OwnR W g H a t) : OwnR W g' H' a t := by
  cases t with
  | lst ts => obtain ⟨vs, q, r⟩ := h; exact ⟨vs, e _ q, r.keep k⟩
  | dct ts => obtain ⟨vs, q, r⟩ := h; exact ⟨vs, e _ q, r.keep k⟩
  | _ => exact h.elim
theorem OwnR.some {a : Addr} {t : T} (h : OwnR W g H a t) : ∃ o, H a = some o ∧ ¬ imm o ∧ notTbl o ∧ ∀ C dx fs, o ≠ .ins C dx fs := by
  cases t with
  | lst ts => obtain ⟨vs, q, r⟩ := h; exact ⟨_, q, fun z => z, (fun _ z => by cases z), (fun _ _ _ z => by cases z)⟩
  | dct ts => obtain ⟨vs, q, r⟩ := h; exact ⟨_, q, fun z => z, (fun _ z => by cases z), (fun _ _ _ z => by cases z)⟩
  | _ => exact h.elim
/-- a slot behind a step that leaves its own object as it is -/
theorem SlotR.keep {o : Option (Option V)} {s : Slot} (k : Keep g H g' H') (h : SlotR W B g H o s) (e : ∀ a, o = some (some (.ref a)) → s.held = true → ¬ g'.S a ∧ ∀ u, H a = some u → H' a = some u) : SlotR W B g' H' o s := by
  cases s with
  | no => trivial
  | sh t => obtain ⟨v, q, r⟩ := h; exact ⟨v, q, r.keep k⟩
  | lk t => obtain ⟨v, q, r⟩ := h; exact ⟨v, q, r.keep k⟩
  | ow t => obtain ⟨a, q, n, r, z⟩ := h; exact ⟨a, q, (e a q rfl).1, r.keep k (e a q rfl).2, z⟩
  | io t => obtain ⟨a, q, n, r, z⟩ := h; exact ⟨a, q, (e a q rfl).1, r.keep k (e a q rfl).2, z⟩
  | nw c fs => obtain ⟨a, dx, vs, q, n, r, f, z⟩ := h; exact ⟨a, dx, vs, q, (e a q rfl).1, (e a q rfl).2 _ r, f.keep k, z⟩
/-- what a held slot's object is -/
theorem SlotR.held {a : Addr} {s : Slot} (h : SlotR W B g H (some (some (.ref a))) s) (e : s.held = true) : ¬ g.S a ∧ (∃ o, H a = some o ∧ ¬ imm o ∧ notTbl o) ∧ (B.H0 a = none ∨ B.IO a) := by
  cases s with
  | no => cases e
  | sh t => cases e
  | lk t => cases e
  | ow t => obtain ⟨b, q, n, r, z⟩ := h; cases q; obtain ⟨o, h1, h2, h3, _⟩ := r.some; exact ⟨n, ⟨o, h1, h2, h3⟩, .inl z⟩
  | io t => obtain ⟨b, q, n, r, z⟩ := h; cases q; obtain ⟨o, h1, h2, h3, _⟩ := r.some; exact ⟨n, ⟨o, h1, h2, h3⟩, .inr z⟩
  | nw c fs => obtain ⟨b, dx, vs, q, n, r, f, z⟩ := h; cases q; exact ⟨n, ⟨_, r, (fun z => z), (fun _ z => by cases z)⟩, .inr z.1⟩
theorem Sr.owi (s : Sr W B g ρ σ H) {i : Nat} {a : Addr} (h : OwI ρ σ i a) : ¬ g.S a ∧ (∃ o, H a = some o ∧ ¬ imm o ∧ notTbl o) ∧ (B.H0 a = none ∨ B.IO a) := by
  obtain ⟨⟨u, h1, h2⟩, h3⟩ := h
  have q := s.sl i u h1
  rw [h3] at q
  exact q.held h2
theorem Sr.owa (s : Sr W B g ρ σ H) {a : Addr} (h : OwAt ρ σ a) : ¬ g.S a ∧ (∃ o, H a = some o ∧ ¬ imm o ∧ notTbl o) ∧ (B.H0 a = none ∨ B.IO a) := let ⟨_, h⟩ := h; s.owi h
/-- all that stood stands -/
theorem Sr.grow (s : Sr W B g ρ σ H) (k : ∀ a o, H a = some o → H' a = some o) : Sr W B g ρ σ H' where
  len := s.len
  sh := ⟨fun a o h n t => k a o (s.sh.fr a o h n t), fun a h => let ⟨o, e, t⟩ := s.sh.sd a h; ⟨o, k a o e, t⟩, s.sh.ns, s.sh.tb.ext k, fun a ps h => let ⟨p, e⟩ := s.sh.tk a ps h; ⟨p, k a _ e⟩, fun a h => let ⟨o, e⟩ := s.sh.io a h; ⟨o, k a o e⟩⟩
  sl := fun i u h => (s.sl i u h).keep ⟨.refl g, fun a o e _ => k a o e⟩ fun a q hd => ⟨(s.owi ⟨⟨u, h, hd⟩, q⟩).1, fun o e => k a o e⟩
  ds := s.ds
  cg := s.cg
theorem Ex.grow (s : Sr W B g ρ σ H) (k : ∀ a o, H a = some o → H' a = some o) : Ex W B σ F g ρ H g ρ H' :=
  ⟨s.grow k, .refl g, fun _ h => .inl h, fun a o h _ _ => k a o h, fun _ h => h, fun _ _ h => h, fun a ps h => ⟨ps, k a _ h⟩, fun _ h => (s.grow k).some_at h⟩
theorem Ex.alloc (s : Sr W B g ρ σ H) {p : Addr} {o : HO} (hp : H p = none) : Ex W B σ F g ρ H g ρ (upd H p o) :=
  .grow s fun a u e => by rw [upd_ne (ne_of_none e hp)]; exact e
theorem Ex.keeps {ρ1 : Env} (s : Sr W B g ρ σ H) (x : Ex W B σ F g ρ H g' ρ1 H') : Keep g H g' H' :=
  ⟨x.le, fun a o e q => x.keep a o e (fun z => by
    obtain ⟨n, ⟨u, h1, h2, _⟩, _⟩ := s.owa z
    rw [e] at h1; cases h1
    exact q.elim n h2) (fun ps z => by
      subst z
      rcases q with q | q
      · obtain ⟨u, h1, h2⟩ := s.sh.sd a q
        rw [e] at h1; cases h1
        exact h2 ps rfl
      · exact q)⟩

theorem get_set_ne {α : Type} {l : List α} {i j : Nat} {x : α} (h : j ≠ i) : (l.set i x)[j]? = l[j]? := List.getElem?_set_ne (Ne.symm h)
theorem get_set_eq {α : Type} {l : List α} {i : Nat} {x y : α} (h : l[i]? = some y) : (l.set i x)[i]? = some x := by
  have : i < l.length := (List.getElem?_eq_some_iff.mp h).1
  simp [List.getElem?_set_self this]
theorem get_set_some {α : Type} {l : List α} {i j : Nat} {x y : α} (h : (l.set i x)[j]? = some y) : (j = i ∧ y = x ∧ i < l.length) ∨ (j ≠ i ∧ l[j]? = some y) := by
  by_cases e : j = i
  · subst e
    have lt : j < l.length := by
      have := (List.getElem?_eq_some_iff.mp h).1
      simpa using this
    rw [List.getElem?_set_self lt] at h
    exact .inl ⟨rfl, (Option.some.inj h).symm, lt⟩
  · rw [get_set_ne e] at h
    exact .inr ⟨e, h⟩
/-- a name's own list or dict is nobody's to write any more -/
theorem Ex.freeze (s : Sr W B g ρ σ H) {i : Nat} {t : T} (h : ρ[i]? = some (.ow t)) :
    ∃ g' v, Ex W B σ F g ρ H g' (ρ.set i (.sh t)) H ∧ σ[i]? = some (some v) ∧ Rep W g' H v t := by
  obtain ⟨a, q, n, r, z⟩ := s.sl i _ h
  have own : OwI ρ σ i a := ⟨⟨_, h, rfl⟩, q⟩
  let g' : Gh := ⟨fun x => g.S x ∨ x = a, g.Γ⟩
  have le : g.Le g' := ⟨fun _ h => .inl h, fun _ h => h⟩
  have k : Keep g H g' H := ⟨le, fun _ _ e _ => e⟩
  obtain ⟨o, ho, _, ht, _⟩ := r.some
  have rep : Rep W g' H (.ref a) t := by
    cases t with
    | lst ts => obtain ⟨vs, e, rl⟩ := r; exact .lst (.inr rfl) e (rl.keep k)
    | dct ts => obtain ⟨vs, e, rl⟩ := r; exact .dct (.inr rfl) e (rl.keep k)
    | _ => exact r.elim
  have own' : ∀ j b, OwI (ρ.set i (.sh t)) σ j b → j ≠ i ∧ OwI ρ σ j b := fun j b ⟨⟨u, h1, h2⟩, h3⟩ => by
    rcases get_set_some h1 with ⟨_, e, _⟩ | ⟨e, h1⟩
    · subst e; cases h2
    · exact ⟨e, ⟨⟨u, h1, h2⟩, h3⟩⟩
  refine ⟨g', .ref a, ⟨⟨?_, ⟨s.sh.fr, ?_, ?_, s.sh.tb, s.sh.tk, s.sh.io⟩, ?_, ?_, ?_⟩, le, ?_, fun a o e _ _ => e, ?_, ?_, fun a ps e => ⟨ps, e⟩, fun _ h => s.some_at h⟩, q, rep⟩
  · simpa using s.len
  · rintro x (h | h)
    · exact s.sh.sd x h
    · exact ⟨o, by rw [h]; exact ho, ht⟩
  · rintro x (h | h)
    · exact s.sh.ns x h
    · rw [h]; exact .inr z
  · intro j u hj
    rcases get_set_some hj with ⟨e, e2, _⟩ | ⟨e, hj⟩
    · subst e; subst e2
      exact ⟨_, q, rep⟩
    · refine (s.sl j u hj).keep k fun b qb hd => ⟨?_, fun _ e => e⟩
      rintro (w | w)
      · exact (s.owi ⟨⟨u, hj, hd⟩, qb⟩).1 w
      · subst w
        exact s.ds j i _ e ⟨⟨u, hj, hd⟩, qb⟩ own
  · intro j j' b ne h1 h2
    exact s.ds j j' b ne (own' _ _ h1).2 (own' _ _ h2).2
  · intro p hp
    rcases s.cg p hp with w | ⟨hl, j, x, t', h1, h2, h3, h4⟩
    · exact .inl w
    · refine .inr ⟨hl, j, x, t', h1, h2, h3, ?_⟩
      rw [get_set_ne (fun e => by subst e; rw [h] at h4; cases h4)]
      exact h4
  · rintro x (w | w)
    · exact .inl w
    · subst w; exact .inr (.inr ⟨i, own⟩)
  · rintro b ⟨j, w⟩
    exact ⟨j, (own' _ _ w).2⟩
  · intro j t' h4
    rw [get_set_ne (fun e => by subst e; rw [h] at h4; cases h4)]
    exact h4
/-- a name's own object is written -/
theorem Ex.write (s : Sr W B g ρ σ H) {i : Nat} {a : Addr} {s0 s1 : Slot} {o : HO} (h : ρ[i]? = some s0) (hd : s0.held = true) (hσ : σ[i]? = some (some (.ref a))) (hd1 : s1.held = true) (ht : notTbl o)
    (new : Keep g H g (upd H a o) → SlotR W B g (upd H a o) (σ[i]?) s1) : Ex W B σ F g ρ H g (ρ.set i s1) (upd H a o) := by
  have own : OwI ρ σ i a := ⟨⟨_, h, hd⟩, hσ⟩
  obtain ⟨nS, ⟨u, hu, ni, nt⟩, hf⟩ := s.owi own
  have k : Keep g H g (upd H a o) := ⟨.refl g, fun b w e q => by
    rw [upd_ne (fun z => by subst z; rw [hu] at e; cases e; exact q.elim nS ni)]; exact e⟩
  have own' : ∀ j b, OwI (ρ.set i s1) σ j b → OwI ρ σ j b := fun j b ⟨⟨w, h1, h2⟩, h3⟩ => by
    rcases get_set_some h1 with ⟨e, _, _⟩ | ⟨e, h1⟩
    · subst e; exact ⟨⟨_, h, hd⟩, h3⟩
    · exact ⟨⟨w, h1, h2⟩, h3⟩
  have tk : ∀ (b : Addr) (w : HO), H b = some w → b ≠ a → upd H a o b = some w := fun b w e n => by rw [upd_ne n]; exact e
  refine ⟨⟨?_, ⟨?_, ?_, s.sh.ns, ?_, ?_, ?_⟩, ?_, ?_, ?_⟩, .refl g, fun _ w => .inl w, ?_, ?_, ?_, ?_, ?_⟩
  · simpa using s.len
  · intro b w e n t
    refine tk _ _ (s.sh.fr b w e n t) fun z => ?_
    subst z
    rcases hf with q | q
    · rw [q] at e; cases e
    · exact n q
  · intro b w
    obtain ⟨x, e, t⟩ := s.sh.sd b w
    exact ⟨x, tk _ _ e fun z => by subst z; exact nS w, t⟩
  · intro p hp
    obtain ⟨ps, h1, h2, h3⟩ := s.sh.tb p hp
    refine ⟨ps, tk _ _ h1 fun z => ?_, h2, fun pos cv hc => ?_⟩
    · rw [← z, h1] at hu; cases hu; exact nt _ rfl
    · obtain ⟨c, e1, e2⟩ := h3 pos cv hc
      exact ⟨c, e1, tk _ _ e2 fun z => by rw [← z, e2] at hu; cases hu; exact ni trivial⟩
  · intro b ps e
    obtain ⟨ps', e'⟩ := s.sh.tk b ps e
    exact ⟨ps', tk _ _ e' fun z => by subst z; rw [hu] at e'; cases e'; exact nt _ rfl⟩
  · intro b hb
    by_cases z : b = a
    · subst z; exact ⟨o, upd_same⟩
    · obtain ⟨w, e⟩ := s.sh.io b hb
      exact ⟨w, tk _ _ e z⟩
  · intro j w hj
    rcases get_set_some hj with ⟨e, e2, _⟩ | ⟨e, hj⟩
    · subst e; subst e2
      exact new k
    · refine (s.sl j w hj).keep k fun b qb hd => ⟨(s.owi ⟨⟨w, hj, hd⟩, qb⟩).1, fun x ex => tk _ _ ex fun z => ?_⟩
      subst z
      exact s.ds j i _ e ⟨⟨w, hj, hd⟩, qb⟩ own
  · intro j j' b ne h1 h2
    exact s.ds j j' b ne (own' _ _ h1) (own' _ _ h2)
  · intro p hp
    rcases s.cg p hp with w | ⟨hl, j, x, t', h1, h2, h3, h4⟩
    · exact .inl w
    · refine .inr ⟨hl, j, x, t', h1, h2, h3, ?_⟩
      rw [get_set_ne (fun e => by subst e; rw [h] at h4; cases h4; cases hd)]
      exact h4
  · intro b w e n t
    exact tk _ _ e fun z => by subst z; exact n ⟨i, own⟩
  · rintro b ⟨j, w⟩
    exact ⟨j, own' _ _ w⟩
  · intro j t' h4
    rw [get_set_ne (fun e => by subst e; rw [h] at h4; cases h4; cases hd)]
    exact h4
  · intro b ps e
    exact ⟨ps, tk _ _ e fun z => by subst z; rw [hu] at e; cases e; exact nt _ rfl⟩
  · intro b hb
    by_cases z : b = a
    · subst z; exact ⟨o, upd_same⟩
    · obtain ⟨w, e⟩ := s.some_at hb
      exact ⟨w, tk _ _ e z⟩
/-- a name is stored: a value that nobody writes -/
theorem free_not {i : Nat} (h : free ρ i = true) : ∃ s, ρ[i]? = some s ∧ (∀ t, s ≠ .lk t) ∧ (∀ t, s ≠ .io t) ∧ ∀ c fs, s ≠ .nw c fs := by
  unfold free at h
  split at h
  all_goals first
    | (rename_i e; exact ⟨_, e, (fun _ z => by cases z), (fun _ z => by cases z), (fun _ _ z => by cases z)⟩)
    | cases h
theorem Sr.store (s : Sr W B g ρ σ H) {i : Nat} {v : V} {s1 : Slot} (hf : free ρ i = true) (new : SlotR W B g H (some (some v)) s1) (apart : s1.held = true → ∀ a, v = .ref a → ¬ OwAt ρ σ a) : Sr W B g (ρ.set i s1) (σ.set i (some v)) H := by
  obtain ⟨s0, h0, nl, _, _⟩ := free_not hf
  have hi : i < ρ.length := (List.getElem?_eq_some_iff.mp h0).1
  have hiσ : i < σ.length := by rw [← s.len]; exact hi
  have own' : ∀ j b, OwI (ρ.set i s1) (σ.set i (some v)) j b → (j = i ∧ s1.held = true ∧ v = .ref b) ∨ (j ≠ i ∧ OwI ρ σ j b) := fun j b ⟨⟨w, h1, h2⟩, h3⟩ => by
    rcases get_set_some h1 with ⟨e, e2, _⟩ | ⟨e, h1⟩
    · subst e; subst e2
      rw [List.getElem?_set_self hiσ] at h3
      exact .inl ⟨rfl, h2, by simpa using h3⟩
    · rw [get_set_ne e] at h3
      exact .inr ⟨e, ⟨⟨w, h1, h2⟩, h3⟩⟩
  refine ⟨by simpa using s.len, s.sh, fun j w hj => ?_, fun j j' b ne h1 h2 => ?_, fun p hp => ?_⟩
  · rcases get_set_some hj with ⟨e, e2, _⟩ | ⟨e, hj⟩
    · subst e; subst e2
      rw [List.getElem?_set_self hiσ]
      exact new
    · rw [get_set_ne e]
      exact s.sl j w hj
  · rcases own' _ _ h1 with ⟨e, hd, ev⟩ | ⟨e, o⟩
    · rcases own' _ _ h2 with ⟨e', _, _⟩ | ⟨e', o'⟩
      · exact ne (e.trans e'.symm)
      · exact apart hd b ev ⟨j', o'⟩
    · rcases own' _ _ h2 with ⟨e', hd, ev⟩ | ⟨e', o'⟩
      · exact apart hd b ev ⟨j, o⟩
      · exact s.ds j j' b ne o o'
  · rcases s.cg p hp with w | ⟨hl, j, x, t', h1, h2, h3, h4⟩
    · exact .inl w
    · have ne : j ≠ i := fun e => by subst e; rw [h0] at h4; cases h4; exact nl _ rfl
      exact .inr ⟨hl, j, x, t', h1, h2, by rw [get_set_ne ne]; exact h3, by rw [get_set_ne ne]; exact h4⟩
end
end Zl

set_option Elab.async false
set_option linter.all false
set_option maxRecDepth 100000
set_option maxHeartbeats 4000000
/-! Z6: operands and the values that they stand for. -/
namespace Zl
open PySem PySem.Spec PyProof.Rows L2
/-- an operand stands for a value; Hs: the heap at the start of the expression -/
def ORep (W : Wd) (B : Fb) (g : Gh) (ρ : Env) (σ : L2.St) (H Hs : Hp) (v : V) : Opd → Prop
  | .slot i => σ[i]? = some (some v)
  | .val t false => Rep W g H v t
  | .val t true => ∃ a, v = .ref a ∧ ¬ g.S a ∧ OwnR W g H a t ∧ B.H0 a = none ∧ ¬ OwAt ρ σ a ∧ Hs a = none
def freshA (v : V) (o : Opd) : List Addr := match v, o with
  | .ref a, .val _ true => [a]
  | _, _ => []
def freshL : List V → List Opd → List Addr
  | v :: vs, o :: os => freshA v o ++ freshL vs os
  | _, _ => []
structure ORepL (W : Wd) (B : Fb) (g : Gh) (ρ : Env) (σ : L2.St) (H Hs : Hp) (vs : List V) (os : List Opd) : Prop where
  all : Paired (ORep W B g ρ σ H Hs) vs os
  nd : (freshL vs os).Nodup
section
variable {W : Wd} {B : Fb} {σ : L2.St} {g g' : Gh} {ρ ρ' : Env} {H H' Hs : Hp} {F F' : Addr → Prop}
theorem Ex.weaken (x : Ex W B σ F g ρ H g' ρ' H') (h : ∀ a, F a → F' a) : Ex W B σ F' g ρ H g' ρ' H' :=
  ⟨x.st, x.le, fun a q => (x.news a q).imp id (Or.imp (h a) id), x.keep, x.owk, x.lkk, x.tbk, x.hk⟩
theorem fresh_some {v : V} {o : Opd} (r : ORep W B g ρ σ H Hs v o) {a : Addr} (h : a ∈ freshA v o) : ∃ t, o = .val t true ∧ v = .ref a ∧ ¬ g.S a ∧ OwnR W g H a t ∧ B.H0 a = none ∧ ¬ OwAt ρ σ a ∧ Hs a = none := by
  unfold freshA at h
  split at h
  · rename_i b t
    obtain ⟨c, e, q⟩ := r
    cases e
    have : a = b := by simpa using h
    subst this
    exact ⟨t, rfl, rfl, q⟩
  · cases h
theorem ORep.keep {v : V} {o : Opd} (s : Sr W B g ρ σ H) (x : Ex W B σ F g ρ H g' ρ' H') (r : ORep W B g ρ σ H Hs v o) (hF : ∀ a ∈ freshA v o, ¬ F a) : ORep W B g' ρ' σ H' Hs v o := by
  cases o with
  | slot i => exact r
  | val t f =>
    cases f with
    | false => exact Rep.keep (x.keeps s) r
    | true =>
      obtain ⟨a, e, n, ow, h0, na, hs⟩ := r
      subst e
      obtain ⟨u, hu, ni, nt, _⟩ := ow.some
      refine ⟨a, rfl, fun z => ?_, ow.keep (x.keeps s) (fun o e => x.keep a o e na (by rw [hu] at e; cases e; exact nt)), h0, fun z => na (x.owk a z), hs⟩
      rcases x.news a z with q | q | q
      · exact n q
      · exact hF a (by simp [freshA]) q
      · exact na q
theorem ORep.nwF {v : V} {o : Opd} (r : ORep W B g ρ σ H Hs v o) : ∀ a ∈ freshA v o, ¬ nw H a := fun a h z => by
  obtain ⟨t, _, _, _, ow, _⟩ := fresh_some r h
  obtain ⟨u, hu, _⟩ := ow.some
  have z' : H a = none := z
  rw [hu] at z'; cases z'
theorem paired_imp {α β : Type} {P Q : α → β → Prop} : ∀ {l : List α} {m : List β}, Paired P l m → (∀ a b, P a b → Q a b) → Paired Q l m
  | _, _, .nil, _ => .nil
  | _, _, .cons r t, h => .cons (h _ _ r) (paired_imp t h)
theorem mem_freshL {P : V → Opd → Prop} {a : Addr} : ∀ {vs : List V} {os : List Opd}, Paired P vs os → a ∈ freshL vs os → ∃ v o, P v o ∧ a ∈ freshA v o
  | _, _, .nil, h => by simp [freshL] at h
  | _, _, .cons r t, h => by
    rcases List.mem_append.mp h with h | h
    · exact ⟨_, _, r, h⟩
    · exact mem_freshL t h
theorem paired_keep (s : Sr W B g ρ σ H) (x : Ex W B σ F g ρ H g' ρ' H') : ∀ {vs : List V} {os : List Opd}, Paired (ORep W B g ρ σ H Hs) vs os → (∀ a ∈ freshL vs os, ¬ F a) → Paired (ORep W B g' ρ' σ H' Hs) vs os
  | _, _, .nil, _ => .nil
  | _, _, .cons r t, h => .cons (ORep.keep s x r fun a ha => h a (List.mem_append_left _ ha)) (paired_keep s x t fun a ha => h a (List.mem_append_right _ ha))
theorem ORepL.keep {vs : List V} {os : List Opd} (s : Sr W B g ρ σ H) (x : Ex W B σ F g ρ H g' ρ' H') (r : ORepL W B g ρ σ H Hs vs os) (hF : ∀ a ∈ freshL vs os, ¬ F a) : ORepL W B g' ρ' σ H' Hs vs os :=
  ⟨paired_keep s x r.all hF, r.nd⟩
theorem ORepL.nil : ORepL W B g ρ σ H Hs [] [] := ⟨.nil, by simp [freshL]⟩
/-- one more operand ahead: it stood when the others were reckoned from H1 on -/
theorem ORepL.cons {H1 : Hp} {v : V} {o : Opd} {vs : List V} {os : List Opd} (r : ORep W B g ρ σ H Hs v o) (h1 : ∀ a ∈ freshA v o, H1 a ≠ none) (rs : ORepL W B g ρ σ H H1 vs os) (hs : ∀ a, H1 a = none → a ∈ freshL vs os → Hs a = none) : ORepL W B g ρ σ H Hs (v :: vs) (o :: os) := by
  have up : ∀ {vs : List V} {os : List Opd}, Paired (ORep W B g ρ σ H H1) vs os → (∀ a, H1 a = none → a ∈ freshL vs os → Hs a = none) → Paired (ORep W B g ρ σ H Hs) vs os := by
    intro vs os p
    induction p with
    | nil => intro _; exact .nil
    | @cons v o vs os q p ih =>
      intro h
      refine .cons ?_ (ih fun a h1 h2 => h a h1 (List.mem_append_right _ h2))
      cases o with
      | slot i => exact q
      | val t f =>
        cases f with
        | false => exact q
        | true =>
          obtain ⟨a, e, n, ow, h0, na, z⟩ := q
          subst e
          exact ⟨a, rfl, n, ow, h0, na, h a z (List.mem_append_left _ (by simp [freshA]))⟩
  refine ⟨.cons r (up rs.all hs), ?_⟩
  show (freshA v o ++ freshL vs os).Nodup
  refine List.nodup_append.mpr ⟨?_, rs.nd, fun a ha b hb e => ?_⟩
  · unfold freshA; split <;> simp
  · subst e
    obtain ⟨v', o', r', hm⟩ := mem_freshL rs.all hb
    obtain ⟨_, _, _, _, _, _, _, z⟩ := fresh_some r' hm
    exact h1 a ha z
/-- the value itself -/
theorem ORep.rd {v : V} {o : Opd} {t : T} (s : Sr W B g ρ σ H) (r : ORep W B g ρ σ H Hs v o) (e : rd ρ o = some t) : RepB W g H v t := by
  cases o with
  | val u f =>
    have : u = t := Option.some.inj e
    subst this
    cases f with
    | false => exact .inl r
    | true => obtain ⟨a, q, _, ow, _⟩ := r; exact .inr ⟨a, q, ow⟩
  | slot i =>
    have r' : σ[i]? = some (some v) := r
    dsimp only [Zl.rd] at e
    split at e
    · rename_i u h; cases e; obtain ⟨w, q, rr⟩ := s.sl i _ h; rw [r'] at q; cases q; exact .inl rr
    · rename_i u h; cases e; obtain ⟨w, q, rr⟩ := s.sl i _ h; rw [r'] at q; cases q; exact .inl rr
    · rename_i u h; cases e; obtain ⟨w, q, _, rr, _⟩ := s.sl i _ h; rw [r'] at q; cases q; exact .inr ⟨w, rfl, rr⟩
    · rename_i u h; cases e; obtain ⟨w, q, _, rr, _⟩ := s.sl i _ h; rw [r'] at q; cases q; exact .inr ⟨w, rfl, rr⟩
    · cases e
theorem ORepL.rds {vs : List V} {os : List Opd} {ts : List T} (s : Sr W B g ρ σ H) (r : Paired (ORep W B g ρ σ H Hs) vs os) (e : rds ρ os = some ts) : Paired (RepB W g H) vs ts := by
  induction r generalizing ts with
  | nil => unfold Zl.rds at e; cases e; exact .nil
  | @cons v o vs os q p ih =>
    unfold Zl.rds at e
    split at e
    · rename_i t us e1 e2; cases e; exact .cons (q.rd s e1) (ih e2)
    · cases e
/-- a new thing that nobody holds is let go as a value -/
theorem Ex.give (s : Sr W B g ρ σ H) {a : Addr} {t : T} (n : ¬ g.S a) (ow : OwnR W g H a t) (na : ¬ OwAt ρ σ a) (h0 : B.H0 a = none) : ∃ g', Ex W B σ (fun x => x = a) g ρ H g' ρ H ∧ Rep W g' H (.ref a) t := by
  let g' : Gh := ⟨fun x => g.S x ∨ x = a, g.Γ⟩
  have le : g.Le g' := ⟨fun _ h => .inl h, fun _ h => h⟩
  have k : Keep g H g' H := ⟨le, fun _ _ e _ => e⟩
  obtain ⟨o, ho, _, ht, _⟩ := ow.some
  have rep : Rep W g' H (.ref a) t := by
    cases t with
    | lst ts => obtain ⟨vs, e, rl⟩ := ow; exact .lst (.inr rfl) e (rl.keep k)
    | dct ts => obtain ⟨vs, e, rl⟩ := ow; exact .dct (.inr rfl) e (rl.keep k)
    | _ => exact ow.elim
  refine ⟨g', ⟨⟨s.len, ⟨s.sh.fr, ?_, ?_, s.sh.tb, s.sh.tk, s.sh.io⟩, ?_, s.ds, s.cg⟩, le, ?_, fun _ _ e _ _ => e, fun _ h => h, fun _ _ h => h, fun _ ps h => ⟨ps, h⟩, fun _ h => s.some_at h⟩, rep⟩
  · rintro x (h | h)
    · exact s.sh.sd x h
    · exact ⟨o, by rw [h]; exact ho, ht⟩
  · rintro x (h | h)
    · exact s.sh.ns x h
    · rw [h]; exact .inr h0
  · intro j u hj
    refine (s.sl j u hj).keep k fun b qb hd => ⟨?_, fun _ e => e⟩
    rintro (w | w)
    · exact (s.owi ⟨⟨u, hj, hd⟩, qb⟩).1 w
    · subst w; exact na ⟨j, ⟨u, hj, hd⟩, qb⟩
  · rintro x (h | h)
    · exact .inl h
    · exact .inr (.inl h)
theorem ORep.fz {v : V} {o : Opd} {t : T} (s : Sr W B g ρ σ H) (r : ORep W B g ρ σ H Hs v o) (e : fz ρ o = some (t, ρ')) : ∃ g', Ex W B σ (fun a => a ∈ freshA v o) g ρ H g' ρ' H ∧ Rep W g' H v t := by
  cases o with
  | val u f =>
    have : u = t ∧ ρ = ρ' := by simpa [Zl.fz] using e
    obtain ⟨rfl, rfl⟩ := this
    cases f with
    | false => exact ⟨g, .refl s, r⟩
    | true =>
      obtain ⟨a, q, n, ow, h0, na, _⟩ := r
      subst q
      obtain ⟨g', x, rr⟩ := Ex.give s n ow na h0
      exact ⟨g', x.weaken fun b h => by subst h; simp [freshA], rr⟩
  | slot i =>
    have r' : σ[i]? = some (some v) := r
    dsimp only [Zl.fz] at e
    split at e
    · rename_i u h; cases e; obtain ⟨w, q, rr⟩ := s.sl i _ h; rw [r'] at q; cases q; exact ⟨g, .refl s, rr⟩
    · rename_i u h; cases e; obtain ⟨w, q, rr⟩ := s.sl i _ h; rw [r'] at q; cases q; exact ⟨g, .refl s, rr⟩
    · rename_i u h; cases e
      obtain ⟨g', w, x, q, rr⟩ := Ex.freeze (F := fun a => a ∈ freshA v (.slot i)) s h
      rw [r'] at q; cases q
      exact ⟨g', x, rr⟩
    · cases e
theorem ORepL.fzs : ∀ {os : List Opd} {vs : List V} {ts : List T} {g : Gh} {ρ : Env}, Sr W B g ρ σ H → ORepL W B g ρ σ H Hs vs os → fzs ρ os = some (ts, ρ') → ∃ g', Ex W B σ (fun a => a ∈ freshL vs os) g ρ H g' ρ' H ∧ RepL W g' H vs ts
  | [], vs, ts, g, ρ, s, r, e => by
    have : ts = [] ∧ ρ = ρ' := by simpa [Zl.fzs, eq_comm] using e
    obtain ⟨rfl, rfl⟩ := this
    cases r.all
    exact ⟨g, .refl s, .nil⟩
  | o :: os, vs, ts, g, ρ, s, r, e => by
    obtain ⟨all, nd⟩ := r
    cases all with
    | @cons v _ vs _ q p =>
      unfold Zl.fzs at e
      split at e
      · rename_i t ρ1 e1
        split at e
        · rename_i us ρ2 e2
          cases e
          obtain ⟨g1, x1, r1⟩ := q.fz s e1
          have nd' := List.nodup_append.mp (show (freshA v o ++ freshL vs os).Nodup from nd)
          have rs : ORepL W B g1 ρ1 σ H Hs vs os := ORepL.keep s x1 ⟨p, nd'.2.1⟩ fun a ha hb => nd'.2.2 a hb a ha rfl
          obtain ⟨g2, x2, r2⟩ := ORepL.fzs x1.st rs e2
          refine ⟨g2, x1.trans' x2 (fun a h => List.mem_append_left _ h) (fun a h => .inl (List.mem_append_right _ h)), .cons (r1.keep (x2.keeps x1.st)) r2⟩
        · cases e
      · cases e
/-- names among operands are let go, new things stay -/
theorem ORepL.fzo : ∀ {os os' : List Opd} {vs : List V} {g : Gh} {ρ : Env}, Sr W B g ρ σ H → ORepL W B g ρ σ H Hs vs os → fzo ρ os = some (os', ρ') → ∃ g', Ex W B σ (fun _ => False) g ρ H g' ρ' H ∧ ORepL W B g' ρ' σ H Hs vs os' ∧ freshL vs os' = freshL vs os ∧ (∀ o ∈ os', ∀ i, o ≠ .slot i)
  | [], os', vs, g, ρ, s, r, e => by
    have : os' = [] ∧ ρ = ρ' := by simpa [Zl.fzo, eq_comm] using e
    obtain ⟨rfl, rfl⟩ := this
    exact ⟨g, .refl s, r, rfl, fun o h => by simp at h⟩
  | .val t f :: os, os', vs, g, ρ, s, r, e => by
    obtain ⟨all, nd⟩ := r
    cases all with
    | @cons v _ vs _ q p =>
      unfold Zl.fzo at e
      split at e
      · rename_i us ρ2 e2
        cases e
        have nd' := List.nodup_append.mp (show (freshA v (.val t f) ++ freshL vs os).Nodup from nd)
        obtain ⟨g2, x2, r2, ef, hn⟩ := ORepL.fzo s ⟨p, nd'.2.1⟩ e2
        refine ⟨g2, x2, ⟨.cons (q.keep s x2 fun _ _ z => z) r2.all, ?_⟩, ?_, ?_⟩
        · show (freshA v (.val t f) ++ freshL vs us).Nodup
          rw [ef]; exact nd
        · show freshA v (.val t f) ++ freshL vs us = freshA v (.val t f) ++ freshL vs os
          rw [ef]
        · intro o ho i
          rcases List.mem_cons.mp ho with z | z
          · subst z; intro q; cases q
          · exact hn o z i
      · cases e
  | .slot i :: os, os', vs, g, ρ, s, r, e => by
    obtain ⟨all, nd⟩ := r
    cases all with
    | @cons v _ vs _ q p =>
      unfold Zl.fzo at e
      split at e
      · rename_i t ρ1 e1
        split at e
        · rename_i us ρ2 e2
          cases e
          obtain ⟨g1, x1, r1⟩ := q.fz s e1
          have x1' : Ex W B σ (fun _ => False) g ρ H g1 ρ1 H := x1.weaken fun a h => by simp [freshA] at h
          have nd' := List.nodup_append.mp (show (freshA v (.slot i) ++ freshL vs os).Nodup from nd)
          have rs : ORepL W B g1 ρ1 σ H Hs vs os := ORepL.keep s x1' ⟨p, nd'.2.1⟩ fun _ _ z => z
          obtain ⟨g2, x2, r2, ef, hn⟩ := ORepL.fzo x1.st rs e2
          have e0 : freshA v (.val t false) = [] := by cases v <;> rfl
          have e1 : freshA v (.slot i) = [] := by cases v <;> rfl
          refine ⟨g2, x1'.trans' x2 (fun _ z => z) (fun _ z => .inl z), ⟨.cons (show Rep W g2 H v t from r1.keep (x2.keeps x1.st)) r2.all, ?_⟩, ?_, ?_⟩
          · show (freshA v (.val t false) ++ freshL vs us).Nodup
            rw [e0, ef]; exact nd'.2.1
          · show freshA v (.val t false) ++ freshL vs us = freshA v (.slot i) ++ freshL vs os
            rw [e0, e1, ef]
          · intro o ho i
            rcases List.mem_cons.mp ho with z | z
            · subst z; intro q; cases q
            · exact hn o z i
        · cases e
      · cases e
/-! ### stores -/
/-- the slots of the machine behind a row of stores -/
def setAll (σ : L2.St) : List Nat → List V → L2.St
  | i :: is, v :: vs => setAll (σ.set i (some v)) is vs
  | _, _ => σ
theorem Sr.put {i : Nat} {v : V} {o : Opd} (s : Sr W B g ρ σ H) (r : ORep W B g ρ σ H Hs v o) (e : put ρ i o = some ρ') : ∃ g', Sr W B g' ρ' (σ.set i (some v)) H ∧ g.Le g' ∧ (∀ a, OwAt ρ' (σ.set i (some v)) a → OwAt ρ σ a ∨ a ∈ freshA v o) ∧ (∀ a, g'.S a → g.S a ∨ OwAt ρ σ a) := by
  have ow' : ∀ {ρ : Env} {s1 : Slot} {a : Addr}, OwAt (ρ.set i s1) (σ.set i (some v)) a → OwAt ρ σ a ∨ (s1.held = true ∧ v = .ref a) := fun {ρ s1 a} ⟨j, ⟨w, h1, h2⟩, h3⟩ => by
    rcases get_set_some h1 with ⟨e, e2, lt⟩ | ⟨e, h1⟩
    · subst e; subst e2
      rcases get_set_some h3 with ⟨_, e3, _⟩ | ⟨e3, _⟩
      · exact .inr ⟨h2, by simpa using e3.symm⟩
      · exact absurd rfl e3
    · rw [get_set_ne e] at h3
      exact .inl ⟨j, ⟨w, h1, h2⟩, h3⟩
  cases o with
  | val t f =>
    dsimp only [Zl.put] at e
    split at e
    · rename_i hf
      cases e
      cases f with
      | false =>
        refine ⟨g, s.store hf (s1 := .sh t) ⟨v, rfl, r⟩ (fun z => by cases z), .refl g, fun a h => ?_, fun a h => .inl h⟩
        rcases ow' h with q | ⟨q, _⟩
        · exact .inl q
        · cases q
      | true =>
        obtain ⟨a, q, n, ow, h0, na, _⟩ := r
        subst q
        refine ⟨g, s.store hf (s1 := .ow t) ⟨a, rfl, n, ow, h0⟩ (fun _ b eb => by cases eb; exact na), .refl g, fun b h => ?_, fun a h => .inl h⟩
        rcases ow' h with q | ⟨_, q⟩
        · exact .inl q
        · cases q; exact .inr (by simp [freshA])
    · cases e
  | slot j =>
    dsimp only [Zl.put] at e
    split at e
    · rename_i t ρ1 e1
      split at e
      · rename_i hf
        cases e
        obtain ⟨g1, x1, r1⟩ := r.fz s e1
        refine ⟨g1, x1.st.store hf (s1 := .sh t) ⟨v, rfl, r1⟩ (fun z => by cases z), x1.le, fun a h => ?_, fun a h => ?_⟩
        · rcases ow' h with q | ⟨q, _⟩
          · exact .inl (x1.owk a q)
          · cases q
        · rcases x1.news a h with q | q | q
          · exact .inl q
          · simp [freshA] at q
          · exact .inr q
      · cases e
    · cases e
theorem Sr.putAll : ∀ {is : List Nat} {os : List Opd} {vs : List V} {g : Gh} {ρ : Env} {σ : L2.St}, Sr W B g ρ σ H → ORepL W B g ρ σ H Hs vs os → (∀ o ∈ os, ∀ i, o ≠ .slot i) → putAll ρ is os = some ρ' → ∃ g', Sr W B g' ρ' (setAll σ is vs) H ∧ g.Le g'
  | [], [], vs, g, ρ, σ, s, r, hn, e => by
    unfold Zl.putAll at e; cases e
    exact ⟨g, s, .refl g⟩
  | i :: is, o :: os, vs, g, ρ, σ, s, r, hn, e => by
    obtain ⟨all, nd⟩ := r
    cases all with
    | @cons v _ vs _ q p =>
      unfold Zl.putAll at e
      split at e
      · rename_i ρ1 e1
        obtain ⟨g1, s1, le1, ow1, n1⟩ := s.put q e1
        have nd' := List.nodup_append.mp (show (freshA v o ++ freshL vs os).Nodup from nd)
        have k : Keep g H g1 H := ⟨le1, fun _ _ e _ => e⟩
        have up : ∀ {vs : List V} {os : List Opd}, Paired (ORep W B g ρ σ H Hs) vs os → (∀ o ∈ os, ∀ i, o ≠ .slot i) → (∀ a ∈ freshA v o, a ∉ freshL vs os) → Paired (ORep W B g1 ρ1 (σ.set i (some v)) H Hs) vs os := by
          intro vs' os' p
          induction p with
          | nil => intro _ _; exact .nil
          | @cons w u ws us qq pp ih =>
            intro hn' hd
            refine .cons ?_ (ih (fun o h => hn' o (List.mem_cons_of_mem _ h)) (fun a h z => hd a h (List.mem_append_right _ z)))
            cases u with
            | slot j => exact absurd rfl (hn' _ List.mem_cons_self j)
            | val t f =>
              cases f with
              | false => exact Rep.keep k qq
              | true =>
                obtain ⟨a, e, n, ow, h0, na, hs⟩ := qq
                subst e
                refine ⟨a, rfl, fun z => ?_, ow.keep k (fun _ e => e), h0, fun z => ?_, hs⟩
                · rcases n1 a z with z | z
                  · exact n z
                  · exact na z
                · rcases ow1 a z with z | z
                  · exact na z
                  · exact hd a z (List.mem_append_left _ (by simp [freshA]))
        obtain ⟨g2, s2, le2⟩ := Sr.putAll s1 ⟨up p (fun o h => hn o (List.mem_cons_of_mem _ h)) (fun a h z => nd'.2.2 a h a z rfl), nd'.2.1⟩ (fun o h => hn o (List.mem_cons_of_mem _ h)) e
        exact ⟨g2, s2, le1.trans le2⟩
      · cases e
  | [], _ :: _, _, _, _, _, _, _, _, e => by unfold Zl.putAll at e; cases e
  | _ :: _, [], _, _, _, _, _, _, _, e => by unfold Zl.putAll at e; cases e
end
end Zl

set_option Elab.async false
set_option linter.all false
set_option maxRecDepth 100000
set_option maxHeartbeats 4000000
/-! Z7: what it is that a term means an expression of the text. -/
namespace Zl
open PySem PySem.Spec PyProof.Rows L2
/-! ### names -/
/-- the names of a block: its slots, its scope, those that it stores to -/
structure Sc where
  N : List Str
  names : List (Str × NameKind)
  st : List Str
  lm : Bool
  fr : Bool
def visB (sc : Sc) (x : Str) : Bool := match sc.names.lookup x with
  | some .local => true
  | some .cell => true
  | some .free => true
  | _ => false
def locB (sc : Sc) (x : Str) : Bool := decide (x ∈ sc.st) && (match sc.names.lookup x with
  | some .local => true
  | some .cell => true
  | _ => false)
def glB (sc : Sc) (x : Str) : Bool := match sc.names.lookup x with
  | some .globalImplicit => true
  | _ => false
def plainName (x : Str) : Bool := (x != ("__debug__" : Str)) && (x != ("__classdict__" : Str)) && (x != ("__name__" : Str))
theorem plainName_dbg {x : Str} (h : plainName x = true) : (x == ("__debug__" : Str)) = false := by
  unfold plainName at h
  simp only [Bool.and_eq_true, bne_iff_ne, ne_eq] at h
  exact beq_eq_false_iff_ne.mpr h.1.1
theorem plainName_cd {x : Str} (h : plainName x = true) : (x == ("__classdict__" : Str)) = false := by
  unfold plainName at h
  simp only [Bool.and_eq_true, bne_iff_ne, ne_eq] at h
  exact beq_eq_false_iff_ne.mpr h.1.2
theorem plainName_nm {x : Str} (h : plainName x = true) : x ≠ ("__name__" : Str) := by
  unfold plainName at h
  simp only [Bool.and_eq_true, bne_iff_ne, ne_eq] at h
  exact h.2
/-- the module's names that the text leans on -/
structure Nd where
  flds : List Str
  defs : List Str
  clss : List (Str × Str)
  cls0 : List Str
  excs : List (Str × List Str)
  cons : List (Str × T)
  blts : List Str
  isas : List Str
  tys : List String
  imps : List Str
  hnds : List Str
  xfl : List Str
structure Nm extends Nd where
  lams : List Str → List (Str × NameKind) → Expr → E → Prop
/-! ### what a def promises -/
/-- what is known of the ground: an object stands where the modules' dict is; the code objects whose defs make lambdas -/
def BaseOk (tbs : List (Addr × Addr)) (mg : Str → Option Value) (base : Heap) : Prop := (∃ o, base.get? sysModules = some o) ∧ ∀ p ∈ tbs, LamX.TabB base mg p.1 p.2
/-- the ground knows the cells -/
def CellsIn (Γ : List (Addr × V)) (base : Heap) : Prop := ∀ p, p ∈ Γ → ∃ u, base.IsCell p.1 (some u) ∧ RelV p.2 u
abbrev SpC := List (Addr × V) → Sp
structure FnG (P : Program) (w : World) (K : PySem.W.Frag) (mg : Str → Option Value) (tbs : List (Addr × Addr)) (k : Nat) (f : Addr) (fd : FuncData) (ps : List Str) (sp : SpC) : Prop where
  len : ∀ Γ vs H Q E, sp Γ vs H Q E → vs.length = ps.length
  run : ∀ (base : Heap) (A : Around) (outer : List PySem.Env) (s : Shared) (H : Hp) (args : Args) (us : List Value) (vs : List V) (Q : VK) (E : XK) (Γ : List (Addr × V)), Room k A → A.guards = some [] → Env0 P w K mg base A outer s H → BaseOk tbs mg base → CellsIn Γ base →
    BindsTo s fd args (ps.zip us) → Vals vs us → sp Γ vs H Q E → codeAny (model P w) A (.call (.ref f) args) (CR (L2.CX P w) outer P w H s Q E) s
/-- the attributes of an exception -/
def RepX (W : Wd) (g : Gh) (H : Hp) (vs : List (Str × V)) (fs : List (Str × T)) : Prop := ∀ f t, fs.lookup f = some t → ∃ v, vs.lookup f = some v ∧ Rep W g H v t
/-- one argument: IO: what the first one's name holds -/
def ArgR (W : Wd) (g : Gh) (H : Hp) (IO : Addr → Prop) (v : V) : Slot → Prop
  | .sh t => Rep W g H v t
  | .io t => ∃ a, v = .ref a ∧ ¬ g.S a ∧ OwnR W g H a t ∧ IO a
  | .nw c fs => ∃ a dx vs, v = .ref a ∧ ¬ g.S a ∧ H a = some (.ins (W.CA c) dx vs) ∧ RepF W g H vs fs ∧ IO a ∧ W.okc c
  | _ => False
/-- the heap behind a call -/
structure Bk (tab : List (Addr × Str)) (S : Addr → Prop) (IO : Addr → Prop) (H : Hp) (S' : Addr → Prop) (H' : Hp) : Prop where
  sub : ∀ a, S a → S' a
  news : ∀ a, S' a → S a ∨ H a = none
  dom : ∀ a, S' a → ∃ o, H' a = some o ∧ notTbl o
  keep : ∀ a o, H a = some o → ¬ IO a → notTbl o → H' a = some o
  tbk : ∀ a ps, H a = some (.tbl ps) → ∃ ps', H' a = some (.tbl ps')
  tb : LamX.Tabs tab H'
  iok : ∀ a, IO a → ∃ o, H' a = some o
def RetR (W : Wd) (g : Gh) (H H0 : Hp) (IO : Addr → Prop) (v : V) (t : T) (fr : Bool) : Prop := match fr with
  | false => Rep W g H v t
  | true => ∃ a, v = .ref a ∧ ¬ g.S a ∧ OwnR W g H a t ∧ H0 a = none ∧ ¬ IO a
def IoR (W : Wd) (g : Gh) (H : Hp) (v : Option V) (s : Option Slot) (io : Option T) : Prop := match s with
  | some (.io _) => ∀ t, io = some t → ∃ a, v = some (.ref a) ∧ ¬ g.S a ∧ OwnR W g H a t
  | some (.nw c _) => ∀ t, io = some t → ∃ a dx vs fs, v = some (.ref a) ∧ ¬ g.S a ∧ t = .ins c fs ∧ H a = some (.ins (W.CA c) dx vs) ∧ RepF W g H vs fs
  | _ => True
def spT (W : Wd) (tab : List (Addr × Str)) (call : List Slot → KR → KX → Prop) : SpC := fun Γ vs H Q E =>
  ∃ (S IO : Addr → Prop) (sl : List Slot), Paired (ArgR W ⟨S, Γ⟩ H IO) vs sl ∧ (∀ i s, sl[i]? = some s → s.held = true → i = 0) ∧ (∀ a, IO a → ∃ s, sl[0]? = some s ∧ s.held = true ∧ vs[0]? = some (.ref a)) ∧ (∀ a, S a → ∃ o, H a = some o ∧ notTbl o) ∧ LamX.Tabs tab H ∧
    call sl (fun t fr io => ∀ v S' H', Bk tab S IO H S' H' → RetR W ⟨S', Γ⟩ H' H IO v t fr → IoR W ⟨S', Γ⟩ H' vs[0]? sl[0]? io → Q v H')
      (fun n fs => ∀ S' H' d xs, Bk tab S IO H S' H' → H' d = some (.xd xs) → RepX W ⟨S', Γ⟩ H' xs fs → E (.ref (W.CA n)) (some d) H')
/-- what a closure promises -/
def CloG (P : Program) (w : World) (W : Wd) (mg : Str → Option Value) (tab : List (Addr × Str)) (k : Nat) (wp : E → List (Option T) → (T → Bool → Prop) → KX → Prop) : Prop :=
  ∀ {b : E} {caps : List (Option T)} {f c' : Addr} {q : Str} {N : List Str} {cl : List (Str × Addr)} {o : HO} {base : Heap} {A : Around} {outer : List PySem.Env} {s : Shared} {H : Hp} {Q : VK} {E : XK} {S : Addr → Prop} {Γ : List (Addr × V)} {Kr : T → Bool → Prop} {X' : KX},
    wp b caps Kr X' → Room k A → A.guards = some [] → Env0 P w W.K mg base A outer s H → BaseOk W.tbs mg base → CellsIn Γ base → (∀ a, S a → ∃ o, H a = some o ∧ notTbl o) → LamX.Tabs tab H →
    H f = some o → H c' = some (LamX.CodeO c' q) → COk W f c' q N cl b o → RepC W ⟨S, Γ⟩ H cl N caps →
    (∀ t fr, Kr t fr → ∀ v S' H', Bk tab S (fun _ => False) H S' H' → RetR W ⟨S', Γ⟩ H' H (fun _ => False) v t fr → Q v H') →
    (∀ n fs, X' n fs → ∀ S' H' d xs, Bk tab S (fun _ => False) H S' H' → H' d = some (.xd xs) → RepX W ⟨S', Γ⟩ H' xs fs → E (.ref (W.CA n)) (some d) H') →
    codeAny (model P w) A (.call (.ref f) ⟨[], []⟩) (CR (L2.CX P w) outer P w H s Q E) s
/-- a module's name for a built-in function -/
def impId (x : Str) : String := if x = "gcd" then "math.gcd" else "?"
def tysA : List String := ["NoneType", "bool", "int", "str", "tuple", "list", "dict"]
/-- what is true of an own class -/
structure ClsF (nm : Nm) (W : Wd) (c : Pr) (n : Str) : Prop where
  cls : Cls W.K (W.CA n)
  nat : ∀ f ∈ nm.flds, NoAttr W.K (W.CA n) f
  ha : PySem.W.findIn W.K (.ref (W.CA n)) "__class__" = some (some (.builtin "object.__class__"))
  hn : PySem.W.specialIn W.K (.builtin "object.__class__") "__get__" = some (some (.builtin "getset_descriptor.__get__"))
  htk : PySem.W.takesIn W.K (.builtin "object.__class__") = some true
  hm : PySem.W.mroIn W.K (W.CA n) (.type "object") = some true
  sub : ∀ d ∈ nm.isas, PySem.W.kitOne W.K (.ref (W.CA n)) (.ref (W.CA d)) = some (c.sub n d)
  tys : ∀ t ∈ nm.tys, PySem.W.kitOne W.K (.ref (W.CA n)) (.type t) = some false
  eq : ∀ q r, c.heq n = some (q, r) → PySem.W.findIn W.K (.ref (W.CA n)) "__eq__" = some (some (.ref (W.FA q))) ∧ PySem.W.findIn W.K (.ref (W.CA n)) "__ne__" = some (some (.ref (W.FA r))) ∧ PySem.W.isFn W.K (.ref (W.FA q)) = true ∧ PySem.W.isFn W.K (.ref (W.FA r)) = true ∧ PySem.W.notFirst W.K (W.CA n) (.type "tuple") = true
def Mk0 (P : Program) (w : World) (K : PySem.W.Frag) (C : Addr) : Prop := PySem.W.makesIn K C = true ∧ PySem.W.findIn K (.ref C) "__init__" = some (some (.builtin "object.__init__"))
/-- what an own exception's __init__ promises -/
def spIni (C : Addr) (fs : List Str) : Sp := fun vs H Q E => ∃ a ws, vs = .ref a :: ws ∧ ws.length = fs.length ∧ H a = some (exo a C none) ∧
  ∀ d, H d = none → d ≠ a → Q .non (upd (upd H d (exd d (fs.zip ws).reverse)) a (exo a C (some d)))
/-- an own exception class -/
structure ExcF (P : Program) (w : World) (K : PySem.W.Frag) (mg : Str → Option Value) (C : Addr) (fs : List Str) : Prop where
  ok : OexC K C
  nd : fs.Nodup
  len : fs.length ≤ 100
  ini : ∃ fI fd ps, PySem.W.findIn K (.ref C) "__init__" = some (some (.ref fI)) ∧ PySem.W.typeIn K (.ref fI) = some (.type "function") ∧ L2.Binds K fd ps [] ∧ ∀ base, FnOk P w K mg base (L2.CX P w) 2 fI fd ps (spIni C fs)
/-- the program's own things -/
structure Pf (nm : Nm) (P : Program) (w : World) (W : Wd) (mg : Str → Option Value) (tab : List (Addr × Str)) (k : Nat) (c : Pr) : Prop where
  mono : ∀ {f sl Q Q' X X'}, (∀ t fr io, Q t fr io → Q' t fr io) → (∀ n fs, X n fs → X' n fs) → c.call f sl Q X → c.call f sl Q' X'
  clo : CloG P w W mg tab k c.clo
  cmo : ∀ {b cs Q Q' X X'}, (∀ t fr, Q t fr → Q' t fr) → (∀ n fs, X n fs → X' n fs) → c.clo b cs Q X → c.clo b cs Q' X'
  gd : ∀ f ∈ nm.defs, mg f = some (.ref (W.FA f)) ∧ PySem.W.keepIn W.K (.ref (W.FA f)) = true
  fn : ∀ f sl Q X, c.call f sl Q X → ∃ fd ps, L2.Binds W.K fd ps [] ∧ FnG P w W.K mg W.tbs k (W.FA f) fd ps (spT W tab (c.call f))
  con : ∀ x t, c.con x = some t → ∃ v u, mg x = some u ∧ RelV v u ∧ ∀ g H, Rep W g H v t
  blt : ∀ x ∈ nm.blts, mg x = none
  imp : ∀ x ∈ nm.imps, mg x = some (.builtin (impId x))
  isa : ∀ d ∈ nm.isas, mg d = some (.ref (W.CA d)) ∧ ∀ a ∈ tysA, PySem.W.kitOne W.K (.type a) (.ref (W.CA d)) = some false
  cls : ∀ p ∈ nm.clss, mg p.1 = some (.ref (W.CA p.1)) ∧ W.okc p.1 ∧ Mk W.K (W.CA p.1) (W.FA p.2)
  cls0 : ∀ n ∈ nm.cls0, mg n = some (.ref (W.CA n)) ∧ W.okc n ∧ Mk0 P w W.K (W.CA n)
  okc : ∀ n, W.okc n → ClsF nm W c n
  kk : 2 ≤ k
  lam : ∀ N ns py b, nm.lams N ns py b → W.lams N ns py b
  exI : ∀ n fs, c.exf n = some fs → (n, fs) ∈ nm.excs
  exm : ∀ p ∈ nm.excs, ∀ d ∈ nm.hnds, PySem.W.exmOne W.K (.ref (W.CA p.1)) (.ref (W.CA d)) = some (decide (p.1 = d))
  hnd : ∀ d ∈ nm.hnds, mg d = some (.ref (W.CA d)) ∧ XfC W.K (W.CA d) ∧ ∀ f ∈ nm.xfl, PySem.W.findIn W.K (.ref (W.CA d)) f = some none
  exc : ∀ p ∈ nm.excs, mg p.1 = some (.ref (W.CA p.1)) ∧ c.exf p.1 = some p.2 ∧ ExcF P w W.K mg (W.CA p.1) p.2
/-- the state of a block as the layer sees it -/
structure Cok (nm : Nm) (sc : Sc) (X : Cx) (W : Wd) (B : Fb) (k : Nat) (c : Pr) (Wx : WX) : Prop where
  K : X.K = W.K
  calm : X.calm = true
  N : X.N = sc.N
  nd : X.N.Nodup
  room : Room (k + 1) X.A
  gd : X.A.guards = some []
  pf : Pf nm X.prog X.w W X.mg B.tab k c
  scp : X.env.scope.names = sc.names
  knd : X.env.scope.kind = .function
  sto : ∀ x, x ∈ sc.st → X.fn x = true ∨ X.env.scope.names.lookup x = some .local
  bo : BaseOk W.tbs X.mg X.base
  c0 : CellsIn B.Γ0 X.base
  bN : B.N = sc.N
  bc : B.lam = true → B.cells = X.env.cells
  cellK : B.lam = true → ∀ x a, X.env.cells.lookup x = some a → X.env.kindOf x = some .cell ∨ X.env.kindOf x = some .free
  cellF : B.lam = true → ∀ x a, X.env.cells.lookup x = some a → a ∉ X.fs
  tk : Takes X Wx
  lk : sc.lm = true → B.lam = true ∧ ∃ cc P, X.env.code = .ref cc ∧ (cc, P) ∈ W.tbs ∧ (P, X.env.qual ++ "<lambda>") ∈ B.tab ∧ ∀ p ∈ B.tab, p.1 = P → p.2 = X.env.qual ++ "<lambda>"
  fr : sc.fr = true → X.stack = X.env :: X.outer ∧ X.env.frame = some X.env.locals
section
variable {nm : Nm} {sc : Sc} {X : Cx} {W : Wd} {B : Fb} {k : Nat} {c : Pr} {Wx : WX} (ok : Cok nm sc X W B k c Wx) {x : Str}
include ok
theorem Cok.vis (h : visB sc x = true) : Vis X.env.scope x := by
  unfold visB at h
  unfold Vis
  rw [ok.scp]
  split at h <;> first | (rename_i e; exact .inl e) | (rename_i e; exact .inr (.inl e)) | (rename_i e; exact .inr (.inr e)) | cases h
theorem Cok.loc (h : locB sc x = true) : L2.Loc X.env.scope x ∧ (X.fn x = true ∨ X.env.scope.names.lookup x = some .local) := by
  unfold locB at h
  rw [Bool.and_eq_true] at h
  refine ⟨?_, ok.sto x (of_decide_eq_true h.1)⟩
  have h := h.2
  unfold L2.Loc
  rw [ok.scp]
  split at h <;> first | (rename_i e; exact .inl e) | (rename_i e; exact .inr e) | cases h
theorem Cok.gl (h : glB sc x = true) : Gl X x := by
  unfold glB at h
  show X.env.scope.names.lookup x = some .globalImplicit
  rw [ok.scp]
  split at h
  · rename_i e; exact e
  · cases h
end
/-! ### what an expression does over the abstract heap -/
def EW (X : Cx) (e : Expr) (σ : L2.St) (H : Hp) (Q : VK) : Prop := ∀ pins s, Inv X pins σ H s → wpAny (model X.prog X.w) X.A (eval e X.env) (EP X pins σ Q) X.xe s
def TW (X : Cx) (e : Expr) (σ : L2.St) (H : Hp) (Q : Bool → Hp → Prop) : Prop := ∀ whole pins s, Inv X pins σ H s → wpAny (model X.prog X.w) X.A (isTrue e X.env whole) (TP X pins σ Q) X.xe s
def TWv (X : Cx) (e : Expr) (σ : L2.St) (H : Hp) (Q : Bool → Hp → Prop) : Prop := ∀ pins s, Inv X pins σ H s → wpAny (model X.prog X.w) X.A (isTrue e X.env (eval e X.env)) (TP X pins σ Q) X.xe s
def AW (X : Cx) (es : List Expr) (σ : L2.St) (H : Hp) (Q : List V → Hp → Prop) : Prop := ∀ pos pins s, Inv X pins σ H s → wpAny (model X.prog X.w) X.A (spliced (backTo pos (starEach es X.env))) (AP X pins σ Q) X.xe s
section
variable {X : Cx} {e : Expr} {es : List Expr}
theorem pe_ew : PE X e (EW X e) := ⟨fun pins s σ H Q I h => h pins s I⟩
theorem ew_of {t : TE} (h : PE X e t) {σ : L2.St} {H : Hp} {Q : VK} (q : t σ H Q) : EW X e σ H Q := fun pins s I => h.run pins s σ H Q I q
theorem pt_tw : PT X e (TWv X e) := ⟨fun pins s σ H Q I h => h pins s I⟩
theorem tw_of {t : TT} (h : PT X e t) {σ : L2.St} {H : Hp} {Q : Bool → Hp → Prop} (q : t σ H Q) : TWv X e σ H Q := fun pins s I => h.run pins s σ H Q I q
theorem pw_tw : PW X e (TW X e) := ⟨fun whole pins s σ H Q I h => h whole pins s I⟩
theorem tww_of {t : TT} (h : PW X e t) {σ : L2.St} {H : Hp} {Q : Bool → Hp → Prop} (q : t σ H Q) : TW X e σ H Q := fun whole pins s I => h.run whole pins s σ H Q I q
theorem TW.v {σ : L2.St} {H : Hp} {Q : Bool → Hp → Prop} (h : TW X e σ H Q) : TWv X e σ H Q := h _
theorem pa_aw : PA X es (AW X es) := ⟨fun pos pins s σ H Q I h => h pos pins s I⟩
theorem aw_of {t : TA} (h : PA X es t) {σ : L2.St} {H : Hp} {Q : List V → Hp → Prop} (q : t σ H Q) : AW X es σ H Q := fun pos pins s I => h.run pos pins s σ H Q I q
theorem EW.mono {σ : L2.St} {H : Hp} {Q Q' : VK} (h : EW X e σ H Q) (m : ∀ v H', Q v H' → Q' v H') : EW X e σ H Q' := fun pins s I =>
  wpAny_mono (h pins s I) (fun u s' ⟨v, H', a, b, q⟩ => ⟨v, H', a, b, m _ _ q⟩) fun _ _ x => x
end
/-- what is wished of an exception, over trees -/
def XT (W : Wd) (B : Fb) (g : Gh) (σ : L2.St) (Wx : WX) : KX := fun n fs => ∀ g' H' d vs, Sh B g' H' → g.Le g' → (B.lam = false → ∀ p, p ∈ g'.Γ → p ∈ B.Γ0) → H' d = some (.xd vs) → RepX W g' H' vs fs → Wx (.ref (W.CA n)) (some d) σ H'
theorem XT.up {W : Wd} {B : Fb} {g g1 : Gh} {σ : L2.St} {Wx : WX} (le : g.Le g1) {n : Str} {fs : List (Str × T)} (h : XT W B g σ Wx n fs) : XT W B g1 σ Wx n fs := fun g' H' d vs a b => h g' H' d vs a (le.trans b)
/-- the term e means the expression py -/
def SE (nm : Nm) (sc : Sc) (py : Expr) (e : E) : Prop := ∀ {X : Cx} {W : Wd} {B : Fb} {k : Nat} {c : Pr} {Wx : WX}, Cok nm sc X W B k c Wx → ∀ {g : Gh} {ρ : Env} {σ : L2.St} {H : Hp} {K : KE'} {X' : KX} {Q : VK},
  Sr W B g ρ σ H → wpE c e ρ K X' → (∀ n fs, X' n fs → XT W B g σ Wx n fs) → (∀ o ρ1 v g1 H1, K o ρ1 → Ex W B σ (nw H) g ρ H g1 ρ1 H1 → ORep W B g1 ρ1 σ H1 H v o → Q v H1) → EW X py σ H Q
def SEs (nm : Nm) (sc : Sc) (py : List Expr) (e : Es) : Prop := ∀ {X : Cx} {W : Wd} {B : Fb} {k : Nat} {c : Pr} {Wx : WX}, Cok nm sc X W B k c Wx → ∀ {g : Gh} {ρ : Env} {σ : L2.St} {H : Hp} {K : List Opd → Env → Prop} {X' : KX} {Q : List V → Hp → Prop},
  Sr W B g ρ σ H → wpEs c e ρ K X' → (∀ n fs, X' n fs → XT W B g σ Wx n fs) → (∀ o ρ1 v g1 H1, K o ρ1 → Ex W B σ (nw H) g ρ H g1 ρ1 H1 → ORepL W B g1 ρ1 σ H1 H v o → Q v H1) → AW X py σ H Q
/-- .. as a test, whatever its whole is (w = false: by its value) -/
def SB (nm : Nm) (sc : Sc) (py : Expr) (e : E) : Prop := ∀ {X : Cx} {W : Wd} {B : Fb} {k : Nat} {c : Pr} {Wx : WX}, Cok nm sc X W B k c Wx → ∀ {g : Gh} {ρ : Env} {σ : L2.St} {H : Hp} {K : Bool → Env → Prop} {X' : KX} {Q : Bool → Hp → Prop},
  Sr W B g ρ σ H → wpB c e ρ K X' → (∀ n fs, X' n fs → XT W B g σ Wx n fs) → (∀ b ρ1 g1 H1, K b ρ1 → Ex W B σ (nw H) g ρ H g1 ρ1 H1 → Q b H1) → TWv X py σ H Q
section
variable {nm : Nm} {sc : Sc} {pos : Pos}
/-! ### names, constants -/
theorem se_nm {x : Str} {i : Nat} (hN : sc.N[i]? = some x) (hv : visB sc x = true) (hp : plainName x = true) : SE nm sc (.Name x pos) (.nm i) := by
  intro X W B k c Wx ok g ρ σ H K X' Q s h hX hK
  have key : ∀ v, σ[i]? = some (some v) → K (.slot i) ρ → EW X (.Name x pos) σ H Q := fun v e q =>
    ew_of (pe_var (i := i) (by rw [ok.N]; exact hN) (ok.vis hv) (plainName_dbg hp) (plainName_cd hp)) ⟨v, e, hK _ _ v g H q (.refl s) e⟩
  unfold wpE at h
  split at h
  · rename_i t e; obtain ⟨v, q, _⟩ := s.sl i _ e; exact key v q h
  · rename_i t e; obtain ⟨v, q, _⟩ := s.sl i _ e; exact key v q h
  · rename_i t e; obtain ⟨v, q, _⟩ := s.sl i _ e; exact key _ q h
  · rename_i t e; obtain ⟨v, q, _⟩ := s.sl i _ e; exact key _ q h
  · exact h.elim
theorem se_const {py : Expr} {e : E} {v : V} {t : T} (hp : ∀ X : Cx, PE X py (tC v)) (he : ∀ c ρ K X', wpE c e ρ K X' → K (.val t false) ρ) (r : ∀ W g H, Rep W g H v t) : SE nm sc py e := by
  intro X W B k c Wx ok g ρ σ H K X' Q s h hX hK
  exact ew_of (hp X) (hK _ _ v g H (he _ _ _ _ h) (.refl s) (r W g H))
theorem se_int {i : Int} {j : Nat} : SE nm sc (.Constant (.int i) j pos) (.int i) := se_const (fun _ => pe_int) (fun _ _ _ _ h => by unfold wpE at h; exact h) fun _ _ _ => .int i
theorem se_str {i : Str} {j : Nat} : SE nm sc (.Constant (.str i) j pos) (.str i) := se_const (fun _ => pe_str) (fun _ _ _ _ h => by unfold wpE at h; exact h) fun _ _ _ => .str i
theorem se_bl {i : Bool} {j : Nat} : SE nm sc (.Constant (.bool i) j pos) (.bl i) := se_const (fun _ => pe_bl) (fun _ _ _ _ h => by unfold wpE at h; exact h) fun _ _ _ => .bl i
theorem se_non {j : Nat} : SE nm sc (.Constant .none j pos) .non := se_const (fun _ => pe_non) (fun _ _ _ _ h => by unfold wpE at h; exact h) fun _ _ _ => .non
theorem se_con {x : Str} (hg : glB sc x = true) (hp : plainName x = true) : SE nm sc (.Name x pos) (.con x) := by
  intro X W B k c Wx ok g ρ σ H K X' Q s h hX hK
  unfold wpE at h
  split at h
  · rename_i t e
    obtain ⟨v, u, hm, r, rep⟩ := ok.pf.con x t e
    exact ew_of (pe_glob (ok.gl hg) hm r (plainName_dbg hp)) (hK _ _ v g H h (.refl s) (rep g H))
  · exact h.elim
theorem se_fnv {x : Str} (hg : glB sc x = true) (hp : plainName x = true) (hd : x ∈ nm.defs) : SE nm sc (.Name x pos) (.fnv x) := by
  intro X W B k c Wx ok g ρ σ H K X' Q s h hX hK
  unfold wpE at h
  exact ew_of (pe_glob (v := .ref (W.FA x)) (ok.gl hg) (ok.pf.gd x hd).1 rfl (plainName_dbg hp)) (hK _ _ (.ref (W.FA x)) g H h (.refl s) (.fn x))
/-! ### rows of expressions -/
def plainE : Expr → Bool
  | .Starred _ _ => false
  | _ => true
theorem star_cons {e : Expr} {es : List Expr} {env : PySem.Env} (h : plainE e = true) : starEach (e :: es) env = (false, eval e env) :: starEach es env := by
  cases e <;> first | rfl | cases h
theorem ses_nil : SEs nm sc [] .nil := by
  intro X W B k c Wx ok g ρ σ H K X' Q s h hX hK
  unfold wpEs at h
  exact aw_of pa_nil (hK _ _ [] g H h (.refl s) .nil)
theorem ses_cons {py : Expr} {pys : List Expr} {e : E} {es : Es} (hs : plainE py = true) (h1 : SE nm sc py e) (h2 : SEs nm sc pys es) : SEs nm sc (py :: pys) (.cons e es) := by
  intro X W B k c Wx ok g ρ σ H K X' Q s h hX hK
  unfold wpEs at h
  refine aw_of (pa_cons pe_ew pa_aw (star_cons hs)) (h1 ok s h hX fun o ρ1 v g1 H1 k1 x1 r1 => ?_)
  refine h2 ok x1.st k1 (fun n fs y => (hX n fs y).up x1.le) fun os ρ2 vs g2 H2 k2 x2 r2 => ?_
  refine hK _ _ (v :: vs) g2 H2 k2 (x1.trans x2) ?_
  refine ORepL.cons (r1.keep x1.st x2 r1.nwF) (fun a ha hn => r1.nwF a ha hn) r2 fun a ha hm => ?_
  obtain ⟨v', o', r', hm'⟩ := mem_freshL r2.all hm
  obtain ⟨_, _, _, _, _, _, na, z⟩ := fresh_some r' hm'
  exact x1.none_back z
end
end Zl

set_option Elab.async false
set_option linter.all false
set_option maxRecDepth 100000
set_option maxHeartbeats 4000000
/-! Z8: the operations by values. -/
namespace Zl
open PySem PySem.Spec PyProof.Rows L2
section
variable {W : Wd} {B : Fb} {σ : L2.St} {g g' : Gh} {ρ ρ' : Env} {H H' Hs : Hp} {v : V}
theorem RepB.int {i : Int} (r : RepB W g H v (.int i)) : v = .int i := by
  rcases r with r | ⟨a, _, r⟩
  · cases r; rfl
  · exact r.elim
theorem RepB.bl {i : Bool} (r : RepB W g H v (.bl i)) : v = .bl i := by
  rcases r with r | ⟨a, _, r⟩
  · cases r; rfl
  · exact r.elim
theorem RepB.non (r : RepB W g H v .non) : v = .non := by
  rcases r with r | ⟨a, _, r⟩
  · cases r; rfl
  · exact r.elim
theorem RepB.str {i : Str} (r : RepB W g H v (.str i)) : v = .str i := by
  rcases r with r | ⟨a, _, r⟩
  · cases r; rfl
  · exact r.elim
theorem RepB.lst {ts : List T} (r : RepB W g H v (.lst ts)) : ∃ a vs, v = .ref a ∧ H a = some (.lst vs) ∧ RepL W g H vs ts := by
  rcases r with r | ⟨a, e, r⟩
  · cases r with
    | lst h e r => exact ⟨_, _, rfl, e, r⟩
  · obtain ⟨vs, h, r⟩ := r; exact ⟨a, vs, e, h, r⟩
theorem RepB.scr {ts : List T} (r : RepB W g H v (.scr ts)) : ∃ a vs, v = .ref a ∧ SqL W.K H a vs ∧ RepL W g H vs ts := by
  rcases r with r | ⟨a, e, r⟩
  · cases r with
    | scr e r => exact ⟨_, _, rfl, e.sq, r⟩
  · exact r.elim
theorem RepB.tup {ts : List T} (r : RepB W g H v (.tup ts)) : ∃ a vs, v = .ref a ∧ SqT W.K H a vs ∧ RepL W g H vs ts ∧ TupAt W.K H a vs := by
  rcases r with r | ⟨a, e, r⟩
  · cases r with
    | tup h r => exact ⟨_, _, rfl, h.sq, r, h⟩
  · exact r.elim
theorem RepB.dct {ts : List (Key × T)} (r : RepB W g H v (.dct ts)) : ∃ a vs, v = .ref a ∧ H a = some (.dK vs) ∧ RepK W g H vs ts := by
  rcases r with r | ⟨a, e, r⟩
  · cases r with
    | dct h e r => exact ⟨_, _, rfl, e, r⟩
  · obtain ⟨vs, h, r⟩ := r; exact ⟨a, vs, e, h, r⟩
theorem RepB.ins {c : Str} {fs : List (Str × T)} (r : RepB W g H v (.ins c fs)) : W.okc c ∧ ∃ a dx vs, v = .ref a ∧ H a = some (.ins (W.CA c) dx vs) ∧ RepF W g H vs fs := by
  rcases r with r | ⟨a, e, r⟩
  · cases r with
    | ins m h e r => exact ⟨m, _, _, _, rfl, e, r⟩
  · exact r.elim
mutual
theorem Rep.dp : ∀ {v : V} {t : T} {d : PyData}, Rep W g H v t → t.pd = some d → Dp W.K H v d
  | _, _, d, .non, e => by simp only [T.pd, Option.some.injEq] at e; subst e; exact .non
  | _, _, d, .bl b, e => by simp only [T.pd, Option.some.injEq] at e; subst e; exact .bl b
  | _, _, d, .int b, e => by simp only [T.pd, Option.some.injEq] at e; subst e; exact .int b
  | _, _, d, .str b, e => by simp only [T.pd, Option.some.injEq] at e; subst e; exact .str b
  | _, _, d, .tup h r, e => by
    simp only [T.pd, Option.map_eq_some_iff] at e
    obtain ⟨ds, e1, e2⟩ := e
    subst e2
    exact .tup h.sq (r.dp e1)
  | _, _, d, .lst h e' r, e => by
    simp only [T.pd, Option.map_eq_some_iff] at e
    obtain ⟨ds, e1, e2⟩ := e
    subst e2
    exact .lst (.of e') (r.dp e1)
  | _, _, d, .scr e' r, e => by simp [T.pd] at e
  | _, _, d, .dct h e' r, e => by simp [T.pd] at e
  | _, _, d, .ins m h e' r, e => by simp [T.pd] at e
  | _, _, d, .fn x, e => by simp [T.pd] at e
  | _, _, d, .clo e' i e2 c r, e => by simp [T.pd] at e
theorem RepL.dp : ∀ {v : List V} {t : List T} {d : List PyData}, RepL W g H v t → pds t = some d → DpAll W.K H v d
  | _, _, d, .nil, e => by simp only [pds, Option.some.injEq] at e; subst e; exact .nil
  | _, _, d, .cons r rs, e => by
    simp only [pds] at e
    split at e
    · rename_i x xs e1 e2
      cases e
      exact .cons (r.dp e1) (rs.dp e2)
    · cases e
end
theorem RepB.dp {t : T} {d : PyData} (r : RepB W g H v t) (e : t.pd = some d) : Dp W.K H v d := by
  rcases r with r | ⟨a, rfl, r⟩
  · exact r.dp e
  · cases t with
    | lst ts =>
      obtain ⟨vs, h, r⟩ := r
      simp only [T.pd, Option.map_eq_some_iff] at e
      obtain ⟨ds, e1, e2⟩ := e
      subst e2
      exact .lst (.of h) (r.dp e1)
    | dct ts => simp [T.pd] at e
    | _ => exact r.elim
/-- what an operation hands back: a value that is there, or a new thing -/
def NewR (W : Wd) (g : Gh) (H H' : Hp) (v : V) (t : T) (f : Bool) : Prop :=
  (f = false ∧ H' = H ∧ Rep W g H v t) ∨ ∃ p o, H p = none ∧ notTbl o ∧ H' = upd H p o ∧ v = .ref p ∧ (f = false → Rep W g H' v t) ∧ (f = true → OwnR W g H' p t)
theorem NewR.same {t : T} (r : Rep W g H v t) : NewR W g H H v t false := .inl ⟨rfl, rfl, r⟩
theorem NewR.tup {p : Addr} {vs : List V} {ts : List T} (hp : H p = none) (r : RepL W g H vs ts) : NewR W g H (upd H p (.tup vs)) (.ref p) (.tup ts) false :=
  .inr ⟨p, _, hp, (fun _ z => by cases z), rfl, rfl, fun _ => .tup (.inl upd_same) (r.keep (.alloc hp)), fun z => by cases z⟩
theorem NewR.lst {p : Addr} {vs : List V} {ts : List T} (hp : H p = none) (r : RepL W g H vs ts) : NewR W g H (upd H p (.lst vs)) (.ref p) (.lst ts) true :=
  .inr ⟨p, _, hp, (fun _ z => by cases z), rfl, rfl, (fun z => by cases z), fun _ => ⟨vs, upd_same, r.keep (.alloc hp)⟩⟩
theorem NewR.out {t : T} {f : Bool} (s : Sr W B g ρ σ H) (hs : ∀ a, H a = none → Hs a = none) (n : NewR W g H H' v t f) : Ex W B σ (nw H) g ρ H g ρ H' ∧ ORep W B g ρ σ H' Hs v (.val t f) := by
  rcases n with ⟨rfl, rfl, r⟩ | ⟨p, o, hp, ht, rfl, rfl, r1, r2⟩
  · exact ⟨.refl s, r⟩
  · refine ⟨.alloc s hp, ?_⟩
    cases f with
    | false => exact r1 rfl
    | true =>
      refine ⟨p, rfl, fun z => ?_, r2 rfl, ?_, fun z => ?_, hs p hp⟩
      · obtain ⟨u, e, _⟩ := s.sh.sd p z
        rw [hp] at e; cases e
      · cases e : B.H0 p with
        | none => rfl
        | some u =>
          exfalso
          by_cases io : B.IO p
          · obtain ⟨w, e'⟩ := s.sh.io p io
            rw [hp] at e'; cases e'
          · by_cases tb : notTbl u
            · have := s.sh.fr p u e io tb
              rw [hp] at this; cases this
            · have : ∃ ps, u = .tbl ps := Classical.byContradiction fun z => tb fun ps e => z ⟨ps, e⟩
              obtain ⟨ps, rfl⟩ := this
              obtain ⟨ps', e'⟩ := s.sh.tk p ps e
              rw [hp] at e'; cases e'
      · obtain ⟨u, e⟩ := s.some_at z
        rw [hp] at e; cases e
end
def bopP : Bop → Operator
  | .add => .Add | .sub => .Sub | .mul => .Mult | .fdiv => .FloorDiv | .mod => .Mod | .pow => .Pow | .shl => .LShift | .shr => .RShift | .band => .BitAnd | .bor => .BitOr | .bxor => .BitXor
theorem fdiv_wide {X : Cx} : OpR X (binaryOp .FloorDiv) (rI (fun _ j => j ≠ 0 ∧ j.natAbs.log2 < 9000) fun i j => .int (i.fdiv j)) := opI fun _ _ _ _ _ _ _ hc q => floordiv_int hc.1 q (.inl (PyProof.noPylong_of_log2 hc.2))
theorem mul_any {X : Cx} : OpR X (binaryOp .Mult) (rI IntMulOk fun i j => .int (i * j)) := opI fun _ _ _ _ _ _ _ hc q => mul_int q hc
section
variable {W : Wd} {X : Cx} {pins : List (Addr × Obj)} {σ : L2.St} {g : Gh} {H : Hp} {s : Shared}
theorem bin_ok {op : Bop} {a b : T} {x y : V} {u w : Value} {K : KV} {Q : VK} (hK : X.K = W.K) (I : Inv X pins σ H s) (rx : RelV x u) (ry : RelV y w) (bx : RepB W g H x a) (by' : RepB W g H y b) (h : opR op a b K)
    (hq : ∀ t f v H', K t f → NewR W g H H' v t f → Q v H') : wpAny (model X.prog X.w) X.A (binaryOp (bopP op) u w) (EP X pins σ Q) X.xe s := by
  unfold opR at h
  split at h
  · cases bx.int; cases by'.int
    exact op_add pins s σ H _ _ _ _ _ I rx ry ⟨_, _, rfl, rfl, hq _ _ _ _ h (.same (.int _))⟩
  · obtain ⟨a, vs, rfl, h1, r1⟩ := bx.lst
    obtain ⟨b, ws, rfl, h2, r2⟩ := by'.lst
    exact op_cat pins s σ H _ _ _ _ _ I rx ry ⟨a, b, vs, ws, rfl, rfl, h1, h2, by rw [r1.length, r2.length]; exact h.1, fun p hp => hq _ _ _ _ h.2 (.lst hp (r1.append r2))⟩
  · obtain ⟨a, vs, rfl, h1, r1, t1⟩ := bx.tup
    obtain ⟨b, ws, rfl, h2, r2, t2⟩ := by'.tup
    refine op_catA pins s σ H _ _ _ _ _ I rx ry ⟨a, b, vs, ws, rfl, rfl, by rw [hK]; exact h1, by rw [hK]; exact h2, by rw [r1.length, r2.length]; exact h.1, fun e => ?_, fun _ e => ?_, fun _ _ p hp => ?_⟩
    · subst e; cases r1
      exact hq _ _ _ _ h.2 (.same (.tup t2 r2))
    · subst e; cases r2
      exact hq _ _ _ _ h.2 (.same (by rw [List.append_nil]; exact .tup t1 r1))
    · exact hq _ _ _ _ h.2 (.tup hp (r1.append r2))
  · cases bx.str; cases by'.str
    exact op_add_str pins s σ H _ _ _ _ _ I rx ry ⟨_, _, rfl, rfl, h.1, hq _ _ _ _ h.2 (.same (.str _))⟩
  · cases bx.int; cases by'.int
    exact op_sub pins s σ H _ _ _ _ _ I rx ry ⟨_, _, rfl, rfl, hq _ _ _ _ h (.same (.int _))⟩
  · cases bx.int; cases by'.int
    exact mul_any pins s σ H _ _ _ _ _ I rx ry ⟨_, _, rfl, rfl, h.1, hq _ _ _ _ h.2 (.same (.int _))⟩
  · obtain ⟨a, vs, rfl, h1, r1⟩ := bx.lst
    cases by'.int
    exact op_rep pins s σ H _ _ _ _ _ I rx ry ⟨a, _, vs, rfl, rfl, h1, h.1.1, h.1.2.1, by rw [r1.length]; exact h.1.2.2, fun p hp => hq _ _ _ _ h.2 (.lst hp (r1.rep _))⟩
  · obtain ⟨a, vs, rfl, h1, r1, t1⟩ := bx.tup
    cases by'.int
    exact op_repT pins s σ H _ _ _ _ _ I rx ry ⟨a, _, vs, rfl, rfl, by rw [hK]; exact h1, (fun e => by subst e; cases r1; exact h.1.1 rfl), h.1.2.1, h.1.2.2.1, by rw [r1.length]; exact h.1.2.2.2, fun p hp => hq _ _ _ _ h.2 (.tup hp (r1.rep _))⟩
  · cases bx.int; cases by'.int
    exact fdiv_wide pins s σ H _ _ _ _ _ I rx ry ⟨_, _, rfl, rfl, h.1, hq _ _ _ _ h.2 (.same (.int _))⟩
  · cases bx.int; cases by'.int
    exact op_modN pins s σ H _ _ _ _ _ I rx ry ⟨_, _, rfl, rfl, h.1, hq _ _ _ _ h.2 (.same (.int _))⟩
  · cases bx.int; cases by'.int
    exact op_pow pins s σ H _ _ _ _ _ I rx ry ⟨_, _, rfl, rfl, h.1, hq _ _ _ _ h.2 (.same (.int _))⟩
  · cases bx.int; cases by'.int
    exact op_shl pins s σ H _ _ _ _ _ I rx ry ⟨_, _, rfl, rfl, h.1, hq _ _ _ _ h.2 (.same (.int _))⟩
  · cases bx.int; cases by'.int
    exact op_shr pins s σ H _ _ _ _ _ I rx ry ⟨_, _, rfl, rfl, h.1, hq _ _ _ _ h.2 (.same (.int _))⟩
  · cases bx.int; cases by'.int
    exact op_and pins s σ H _ _ _ _ _ I rx ry ⟨_, _, rfl, rfl, hq _ _ _ _ h (.same (.int _))⟩
  · cases bx.int; cases by'.int
    exact op_or pins s σ H _ _ _ _ _ I rx ry ⟨_, _, rfl, rfl, hq _ _ _ _ h (.same (.int _))⟩
  · cases bx.int; cases by'.int
    exact op_xor pins s σ H _ _ _ _ _ I rx ry ⟨_, _, rfl, rfl, hq _ _ _ _ h (.same (.int _))⟩
  · exact h.elim
end
end Zl

set_option Elab.async false
set_option linter.all false
set_option maxRecDepth 100000
set_option maxHeartbeats 4000000
/-! Z9: the expressions. -/
namespace Zl
open PySem PySem.Spec PyProof.Rows L2
/-! ### operations by what is true of their values -/
def rA (X : Cx) (f : Value → Value → Sem Value) : R2 := fun x y H Q => ∀ pins s σ v u, Inv X pins σ H s → RelV x v → RelV y u → wpAny (model X.prog X.w) X.A (f v u) (EP X pins σ Q) X.xe s
theorem rA_ok {X : Cx} {f : Value → Value → Sem Value} : OpR X f (rA X f) := fun pins s σ H x y v u Q I rx ry h => h pins s σ v u I rx ry
def uA (X : Cx) (f : Value → Sem Value) : V → Hp → VK → Prop := fun x H Q => ∀ pins s σ v, Inv X pins σ H s → RelV x v → wpAny (model X.prog X.w) X.A (f v) (EP X pins σ Q) X.xe s
theorem uA_ok {X : Cx} {f : Value → Sem Value} : UnR X f (uA X f) := fun pins s σ H x v Q I rx h => h pins s σ v I rx
def cA (X : Cx) (f : Value) : List V → Hp → VK → Prop := fun xs H Q => ∀ pins s σ us, Inv X pins σ H s → Vals xs us → wpAny (model X.prog X.w) X.A (call f us) (EP X pins σ Q) X.xe s
theorem cA_ok {X : Cx} {f : Value} : CallR X f (cA X f) := fun pins s σ H xs us Q I r h => h pins s σ us I r
def slA (X : Cx) : V → Option Int → Option Int → Hp → VK → Prop := fun x lo hi H Q => ∀ (pins : List (Addr × Obj)) (s : Shared) (σ : L2.St) (v vl vu : Value) (sl : Addr), Inv X pins σ H s → RelV x v → s.heap.IsSliceOf sl vl vu .none → IsPart vl lo → IsPart vu hi →
  ∃ T id, typeLookup (.type T) "__getitem__" = pure (some (.builtin id)) ∧ s.TypeIs v T ∧ wpAny (model X.prog X.w) X.A (getItem v (.ref sl)) (EP X pins σ Q) X.xe s
theorem slA_ok {X : Cx} : SlR X (slA X) := fun pins s σ H x v vl vu lo hi sl Q I rx h1 h2 h3 h => h pins s σ v vl vu sl I rx h1 h2 h3
def ixA (X : Cx) : R2 := fun x y H Q => ∀ (value slice : Expr) (pins : List (Addr × Obj)) (s : Shared) (σ : L2.St) (v u : Value), Inv X pins σ H s → RelV x v → RelV y u → subscripted slice false v u = operate [v, u] (getItem v u) → wpAny (model X.prog X.w) X.A (subscriptTail value slice v u) (EP X pins σ Q) X.xe s
theorem ixA_ok {X : Cx} : IxR X (ixA X) := fun value slice pins s σ H x y v u Q I rx ry h hs => h value slice pins s σ v u I rx ry hs
section
variable {nm : Nm} {sc : Sc} {a b d : Expr} {ea eb ed : E} {pos : Pos}
variable {X : Cx} {W : Wd} {B : Fb} {k : Nat} {c : Pr} {Wx : WX} {g : Gh} {ρ : Env} {σ : L2.St} {H : Hp} {X' : KX}
/-! ### one operand, two operands -/
theorem one_elim {o : Opd} {K : T → Prop} (h : one ρ o K) : ∃ t, rd ρ o = some t ∧ K t := by
  unfold one at h
  split at h
  · rename_i t e; exact ⟨t, e, h⟩
  · exact h.elim
theorem two_elim {o p : Opd} {K : T → T → Prop} (h : two ρ o p K) : ∃ t u, rd ρ o = some t ∧ rd ρ p = some u ∧ K t u := by
  unfold two at h
  split at h
  · rename_i t u e1 e2; exact ⟨t, u, e1, e2, h⟩
  · exact h.elim
theorem se_one (ha : SE nm sc a ea) (ok : Cok nm sc X W B k c Wx) (s : Sr W B g ρ σ H) {R : T → Env → Prop} {Q : VK} (h : wpE c ea ρ (fun o ρ1 => one ρ1 o fun x => R x ρ1) X') (hX : ∀ n fs, X' n fs → XT W B g σ Wx n fs)
    (hQ : ∀ x v g1 ρ1 H1, R x ρ1 → Ex W B σ (nw H) g ρ H g1 ρ1 H1 → RepB W g1 H1 v x → Q v H1) : EW X a σ H Q := by
  refine ha ok s h hX fun o ρ1 v g1 H1 k1 x1 r1 => ?_
  obtain ⟨t, e, q⟩ := one_elim k1
  exact hQ t v g1 ρ1 H1 q x1 (r1.rd x1.st e)
theorem se_2 (ha : SE nm sc a ea) (hb : SE nm sc b eb) (ok : Cok nm sc X W B k c Wx) (s : Sr W B g ρ σ H) {R : Opd → Opd → Env → Prop} {Q : V → V → Hp → Prop} (h : wpE c ea ρ (fun o1 ρ1 => wpE c eb ρ1 (fun o2 ρ2 => R o1 o2 ρ2) X') X') (hX : ∀ n fs, X' n fs → XT W B g σ Wx n fs)
    (hQ : ∀ o1 o2 v w g2 ρ2 H2, R o1 o2 ρ2 → Ex W B σ (nw H) g ρ H g2 ρ2 H2 → ORepL W B g2 ρ2 σ H2 H [v, w] [o1, o2] → Q v w H2) : EW X a σ H fun v H1 => EW X b σ H1 fun w H2 => Q v w H2 := by
  refine ha ok s h hX fun o1 ρ1 v g1 H1 k1 x1 r1 => ?_
  refine hb ok x1.st k1 (fun n fs y => (hX n fs y).up x1.le) fun o2 ρ2 w g2 H2 k2 x2 r2 => ?_
  have q2 : ORepL W B g2 ρ2 σ H2 H1 [w] [o2] := ORepL.cons (H1 := H2) r2 r2.nwF .nil fun a h1 h2 => by simp [freshL] at h2
  refine hQ o1 o2 v w g2 ρ2 H2 k2 (x1.trans x2) (ORepL.cons (H1 := H1) (r1.keep x1.st x2 r1.nwF) (fun a ha hn => r1.nwF a ha hn) q2 fun a ha hm => x1.none_back ha)
theorem orep2 {o1 o2 : Opd} {v w : V} {Hs : Hp} (r : ORepL W B g ρ σ H Hs [v, w] [o1, o2]) : ORep W B g ρ σ H Hs v o1 ∧ ORep W B g ρ σ H Hs w o2 := by
  obtain ⟨p, _⟩ := r
  cases p with
  | cons a p => cases p with
    | cons b p => exact ⟨a, b⟩
theorem se_2v (ha : SE nm sc a ea) (hb : SE nm sc b eb) (ok : Cok nm sc X W B k c Wx) (s : Sr W B g ρ σ H) {R : T → T → Env → Prop} {Q : V → V → Hp → Prop} (h : wpE c ea ρ (fun o1 ρ1 => wpE c eb ρ1 (fun o2 ρ2 => two ρ2 o1 o2 fun x y => R x y ρ2) X') X') (hX : ∀ n fs, X' n fs → XT W B g σ Wx n fs)
    (hQ : ∀ x y v w g2 ρ2 H2, R x y ρ2 → Ex W B σ (nw H) g ρ H g2 ρ2 H2 → RepB W g2 H2 v x → RepB W g2 H2 w y → Q v w H2) : EW X a σ H fun v H1 => EW X b σ H1 fun w H2 => Q v w H2 := by
  refine se_2 (R := fun o1 o2 ρ2 => two ρ2 o1 o2 fun x y => R x y ρ2) ha hb ok s h hX fun o1 o2 v w g2 ρ2 H2 q x r => ?_
  obtain ⟨t, u, e1, e2, q⟩ := two_elim q
  exact hQ t u v w g2 ρ2 H2 q x ((orep2 r).1.rd x.st e1) ((orep2 r).2.rd x.st e2)
/-- what an operation made, as what is wanted of the expression -/
theorem fin_new {K : KE'} {Q : VK} (hK : ∀ o ρ1 v g1 H1, K o ρ1 → Ex W B σ (nw H) g ρ H g1 ρ1 H1 → ORep W B g1 ρ1 σ H1 H v o → Q v H1) {g1 : Gh} {ρ1 : Env} {H1 H' : Hp} {t : T} {f : Bool} {v : V} (x : Ex W B σ (nw H) g ρ H g1 ρ1 H1) (n : NewR W g1 H1 H' v t f) (q : K (.val t f) ρ1) : Q v H' := by
  obtain ⟨x2, r⟩ := n.out x.st (Hs := H) fun a => x.none_back
  exact hK _ _ v g1 H' q (x.trans x2) r
theorem se_bin {op : Bop} (ha : SE nm sc a ea) (hb : SE nm sc b eb) : SE nm sc (.BinOp a (bopP op) b pos) (.bin op ea eb) := by
  intro X W B k c Wx ok g ρ σ H K X' Q s h hX hK
  unfold wpE at h
  refine ew_of (pe_op (r := rA X (binaryOp (bopP op))) rA_ok pe_ew pe_ew) (se_2v (R := fun x y ρ2 => opR op x y fun t f => K (.val t f) ρ2) ha hb ok s h hX fun x y v w g2 ρ2 H2 q x2 r1 r2 => ?_)
  exact fun pins s2 σ2 u z I rv rw => bin_ok ok.K I rv rw r1 r2 q fun t f v' H' kq n => fin_new hK x2 n kq
theorem se_neg (ha : SE nm sc a ea) : SE nm sc (.UnaryOp .USub a pos) (.neg ea) := by
  intro X W B k c Wx ok g ρ σ H K X' Q s h hX hK
  unfold wpE at h
  refine ew_of (pe_un un_neg pe_ew) (se_one (R := fun x ρ1 => match x with
    | .int i => K (.val (.int (-i)) false) ρ1
    | _ => False) ha ok s h hX fun x v g1 ρ1 H1 q x1 r => ?_)
  split at q
  · rename_i i
    cases r.int
    exact ⟨i, rfl, fin_new hK x1 (.same (.int _)) q⟩
  · exact q.elim
theorem se_inv (ha : SE nm sc a ea) : SE nm sc (.UnaryOp .Invert a pos) (.inv ea) := by
  intro X W B k c Wx ok g ρ σ H K X' Q s h hX hK
  unfold wpE at h
  refine ew_of (pe_un un_inv pe_ew) (se_one (R := fun x ρ1 => match x with
    | .int i => K (.val (.int (Builtin.bitNot i)) false) ρ1
    | _ => False) ha ok s h hX fun x v g1 ρ1 H1 q x1 r => ?_)
  split at q
  · rename_i i
    cases r.int
    exact ⟨i, rfl, fin_new hK x1 (.same (.int _)) q⟩
  · exact q.elim
/-! ### truth -/
theorem isEmpty_len {α β : Type} {xs : List α} {ys : List β} (h : xs.length = ys.length) : xs.isEmpty = ys.isEmpty := by
  cases xs <;> cases ys <;> first | rfl | cases h
theorem tru_of {t : T} {v : V} {kk : Bool} {K : PySem.W.Frag} (hK : K = W.K) (r : RepB W g H v t) (h : tru t = some kk) : TruV K v H kk := by
  subst hK
  unfold tru at h
  split at h
  · cases r.non; cases h; rfl
  · cases r.bl; cases h; rfl
  · cases r.int; cases h; rfl
  · obtain ⟨p, vs, rfl, e, q⟩ := r.lst
    cases h
    exact .inl ⟨vs, .of e, by rw [isEmpty_len q.length]⟩
  · obtain ⟨p, vs, rfl, e, q, _⟩ := r.tup
    cases h
    exact .inr (.inl ⟨vs, e, by rw [isEmpty_len q.length]⟩)
  · obtain ⟨p, vs, rfl, e, q⟩ := r.dct
    cases h
    exact .inr (.inr ⟨vs, e, by rw [isEmpty_len q.length]⟩)
  · cases h
theorem se_not (ha : SE nm sc a ea) : SE nm sc (.UnaryOp .Not a pos) (.not ea) := by
  intro X W B k c Wx ok g ρ σ H K X' Q s h hX hK
  unfold wpE at h
  refine ew_of (pe_notT pe_ew) (se_one (R := fun x ρ1 => match tru x with
    | some k => K (.val (.bl (!k)) false) ρ1
    | none => False) ha ok s h hX fun x v g1 ρ1 H1 q x1 r => ?_)
  split at q
  · rename_i kk e
    exact ⟨kk, tru_of ok.K r e, fin_new hK x1 (.same (.bl _)) q⟩
  · exact q.elim
/-- a value, tested by its truth -/
def tests (py : Expr) : Prop := ∀ env whole, isTrue py env whole = (do let v ← whole; standAt py.pos; holding [v] (truthy v))
theorem sb_val (ha : SE nm sc a ea) (ht : tests a) (he : ∀ c ρ K X', wpB c ea ρ K X' = wpE c ea ρ (fun o ρ1 => one ρ1 o fun x => match tru x with
    | some k => K k ρ1
    | none => False) X') : SB nm sc a ea := by
  intro X W B k c Wx ok g ρ σ H K X' Q s h hX hK
  rw [he] at h
  refine tw_of (pt_truth pe_ew (ht X.env)) (se_one (R := fun x ρ1 => match tru x with
    | some k => K k ρ1
    | none => False) ha ok s h hX fun x v g1 ρ1 H1 q x1 r => ?_)
  split at q
  · rename_i kk e
    exact ⟨kk, tru_of ok.K r e, hK kk ρ1 g1 H1 q x1⟩
  · exact q.elim
theorem sb_not (ha : SB nm sc a ea) : SB nm sc (.UnaryOp .Not a pos) (.not ea) := by
  intro X W B k c Wx ok g ρ σ H K X' Q s h hX hK
  unfold wpB at h
  exact tw_of (pt_not pt_tw) (ha ok s h hX fun kk ρ1 g1 H1 q x1 => hK _ ρ1 g1 H1 q x1)
end
/-- a test, whatever its whole is -/
def SBw (nm : Nm) (sc : Sc) (py : Expr) (e : E) : Prop := ∀ {X : Cx} {W : Wd} {B : Fb} {k : Nat} {c : Pr} {Wx : WX}, Cok nm sc X W B k c Wx → ∀ {g : Gh} {ρ : Env} {σ : L2.St} {H : Hp} {K : Bool → Env → Prop} {X' : KX} {Q : Bool → Hp → Prop},
  Sr W B g ρ σ H → wpB c e ρ K X' → (∀ n fs, X' n fs → XT W B g σ Wx n fs) → (∀ b ρ1 g1 H1, K b ρ1 → Ex W B σ (nw H) g ρ H g1 ρ1 H1 → Q b H1) → TW X py σ H Q
section
variable {nm : Nm} {sc : Sc} {a b d : Expr} {ea eb ed : E} {pos : Pos} {rest : List Expr}
variable {X : Cx} {W : Wd} {B : Fb} {k : Nat} {c : Pr} {Wx : WX} {g : Gh} {ρ : Env} {σ : L2.St} {H : Hp} {X' : KX}
theorem SBw.sb (h : SBw nm sc a ea) : SB nm sc a ea := by
  intro X W B k c Wx ok g ρ σ H K X' Q s w hX hK
  exact (h ok s w hX hK).v
theorem sbw_one {op : BoolOp} (ha : SB nm sc a ea) : SBw nm sc (.BoolOp op [a] pos) ea := by
  intro X W B k c Wx ok g ρ σ H K X' Q s h hX hK
  cases op with
  | And => exact tww_of (pw_and1 pt_tw) (ha ok s h hX hK)
  | Or => exact tww_of (pw_or1 pt_tw) (ha ok s h hX hK)
theorem sbw_and (ha : SB nm sc a ea) (hb : SBw nm sc (.BoolOp .And (b :: rest) pos) eb) : SBw nm sc (.BoolOp .And (a :: b :: rest) pos) (.and ea eb) := by
  intro X W B k c Wx ok g ρ σ H K X' Q s h hX hK
  unfold wpB at h
  refine tww_of (pw_and pt_tw pw_tw) (ha ok s h hX fun kk ρ1 g1 H1 q x1 => ?_)
  cases kk with
  | true => exact hb ok x1.st (q.1 rfl) (fun n fs y => (hX n fs y).up x1.le) fun k2 ρ2 g2 H2 q2 x2 => hK _ _ _ _ q2 (x1.trans x2)
  | false => exact hK _ _ _ _ (q.2 rfl) x1
theorem sbw_or (ha : SB nm sc a ea) (hb : SBw nm sc (.BoolOp .Or (b :: rest) pos) eb) : SBw nm sc (.BoolOp .Or (a :: b :: rest) pos) (.or ea eb) := by
  intro X W B k c Wx ok g ρ σ H K X' Q s h hX hK
  unfold wpB at h
  refine tww_of (pw_or pt_tw pw_tw) (ha ok s h hX fun kk ρ1 g1 H1 q x1 => ?_)
  cases kk with
  | false => exact hb ok x1.st (q.2 rfl) (fun n fs y => (hX n fs y).up x1.le) fun k2 ρ2 g2 H2 q2 x2 => hK _ _ _ _ q2 (x1.trans x2)
  | true => exact hK _ _ _ _ (q.1 rfl) x1
theorem ORep.hs {o : Opd} {v : V} {Hs Hs' : Hp} (r : ORep W B g ρ σ H Hs v o) (h : ∀ a, Hs a = none → Hs' a = none) : ORep W B g ρ σ H Hs' v o := by
  cases o with
  | slot i => exact r
  | val t f =>
    cases f with
    | false => exact r
    | true => obtain ⟨a, e, n, w, h0, na, z⟩ := r; exact ⟨a, e, n, w, h0, na, h a z⟩
theorem se_1 {op : BoolOp} (ha : SE nm sc a ea) : SE nm sc (.BoolOp op [a] pos) ea := by
  intro X W B k c Wx ok g ρ σ H K X' Q s h hX hK
  exact ew_of (pe_one pe_ew) (ha ok s h hX hK)
theorem se_and (ha : SE nm sc a ea) (hb : SE nm sc (.BoolOp .And (b :: rest) pos) eb) : SE nm sc (.BoolOp .And (a :: b :: rest) pos) (.and ea eb) := by
  intro X W B k c Wx ok g ρ σ H K X' Q s h hX hK
  unfold wpE at h
  refine ew_of (pe_andT pe_ew pe_ew) (ha ok s h hX fun o ρ1 v g1 H1 q x1 r => ?_)
  obtain ⟨t, e, kk, ek, qt, qf⟩ := one_elim q
  refine ⟨kk, tru_of ok.K (r.rd x1.st e) ek, ?_⟩
  cases kk with
  | true => exact hb ok x1.st (qt rfl) (fun n fs y => (hX n fs y).up x1.le) fun o2 ρ2 v2 g2 H2 q2 x2 r2 => hK _ _ _ _ _ q2 (x1.trans x2) (ORep.hs r2 fun a => x1.none_back)
  | false => exact hK _ _ _ _ _ (qf rfl) x1 r
theorem se_or (ha : SE nm sc a ea) (hb : SE nm sc (.BoolOp .Or (b :: rest) pos) eb) : SE nm sc (.BoolOp .Or (a :: b :: rest) pos) (.or ea eb) := by
  intro X W B k c Wx ok g ρ σ H K X' Q s h hX hK
  unfold wpE at h
  refine ew_of (pe_orT pe_ew pe_ew) (ha ok s h hX fun o ρ1 v g1 H1 q x1 r => ?_)
  obtain ⟨t, e, kk, ek, qt, qf⟩ := one_elim q
  refine ⟨kk, tru_of ok.K (r.rd x1.st e) ek, ?_⟩
  cases kk with
  | false => exact hb ok x1.st (qf rfl) (fun n fs y => (hX n fs y).up x1.le) fun o2 ρ2 v2 g2 H2 q2 x2 r2 => hK _ _ _ _ _ q2 (x1.trans x2) (ORep.hs r2 fun a => x1.none_back)
  | true => exact hK _ _ _ _ _ (qt rfl) x1 r
theorem se_ite (hd : SB nm sc d ed) (ha : SE nm sc a ea) (hb : SE nm sc b eb) : SE nm sc (.IfExp d a b pos) (.ite ed ea eb) := by
  intro X W B k c Wx ok g ρ σ H K X' Q s h hX hK
  unfold wpE at h
  refine ew_of (pe_ifExp pt_tw pe_ew pe_ew) (hd ok s h hX fun kk ρ1 g1 H1 q x1 => ?_)
  cases kk with
  | true => exact ha ok x1.st (q.1 rfl) (fun n fs y => (hX n fs y).up x1.le) fun o2 ρ2 v2 g2 H2 q2 x2 r2 => hK _ _ _ _ _ q2 (x1.trans x2) (ORep.hs r2 fun a => x1.none_back)
  | false => exact hb ok x1.st (q.2 rfl) (fun n fs y => (hX n fs y).up x1.le) fun o2 ρ2 v2 g2 H2 q2 x2 r2 => hK _ _ _ _ _ q2 (x1.trans x2) (ORep.hs r2 fun a => x1.none_back)
/-! ### subscripts -/
theorem atI_map {f : V → T → Prop} {vs : List V} {ts : List T} (r : RepL W g H vs ts) {i : Int} {t : T} (h : L2.atI ts i = some t) : ∃ v, L2.atI vs i = some v ∧ Rep W g H v t := by
  unfold L2.atI at h ⊢
  rw [r.length]
  cases e : L2.ixN ts.length i with
  | none => rw [e] at h; cases h
  | some j =>
    rw [e] at h
    exact r.get h
theorem key_rel {K : Key} {t : T} {v : V} (e : keyT t = some K) (r : RepB W g H v t) : v = kV K := by
  unfold keyT at e
  split at e
  · cases e; cases r.int; rfl
  · cases e; cases r.str; rfl
  · cases e
theorem dget_of {K : Key} {t : T} {v : V} {p : Addr} {vs : List (Key × V)} (e : keyT t = some K) (r : RepB W g H v t) (h : H p = some (.dK vs)) : DGet H p v (valV vs K) := by
  rw [key_rel e r]
  exact .k h
theorem valV_of {vs : List (Key × V)} {kts : List (Key × T)} (r : RepK W g H vs kts) {K : Key} {t : T} (e : dlook kts K = some t) : ∃ v, valV vs K = some v ∧ Rep W g H v t := r.look.1 t e
/-- an index that is no slice -/
def plainIx : Expr → Bool
  | .Slice _ _ _ _ => false
  | .Tuple _ _ _ => false
  | .Starred _ _ => false
  | _ => true
theorem plainIx_ok {e : Expr} (h : plainIx e = true) : PlainIx e := by
  cases e <;> first | (intro o i; rfl) | cases h
theorem ix_dct {X : Cx} {pins : List (Addr × Obj)} {σ : L2.St} {H : Hp} {s : Shared} {p : Addr} {y x : V} {u : Value} {value slice : Expr} {Q : VK} (hu : X.A.units + 1 < cLine) (I : Inv X pins σ H s) (gt : DGet H p y (some x)) (ry : RelV y u)
    (hs : subscripted slice false (.ref p) u = operate [.ref p, u] (getItem (.ref p) u)) (q : Q x H) : wpAny (model X.prog X.w) X.A (subscriptTail value slice (.ref p) u) (EP X pins σ Q) X.xe s := by
  have hT := dict_typeIs I gt
  have h2 := d_getItem (E := X.xe) (Q := EP X pins σ Q) hu I gt ry fun w' s' I' r' => ⟨x, H, I', r', q⟩
  unfold subscriptTail
  refine wpAny_bind ?_
  rw [getitemInPython_of_ne hT.not_modules]
  refine wpAny_bind (wpAny_specialOf hT (show typeLookup (.type "dict") "__getitem__" = pure (some (.builtin "dict.__getitem__")) by rfl) ?_)
  have fin : wpAny (model X.prog X.w) X.A (subscripted slice false (.ref p) u) (fun r s₃ => wpAny (model X.prog X.w) X.A (letTemporaryGo value (.ref p) r >>= fun _ => pure r) (EP X pins σ Q) X.xe s₃) X.xe s := by
    rw [hs]
    exact wpAny_operating (wpAny_mono h2 (fun r s₃ h₃ => wpAny_bind (wpAny_letTemporaryGo (wpAny_pure h₃))) fun _ _ x => x)
  first
    | exact wpAny_pure (wpAny_bind fin)
    | exact wpAny_bind (wpAny_pure (wpAny_bind fin))
    | exact wpAny_bind fin
theorem Cok.un (ok : Cok nm sc X W B k c Wx) : X.A.units + 1 < cLine := hu_of ok.room
theorem se_ix (hp : plainIx b = true) (ha : SE nm sc a ea) (hb : SE nm sc b eb) : SE nm sc (.Subscript a b pos) (.ix ea eb) := by
  intro X W B k c Wx ok g ρ σ H K X' Q s h hX hK
  unfold wpE at h
  refine ew_of (pe_ix ixA_ok pe_ew pe_ew (plainIx_ok hp)) (se_2v (R := fun x y ρ2 => ixR x y fun t => K (.val t false) ρ2) ha hb ok s h hX fun x y v w g2 ρ2 H2 q x2 r1 r2 => ?_)
  intro value slice pins s2 σ2 u z I rv rw hs
  unfold ixR at q
  split at q
  · obtain ⟨p, vs, rfl, e, rl⟩ := r1.lst
    cases r2.int
    obtain ⟨t, et, kt⟩ := q
    obtain ⟨y, ey, ry⟩ := atI_map (f := fun _ _ => True) rl et
    exact ix_list value slice pins s2 σ2 H2 _ _ _ _ _ I rv rw ⟨p, vs, _, y, rfl, rfl, .of e, ey, fin_new hK x2 (.same ry) kt⟩ hs
  · obtain ⟨p, vs, rfl, e, rl, _⟩ := r1.tup
    cases r2.int
    obtain ⟨t, et, kt⟩ := q
    obtain ⟨y, ey, ry⟩ := atI_map (f := fun _ _ => True) rl et
    exact ix_tup value slice pins s2 σ2 H2 _ _ _ _ _ I rv rw ⟨p, vs, _, y, rfl, rfl, by rw [ok.K]; exact e, ey, fin_new hK x2 (.same ry) kt⟩ hs
  · split at q
    · rename_i ky ek
      obtain ⟨p, vs, rfl, e, rl⟩ := r1.dct
      obtain ⟨t, et, kt⟩ := q
      obtain ⟨y, ey, ry⟩ := valV_of rl et
      cases rv
      have gt := dget_of ek r2 e
      rw [ey] at gt
      exact ix_dct ok.un I gt rw hs (fin_new hK x2 (.same ry) kt)
    · exact q.elim
  · exact q.elim
/-! ### slices -/
/-- the parts of a slice -/
def SO (nm : Nm) (sc : Sc) (py : Option Expr) (e : Eo) : Prop := (py = none ∧ e = .none) ∨ ∃ p q, py = some p ∧ e = .some q ∧ SE nm sc p q
def OW (X : Cx) (e : Option Expr) (σ : L2.St) (H : Hp) (Q : Option Int → Hp → Prop) : Prop := ∀ pins s, Inv X pins σ H s → wpAny (model X.prog X.w) X.A (evalPart e X.env) (fun u s' => ∃ o H', Inv X pins σ H' s' ∧ IsPart u o ∧ Q o H') X.xe s
theorem po_ow {e : Option Expr} : PO X e (OW X e) := ⟨fun pins s σ H Q I h => h pins s I⟩
theorem ow_of {e : Option Expr} {t : TO} (h : PO X e t) {Q : Option Int → Hp → Prop} (q : t σ H Q) : OW X e σ H Q := fun pins s I => h.run pins s σ H Q I q
theorem so_ok {py : Option Expr} {e : Eo} (h : SO nm sc py e) (ok : Cok nm sc X W B k c Wx) (s : Sr W B g ρ σ H) {K : Option Int → Env → Prop} {Q : Option Int → Hp → Prop} (w : wpEo c e ρ K X') (hX : ∀ n fs, X' n fs → XT W B g σ Wx n fs)
    (hK : ∀ o ρ1 g1 H1, K o ρ1 → Ex W B σ (nw H) g ρ H g1 ρ1 H1 → Q o H1) : OW X py σ H Q := by
  rcases h with ⟨rfl, rfl⟩ | ⟨p, q, rfl, rfl, hq⟩
  · unfold wpEo at w
    exact ow_of po_none (hK _ _ _ _ w (.refl s))
  · unfold wpEo at w
    refine ow_of (po_some pe_ew) (se_one (R := fun x ρ1 => match x with
      | .int i => K (some i) ρ1
      | _ => False) hq ok s w hX fun x v g1 ρ1 H1 q x1 r => ?_)
    split at q
    · cases r.int
      exact ⟨_, rfl, hK _ _ _ _ q x1⟩
    · exact q.elim
theorem cut_rep {vs : List V} {ts : List T} (r : RepL W g H vs ts) (lo hi : Option Int) : RepL W g H (cutV vs lo hi) (cutT ts lo hi) := by
  unfold cutV cutT
  rw [r.length]
  exact (r.drop _).take _
theorem se_sl {lo hi : Option Expr} {el eh : Eo} {p2 : Pos} (ha : SE nm sc a ea) (hl : SO nm sc lo el) (hh : SO nm sc hi eh) : SE nm sc (.Subscript a (.Slice lo hi none p2) pos) (.sl ea el eh) := by
  intro X W B k c Wx ok g ρ σ H K X' Q s h hX hK
  unfold wpE at h
  refine ew_of (pe_slice slA_ok pe_ew po_ow po_ow) (ha ok s h hX fun o ρ1 v g1 H1 k1 x1 r1 => ?_)
  refine so_ok hl ok x1.st k1 (fun n fs y => (hX n fs y).up x1.le) fun l ρ2 g2 H2 k2 x2 => ?_
  refine so_ok hh ok x2.st k2 (fun n fs y => (hX n fs y).up (x1.trans x2).le) fun u ρ3 g3 H3 k3 x3 => ?_
  obtain ⟨t, et, q⟩ := one_elim k3
  have x := (x1.trans x2).trans x3
  have r := (have r2 := ORep.keep x1.st x2 r1 (ORep.nwF r1); ORep.keep x2.st x3 r2 (ORep.nwF r2)).rd x3.st et
  intro pins s2 σ2 u2 vl vu sl I rv h1 h2 h3
  unfold slR at q
  split at q
  · obtain ⟨p, vs, rfl, e, rl⟩ := r.lst
    exact sl_list pins s2 σ2 H3 _ _ _ _ _ _ _ _ I rv h1 h2 h3 ⟨p, vs, rfl, .of e, fun p' hp => fin_new hK x (.lst hp (cut_rep rl _ _)) q⟩
  · obtain ⟨p, vs, rfl, e, rl, te⟩ := r.tup
    refine sl_tupA pins s2 σ2 H3 _ _ _ _ _ _ _ _ I rv h1 h2 h3 ⟨p, vs, rfl, by rw [ok.K]; exact e, fun hw => ?_, fun hw p' hp => fin_new hK x (.tup hp (cut_rep rl _ _)) q⟩
    rename_i ts
    have ec : cutT ts l u = ts := by
      unfold cutT
      rw [rl.length] at hw
      rw [hw.1, hw.2]
      simp
    rw [ec] at q
    exact fin_new hK x (.same (.tup te rl)) q
  · exact q.elim
theorem se_rev {kk : Nat} {p1 p2 p3 : Pos} (ha : SE nm sc a ea) : SE nm sc (.Subscript a (.Slice none none (some (.UnaryOp .USub (.Constant (.int 1) kk p1) p2)) p3) pos) (.rev ea) := by
  intro X W B k c Wx ok g ρ σ H K X' Q s h hX hK
  unfold wpE at h
  refine ew_of (pe_revL pe_ew) (se_one (R := fun x ρ1 => revR x fun t f => K (.val t f) ρ1) ha ok s h hX fun x v g1 ρ1 H1 q x1 r => ?_)
  unfold revR at q
  split at q
  · obtain ⟨p, vs, rfl, e, rl⟩ := r.lst
    exact ⟨p, vs, rfl, .of e, fun p' hp => fin_new hK x1 (.lst hp rl.reverse) q⟩
  · exact q.elim
theorem se_fld {f : Str} (hf : f ∈ nm.flds) (hb : ∀ env, attributeBase a f env (eval a env) = eval a env) (ha : SE nm sc a ea) : SE nm sc (.Attribute a f pos) (.fld ea f) := by
  intro X W B k c Wx ok g ρ σ H K X' Q s h hX hK
  unfold wpE at h
  refine ew_of (pe_fld pe_ew (hb _)) (se_one (R := fun x ρ1 => match x with
    | .ins _ fs => (match fs.lookup f with
      | some t => K (.val t false) ρ1
      | none => False)
    | _ => False) ha ok s h hX fun x v g1 ρ1 H1 q x1 r => ?_)
  split at q
  · rename_i n fs
    split at q
    · rename_i t et
      obtain ⟨m, p, dx, vs, rfl, e, rl⟩ := r.ins
      obtain ⟨y, ey, ry⟩ := rl.lookup et
      have F := ok.pf.okc n m
      exact ⟨p, W.CA n, dx, vs, y, rfl, e, by rw [ok.K]; exact F.cls, by rw [ok.K]; exact F.nat f hf, ey, fin_new hK x1 (.same ry) q⟩
    · exact q.elim
  · exact q.elim
end
end Zl

set_option Elab.async false
set_option linter.all false
set_option maxRecDepth 100000
set_option maxHeartbeats 4000000
/-! Z10: calls. -/
namespace Zl
open PySem PySem.Spec PyProof.Rows L2
section
variable {W : Wd} {B : Fb} {σ : L2.St} {g g' : Gh} {ρ ρ' : Env} {H H' H1 Hs : Hp} {S' IO : Addr → Prop}
theorem not_notTbl {o : HO} (h : ¬ notTbl o) : ∃ ps, o = .tbl ps := Classical.byContradiction fun z => h fun ps e => z ⟨ps, e⟩
theorem imm_notTbl {o : HO} (h : imm o) : notTbl o := fun ps e => by subst e; exact h
theorem Sr.h0none (s : Sr W B g ρ σ H) {p : Addr} (hp : H p = none) : B.H0 p = none := by
  cases e : B.H0 p with
  | none => rfl
  | some u =>
    exfalso
    by_cases io : B.IO p
    · obtain ⟨w, e'⟩ := s.sh.io p io
      rw [hp] at e'; cases e'
    · by_cases tb : notTbl u
      · have := s.sh.fr p u e io tb
        rw [hp] at this; cases this
      · obtain ⟨ps, rfl⟩ := not_notTbl tb
        obtain ⟨ps', e'⟩ := s.sh.tk p ps e
        rw [hp] at e'; cases e'
theorem Bk.there (b : Bk B.tab g.S IO H1 S' H') {a : Addr} {o : HO} (h : H1 a = some o) : ∃ o', H' a = some o' := by
  by_cases io : IO a
  · exact b.iok a io
  · by_cases t : notTbl o
    · exact ⟨o, b.keep a o h io t⟩
    · obtain ⟨ps, rfl⟩ := not_notTbl t
      obtain ⟨ps', e⟩ := b.tbk a ps h
      exact ⟨_, e⟩
theorem Sh.called (s : Sr W B g ρ σ H) (k1 : ∀ a o, H a = some o → H1 a = some o) (b : Bk B.tab g.S IO H1 S' H') (hIO : ∀ a, IO a → H a = none ∨ OwAt ρ σ a) : Sh B ⟨S', g.Γ⟩ H' where
  fr := fun a o h n t => by
    have h1 := s.sh.fr a o h n t
    refine b.keep a o (k1 a o h1) (fun io => ?_) t
    rcases hIO a io with z | z
    · rw [z] at h1; cases h1
    · rcases (s.owa z).2.2 with q | q
      · rw [q] at h; cases h
      · exact n q
  sd := b.dom
  ns := fun a h => by
    rcases b.news a h with q | q
    · exact s.sh.ns a q
    · refine .inr (s.h0none ?_)
      cases e : H a with
      | none => rfl
      | some o => rw [k1 a o e] at q; cases q
  tb := b.tb
  tk := fun a ps h => by
    obtain ⟨p1, h1⟩ := s.sh.tk a ps h
    exact b.tbk a p1 (k1 _ _ h1)
  io := fun a h => by
    obtain ⟨o, e⟩ := s.sh.io a h
    exact b.there (k1 _ _ e)
theorem Bk.kp (s : Sr W B g ρ σ H) (k1 : ∀ a o, H a = some o → H1 a = some o) (b : Bk B.tab g.S IO H1 S' H') (hIO : ∀ a, IO a → H a = none ∨ OwAt ρ σ a) : Keep g H ⟨S', g.Γ⟩ H' :=
  ⟨⟨b.sub, fun _ h => h⟩, fun a o h i => by
    have ht : notTbl o := by
      rcases i with i | i
      · obtain ⟨o', e, t⟩ := s.sh.sd a i
        rw [h] at e; cases e; exact t
      · exact imm_notTbl i
    refine b.keep a o (k1 a o h) (fun io => ?_) ht
    rcases hIO a io with z | z
    · rw [z] at h; cases h
    · obtain ⟨n, ⟨o', e, ni, _⟩, _⟩ := s.owa z
      rw [h] at e; cases e
      rcases i with i | i
      · exact n i
      · exact ni i⟩
theorem Bk.held (s : Sr W B g ρ σ H) (k1 : ∀ a o, H a = some o → H1 a = some o) (b : Bk B.tab g.S IO H1 S' H') {a : Addr} (ow : OwAt ρ σ a) (n : ¬ IO a) : ¬ S' a ∧ ∀ u, H a = some u → H' a = some u := by
  obtain ⟨ns, ⟨o, e, ni, t⟩, _⟩ := s.owa ow
  refine ⟨fun z => ?_, fun u h => ?_⟩
  · rcases b.news a z with q | q
    · exact ns q
    · rw [k1 a o e] at q; cases q
  · rw [h] at e; cases e
    exact b.keep a _ (k1 _ _ h) n t
theorem Ex.called (s : Sr W B g ρ σ H) (k1 : ∀ a o, H a = some o → H1 a = some o) (b : Bk B.tab g.S IO H1 S' H') (hIO : ∀ a, IO a → H a = none) : Ex W B σ (nw H) g ρ H ⟨S', g.Γ⟩ ρ H' := by
  have hIO' : ∀ a, IO a → H a = none ∨ OwAt ρ σ a := fun a h => .inl (hIO a h)
  have kp := b.kp s k1 hIO'
  have nio : ∀ {a o}, H a = some o → ¬ IO a := fun h io => by rw [hIO _ io] at h; cases h
  refine ⟨⟨s.len, Sh.called s k1 b hIO', fun i t h => ?_, s.ds, s.cg⟩, kp.le, fun a h => ?_, fun a o h _ t => b.keep a o (k1 a o h) (nio h) t, fun _ h => h, fun _ _ h => h, fun a ps h => b.tbk a ps (k1 _ _ h), fun a h => ?_⟩
  · refine (s.sl i t h).keep kp fun a e hd => ?_
    have ow : OwAt ρ σ a := ⟨i, ⟨t, h, hd⟩, e⟩
    obtain ⟨o, eo⟩ := s.some_at ow
    exact b.held s k1 ow (nio eo)
  · rcases b.news a h with q | q
    · exact .inl q
    · refine .inr (.inl ?_)
      show H a = none
      cases e : H a with
      | none => rfl
      | some o => rw [k1 a o e] at q; cases q
  · obtain ⟨o, eo⟩ := s.some_at h
    exact b.there (k1 _ _ eo)
theorem Ex.calledIO (s : Sr W B g ρ σ H) (b : Bk B.tab g.S IO H S' H') {i : Nat} {s0 s1 : Slot} (h : ρ[i]? = some s0) (hIO : ∀ a, IO a → OwI ρ σ i a) (new : SlotR W B ⟨S', g.Γ⟩ H' (σ[i]?) s1) (hh : s1.held = true → s0.held = true) (lk : ∀ t, s0 ≠ .lk t) : Ex W B σ (nw H) g ρ H ⟨S', g.Γ⟩ (ρ.set i s1) H' := by
  have k1 : ∀ a o, H a = some o → H a = some o := fun _ _ h => h
  have hIO' : ∀ a, IO a → H a = none ∨ OwAt ρ σ a := fun a h => .inr ⟨i, hIO a h⟩
  have kp := b.kp s k1 hIO'
  have ow1 : ∀ {j a}, OwI (ρ.set i s1) σ j a → OwI ρ σ j a := fun {j a} ⟨⟨u, h1, h2⟩, h3⟩ => by
    rcases get_set_some h1 with ⟨e, e2, _⟩ | ⟨e, h1⟩
    · subst e; subst e2; exact ⟨⟨s0, h, hh h2⟩, h3⟩
    · exact ⟨⟨u, h1, h2⟩, h3⟩
  refine ⟨⟨by rw [List.length_set]; exact s.len, Sh.called s k1 b hIO', fun j t hj => ?_, fun j j' a ne x y => s.ds j j' a ne (ow1 x) (ow1 y), fun p hp => ?_⟩, kp.le, fun a h => (b.news a h).elim .inl fun z => .inr (.inl z), fun a o h n t => b.keep a o h (fun io => n ⟨i, hIO a io⟩) t, fun a ⟨j, x⟩ => ⟨j, ow1 x⟩, fun j t hj => ?_, b.tbk, fun a h => ?_⟩
  · rcases get_set_some hj with ⟨e, e2, _⟩ | ⟨e, hj⟩
    · subst e; subst e2; exact new
    · refine (s.sl j t hj).keep kp fun a e' hd => ?_
      exact b.held s k1 ⟨j, ⟨t, hj, hd⟩, e'⟩ fun io => s.ds j i a e ⟨⟨t, hj, hd⟩, e'⟩ (hIO a io)
  · rcases s.cg p hp with q | ⟨l, j, x, t, h1, h2, h3, h4⟩
    · exact .inl q
    · refine .inr ⟨l, j, x, t, h1, h2, h3, ?_⟩
      rw [get_set_ne (fun e => by subst e; rw [h] at h4; cases h4; exact lk t rfl)]
      exact h4
  · rw [get_set_ne (fun e => by subst e; rw [h] at hj; cases hj; exact lk t rfl)]
    exact hj
  · obtain ⟨o, eo⟩ := s.some_at h
    exact b.there eo
end
/-! ### the cells that a callee knows -/
theorem make_guards {A : Around} {C : Addr} {us : List Value} {kw : List (Str × Value)} (h : A.guards = some []) : (A.under (.builtin "type.__call__" ⟨.ref C :: us, kw⟩)).guards = some [] := by
  unfold Around.under
  dsimp only
  rw [show (Code.builtin "type.__call__" ⟨.ref C :: us, kw⟩).guards = [] by rfl, h]
  rfl
section
variable {nm : Nm} {sc : Sc} {X : Cx} {W : Wd} {B : Fb} {k : Nat} {c : Pr} {Wx : WX} {g : Gh} {ρ : Env} {σ : L2.St} {H : Hp} {X' : KX} {pins : List (Addr × Obj)} {s2 : Shared}
theorem frs_stack (hs : X.stack = X.outer ∨ (X.stack = X.env :: X.outer ∧ X.env.frame = some X.env.locals)) {b : Addr} (h : b ∈ frs X.stack) : b = X.env.locals ∨ b ∈ X.fs := by
  rcases hs with e | ⟨e, f⟩
  · rw [e] at h; exact .inr h
  · rw [e] at h
    unfold frs at h
    rw [List.filterMap_cons, f] at h
    rcases List.mem_cons.mp h with z | z
    · exact .inl z
    · exact .inr z
theorem cells_at (ok : Cok nm sc X W B k c Wx) (s : Sr W B g ρ σ H) (I : Inv X pins σ H s2) : ∀ p, p ∈ g.Γ → ∃ u, s2.heap.IsCell p.1 (some u) ∧ RelV p.2 u ∧ H p.1 = none ∧ p.1 ∉ frs X.stack := by
  intro p hp
  rcases s.cg p hp with q | ⟨hl, i, x, t, h1, h2, h3, h4⟩
  · obtain ⟨u, ⟨o, ho, hd⟩, r⟩ := ok.c0 p q
    refine ⟨u, ⟨o, I.bk _ _ ho, hd⟩, r, (I.bs _ _ ho).2, fun z => ?_⟩
    rcases frs_stack I.ok.stk z with e | e
    · have h1 := I.ok.above
      have h2 := PySem.Heap.lt_size (I.ok.bs _ _ ho).1
      rw [← e] at h1
      exact absurd h2 (Nat.not_lt.mpr h1)
    · exact I.ok.nofr ho e
  · rw [ok.bc hl] at h2
    obtain ⟨m, _, hm⟩ := I.loc
    have hN : X.N[i]? = some x := by rw [ok.N, ← ok.bN]; exact h1
    have hk := ok.cellK hl x p.1 h2
    obtain ⟨u, ru, lk⟩ := hm i x p.2 hN h3 (hk.elim (fun z => .inr (.inl z)) fun z => .inr (.inr z))
    rcases lk with ⟨e, _⟩ | ⟨_, c', e, hc⟩
    · rcases hk with z | z <;> rw [e] at z <;> cases z
    · rw [h2] at e; cases e
      refine ⟨u, hc, ru, I.freeC x p.1 h2, fun z => ?_⟩
      rcases frs_stack I.ok.stk z with e | e
      · exact I.cne x p.1 h2 e
      · exact ok.cellF hl x p.1 h2 e
/-- a ground that knows the cells too -/
theorem base_at (ok : Cok nm sc X W B k c Wx) (I : Inv X pins σ H s2) {Γ : List (Addr × V)} (h : ∀ p, p ∈ Γ → ∃ u, s2.heap.IsCell p.1 (some u) ∧ RelV p.2 u ∧ H p.1 = none ∧ p.1 ∉ frs X.stack) : ∃ base, Env0 X.prog X.w X.K X.mg base X.A X.stack s2 H ∧ BaseOk W.tbs X.mg base ∧ CellsIn Γ base := by
  classical
  let L : List Addr := (List.range s2.heap.objs.size).filter fun b => decide (X.base.get? b = none ∧ ∀ p ∈ Γ, p.1 ≠ b)
  have inL : ∀ {b : Addr}, b ∈ L → X.base.get? b = none ∧ ∀ p ∈ Γ, p.1 ≠ b := fun hb => of_decide_eq_true (List.mem_filter.mp hb).2
  have get : ∀ {b : Addr} {o : Obj}, s2.heap.get? b = some o → ((∃ o', X.base.get? b = some o') ∨ ∃ p ∈ Γ, p.1 = b) → (PySem.W.hideAll s2.heap L).get? b = some o := fun {b o} e hh => PySem.W.hideAll_get L e fun hm => by
    obtain ⟨a, c⟩ := inL hm
    rcases hh with ⟨o', q⟩ | ⟨p, hp, q⟩
    · rw [a] at q; cases q
    · exact c p hp q
  have un : ∀ {b : Addr} {o : Obj}, (PySem.W.hideAll s2.heap L).get? b = some o → s2.heap.get? b = some o ∧ ((∃ o', X.base.get? b = some o') ∨ ∃ p ∈ Γ, p.1 = b) := fun {b o} e => by
    have e' := PySem.W.of_hideAll L e
    refine ⟨e', Classical.byContradiction fun n => ?_⟩
    have hm : b ∈ L := List.mem_filter.mpr ⟨List.mem_range.mpr (PySem.Heap.lt_size e'), decide_eq_true ⟨by
      cases q : X.base.get? b with
      | none => rfl
      | some o' => exact absurd (.inl ⟨o', q⟩) n, fun p hp q => n (.inr ⟨p, hp, q⟩)⟩⟩
    rw [PySem.W.hideAll_none L hm] at e; cases e
  have keep : ∀ b o, X.base.get? b = some o → (PySem.W.hideAll s2.heap L).get? b = some o := fun b o e => get (I.bk b o e) (.inl ⟨o, e⟩)
  have hfr : ∀ b ∈ frs X.stack, (PySem.W.hideAll s2.heap L).get? b = none := fun b hb => by
    cases q : (PySem.W.hideAll s2.heap L).get? b with
    | none => rfl
    | some o =>
      exfalso
      rcases (un q).2 with ⟨o', e⟩ | ⟨p, hp, e⟩
      · rcases frs_stack I.ok.stk hb with z | z
        · have h1 := I.ok.above
          have h2 := PySem.Heap.lt_size (I.ok.bs _ _ e).1
          rw [← z] at h1
          exact absurd h2 (Nat.not_lt.mpr h1)
        · exact I.ok.nofr e z
      · subst e
        obtain ⟨_, _, _, _, n⟩ := h p hp
        exact n hb
  refine ⟨PySem.W.hideAll s2.heap L, ⟨I.ok.frames, ⟨I.ok.mod.kin.keeps keep, I.ok.mod.glob.keeps keep, ?_, I.ok.mod.nolimit.keeps keep⟩, fun b o e => ⟨(un e).1, ?_⟩, by rw [PySem.W.hideAll_size]; exact Nat.le_refl _, funFrames_none I.stack hfr, I.stkFree, I.hok, I.bare⟩, ?_, fun p hp => ?_⟩
  · obtain ⟨mb, h1, h2⟩ := I.ok.mod.blt
    exact ⟨mb, h1.keeps keep, h2⟩
  · rcases (un e).2 with ⟨o', q⟩ | ⟨p, hp, q⟩
    · exact (I.bs b o' q).2
    · subst q
      obtain ⟨_, _, _, n, _⟩ := h p hp
      exact n
  · obtain ⟨⟨o, e⟩, tb⟩ := ok.bo
    exact ⟨⟨o, keep _ _ e⟩, fun p hp => ⟨(tb p hp).code.keeps keep, (tb p hp).bm.keeps keep, (tb p hp).gP⟩⟩
  · obtain ⟨u, ⟨o, ho, hd⟩, r, _, _⟩ := h p hp
    exact ⟨u, ⟨o, get ho (.inr ⟨p, hp, rfl⟩), hd⟩, r⟩
end
end Zl

set_option Elab.async false
set_option linter.all false
set_option maxRecDepth 100000
set_option maxHeartbeats 4000000
/-! Z11: the calls of defs, of classes. -/
namespace Zl
open PySem PySem.Spec PyProof.Rows L2
section
variable {nm : Nm} {sc : Sc} {X : Cx} {W : Wd} {B : Fb} {k : Nat} {c : Pr} {Wx : WX} {g : Gh} {ρ : Env} {σ : L2.St} {H : Hp} {X' : KX} {pins : List (Addr × Obj)} {s2 : Shared}
/-- a def of the text runs -/
theorem run_g (ok : Cok nm sc X W B k c Wx) (I : Inv X pins σ H s2) {f : Str} {sl : List Slot} {Kr : KR} {S IO : Addr → Prop} {Γ : List (Addr × V)} {tab : List (Addr × Str)} (et : tab = B.tab) (h : c.call f sl Kr X') {vs : List V} {us : List Value} (r : Vals vs us) {Q : VK}
    (hc : ∀ p, p ∈ Γ → ∃ u, s2.heap.IsCell p.1 (some u) ∧ RelV p.2 u ∧ H p.1 = none ∧ p.1 ∉ frs X.stack) (ha : Paired (ArgR W ⟨S, Γ⟩ H IO) vs sl) (h0 : ∀ i s, sl[i]? = some s → s.held = true → i = 0) (hIO : ∀ a, IO a → ∃ s, sl[0]? = some s ∧ s.held = true ∧ vs[0]? = some (.ref a)) (hS : ∀ a, S a → ∃ o, H a = some o ∧ notTbl o) (hT : LamX.Tabs B.tab H)
    (hK : ∀ t fr io v S' H', Kr t fr io → Bk B.tab S IO H S' H' → RetR W ⟨S', Γ⟩ H' H IO v t fr → IoR W ⟨S', Γ⟩ H' vs[0]? sl[0]? io → Q v H')
    (hX : ∀ n fs S' H' d xs, X' n fs → Bk B.tab S IO H S' H' → H' d = some (.xd xs) → RepX W ⟨S', Γ⟩ H' xs fs → Wx (.ref (W.CA n)) (some d) σ H') :
    wpAny (model X.prog X.w) X.A (call (.ref (W.FA f)) us) (EP X pins σ Q) X.xe s2 := by
  subst et
  obtain ⟨fd, ps, hb, F⟩ := ok.pf.fn f sl Kr X' h
  have hsp : spT W B.tab (c.call f) Γ vs H Q (fun cl d H' => Wx cl d σ H') := ⟨S, IO, sl, ha, h0, hIO, hS, hT, ok.pf.mono (fun t fr io q v S' H' b rr ii => hK t fr io v S' H' q b rr ii) (fun n fs q S' H' d xs b e x => hX n fs S' H' d xs q b e x) h⟩
  have hl : us.length = ps.length := by rw [← r.length]; exact F.len Γ _ _ _ _ hsp
  obtain ⟨base, e0, bo, ci⟩ := base_at ok I hc
  rw [ok.K] at e0
  have b0 := hb s2 us (by rw [← ok.K]; exact I.kIn) (by rw [List.append_nil]; exact hl)
  rw [List.append_nil] at b0
  refine wpAny_call (codeAny_mono (F.run base X.A X.stack s2 H ⟨us, []⟩ us vs Q _ Γ (ok.room.mono (Nat.le_succ k)) ok.gd e0 bo ci b0 r hsp) fun r s' hq => ?_)
  cases r with
  | error e => exact ok.tk e s' (XE.of_call I (fun _ _ _ q => q) hq)
  | ok fl =>
    cases fl with
    | ret u => exact I.after hq
    | next => exact False.elim hq
    | brk => exact False.elim hq
    | cont => exact False.elim hq
/-- .. of values that nobody writes any more -/
theorem paired_sh {S IO : Addr → Prop} : ∀ {vs : List V} {ts : List T}, RepL W ⟨S, g.Γ⟩ H vs ts → Paired (ArgR W ⟨S, g.Γ⟩ H IO) vs (ts.map .sh)
  | _, _, .nil => .nil
  | _, _, .cons r rs => .cons r (paired_sh rs)
theorem held_sh {ts : List T} {i : Nat} {s : Slot} (h : (ts.map Slot.sh)[i]? = some s) : s.held = false := by
  rw [List.getElem?_map, Option.map_eq_some_iff] at h
  obtain ⟨t, _, rfl⟩ := h
  rfl
theorem ret_orep {t : T} {fr : Bool} {v : V} {S' : Addr → Prop} {H' H1 : Hp} {IO : Addr → Prop} (s : Sr W B g ρ σ H) (k1 : ∀ a, H1 a = none → H a = none) {Hs : Hp} (hs : ∀ a, H a = none → Hs a = none) {ρ' : Env} (ow : ∀ a, OwAt ρ' σ a → OwAt ρ σ a) (r : RetR W ⟨S', g.Γ⟩ H' H1 IO v t fr) : ORep W B ⟨S', g.Γ⟩ ρ' σ H' Hs v (.val t fr) := by
  cases fr with
  | false => exact r
  | true =>
    obtain ⟨a, e, n, w, hn, _⟩ := r
    have h0 := k1 a hn
    refine ⟨a, e, n, w, s.h0none h0, fun z => ?_, hs a h0⟩
    obtain ⟨o, e'⟩ := s.some_at (ow a z)
    rw [h0] at e'; cases e'
/-- a def called with values that nobody writes any more -/
theorem call_sh (ok : Cok nm sc X W B k c Wx) (s : Sr W B g ρ σ H) (I : Inv X pins σ H s2) {f : Str} {ts : List T} {Kr : KR} (h : c.call f (ts.map .sh) Kr X') (hX : ∀ n fs, X' n fs → XT W B g σ Wx n fs) {vs : List V} {us : List Value} (r : Vals vs us) (ra : RepL W g H vs ts) {Q : VK}
    (hK : ∀ t fr io v g' H', Kr t fr io → Ex W B σ (nw H) g ρ H g' ρ H' → ORep W B g' ρ σ H' H v (.val t fr) → Q v H') : wpAny (model X.prog X.w) X.A (call (.ref (W.FA f)) us) (EP X pins σ Q) X.xe s2 := by
  refine run_g (S := g.S) (Γ := g.Γ) (IO := fun _ => False) ok I rfl h r (cells_at ok s I) (paired_sh ra) (fun i t e hd => by rw [held_sh e] at hd; cases hd) (fun a z => z.elim) s.sh.sd s.sh.tb (fun t fr io v S' H' q b rr _ => ?_) (fun n fs S' H' d xs q b e x => ?_)
  · have x := Ex.called s (fun _ _ e => e) b fun a z => z.elim
    exact hK t fr io v _ H' q x (ret_orep s (fun _ e => e) (fun _ e => e) (fun _ e => e) rr)
  · have sh := Sh.called s (fun _ _ e => e) b fun a z => z.elim
    exact hX n fs q ⟨S', g.Γ⟩ H' d xs sh ⟨b.sub, fun _ h => h⟩ (fun l p hp => by
      rcases s.cg p hp with z | ⟨z, _⟩
      · exact z
      · rw [l] at z; cases z) e x
/-! ### the arguments -/
theorem cargs_ok {Hs : Hp} {os : List Opd} {vs : List V} {sl : List Slot} {ρ2 : Env} (s : Sr W B g ρ σ H) (r : ORepL W B g ρ σ H Hs vs os) (e : cargs ρ os = some (sl, ρ2)) :
    ∃ g2, Ex W B σ (fun a => a ∈ freshL vs os) g ρ H g2 ρ2 H ∧
      ((∃ ts, sl = ts.map .sh ∧ RepL W g2 H vs ts ∧ (∀ io, back ρ2 os io = ρ2)) ∨
       ∃ (i : Nat) (a : Addr) (t : T) (ts : List T) (os' : List Opd) (vs' : List V) (s0 : Slot), os = .slot i :: os' ∧ vs = .ref a :: vs' ∧ sl = .io t :: ts.map .sh ∧ ρ2[i]? = some s0 ∧ (s0 = .io t ∨ ∃ kvs, t = .dct kvs ∧ s0 = .ow t) ∧ OwI ρ2 σ i a ∧ OwnR W g2 H a t ∧ RepL W g2 H vs' ts) := by
  cases os with
  | nil =>
    unfold cargs at e; cases e
    obtain ⟨p, _⟩ := r
    cases p
    exact ⟨g, .refl s, .inl ⟨[], rfl, .nil, fun io => rfl⟩⟩
  | cons o os =>
    obtain ⟨p, nd⟩ := r
    cases p with
    | @cons v _ vs _ q p =>
    dsimp only [cargs] at e
    split at e
    · cases e
    rename_i ts ρ1 e1
    have nd' := List.nodup_append.mp (show (freshA v o ++ freshL vs os).Nodup from nd)
    obtain ⟨g1, x1, r1⟩ := ORepL.fzs s ⟨p, nd'.2.1⟩ e1
    have q1 : ORep W B g1 ρ1 σ H Hs v o := q.keep s x1 fun a h1 h2 => nd'.2.2 a h1 a h2 rfl
    have gen : ∀ sl ρ2, (match fz ρ1 o with
        | some (t, ρ2) => some (Slot.sh t :: ts.map .sh, ρ2)
        | none => none) = some (sl, ρ2) → (∀ i, o = .slot i → ∀ io, back ρ2 (.slot i :: os) io = ρ2) → ∃ g2, Ex W B σ (fun a => a ∈ freshL (v :: vs) (o :: os)) g ρ H g2 ρ2 H ∧ (∃ ts, sl = ts.map .sh ∧ RepL W g2 H (v :: vs) ts ∧ (∀ io, back ρ2 (o :: os) io = ρ2)) := by
      intro sl ρ2 e hb
      split at e
      · rename_i t ρ3 e2
        cases e
        obtain ⟨g2, x2, r2⟩ := q1.fz x1.st e2
        refine ⟨g2, (x1.weaken fun a h => List.mem_append_right _ h).trans' x2 (fun _ h => h) (fun a h => .inl (List.mem_append_left _ h)), t :: ts, rfl, .cons r2 (r1.keep (Ex.keeps x1.st x2)), fun io => ?_⟩
        cases o with
        | val t f => rfl
        | slot i => exact hb i rfl io
      · cases e
    have stay : ∀ {i : Nat} {t : T} {ρ2 : Env}, (∀ kvs, ρ1[i]? ≠ some (.ow (.dct kvs))) → (∀ t, ρ1[i]? ≠ some (.io t)) → fz ρ1 (.slot i) = some (t, ρ2) → ∀ io, back ρ2 (.slot i :: os) io = ρ2 := by
      intro i t ρ2 n1 n2 e io
      have key : (∀ kvs, ρ2[i]? ≠ some (.ow (.dct kvs))) ∧ (∀ t, ρ2[i]? ≠ some (.io t)) := by
        dsimp only [fz] at e
        split at e
        · cases e; exact ⟨n1, n2⟩
        · cases e; exact ⟨n1, n2⟩
        · rename_i e0
          cases e
          rw [get_set_eq e0]
          constructor
          · intro _ z; cases z
          · intro _ z; cases z
        · cases e
      have l : lost ρ2 (.slot i :: os) = ρ2 := by
        dsimp only [lost]
        split
        · rename_i z; exact absurd z (key.1 _)
        · rename_i z; exact absurd z (key.2 _)
        · rfl
      cases io with
      | none => exact l
      | some t =>
        dsimp only [back]
        split
        · rename_i z; exact absurd z (key.1 _)
        · rename_i z; exact absurd z (key.2 _)
        · rfl
    cases o with
    | val t f =>
      obtain ⟨g2, x, y⟩ := gen sl ρ2 e fun i z => by cases z
      exact ⟨g2, x, .inl y⟩
    | slot i =>
      split at e <;> rename_i hz
      rotate_left
      · exact absurd rfl (hz i)
      cases hz
      split at e
      · rename_i kvs e3
        cases e
        obtain ⟨a, ea, na, ow, h0⟩ := x1.st.sl i _ e3
        have qv : σ[i]? = some (some v) := q1
        rw [ea] at qv; cases qv
        exact ⟨g1, x1.weaken fun a h => List.mem_append_right _ h, .inr ⟨i, a, _, ts, os, vs, _, rfl, rfl, rfl, e3, .inr ⟨kvs, rfl, rfl⟩, ⟨⟨_, e3, rfl⟩, ea⟩, ow, r1⟩⟩
      · rename_i t e3
        cases e
        obtain ⟨a, ea, na, ow, h0⟩ := x1.st.sl i _ e3
        have qv : σ[i]? = some (some v) := q1
        rw [ea] at qv; cases qv
        exact ⟨g1, x1.weaken fun a h => List.mem_append_right _ h, .inr ⟨i, a, _, ts, os, vs, _, rfl, rfl, rfl, e3, .inl rfl, ⟨⟨_, e3, rfl⟩, ea⟩, ow, r1⟩⟩
      · rename_i n1 n2
        have e' := e
        cases e4 : fz ρ1 (.slot i) with
        | none => rw [e4] at e; cases e
        | some p =>
          obtain ⟨t, ρ3⟩ := p
          have e5 := e
          rw [e4] at e5
          cases e5
          obtain ⟨g2, x, y⟩ := gen _ _ e' fun j z io => by cases z; exact stay n1 n2 e4 io
          exact ⟨g2, x, .inl y⟩
theorem star_plain {env : PySem.Env} {pos : Pos} : ∀ {es : List Expr}, es.all plainE = true → (backTo pos (starEach es env)).any (·.1) = false
  | [], _ => rfl
  | e :: es, h => by
    rw [List.all_cons, Bool.and_eq_true] at h
    rw [star_cons h.1]
    show (false || (backTo pos (starEach es env)).any (·.1)) = false
    rw [star_plain h.2]
    rfl
end
section
variable {nm : Nm} {sc : Sc} {es : List Expr} {e : Expr} {ess : Es} {pos p : Pos} {f : Str}
/-- f(e, ..) -/
theorem ew_call {X : Cx} {σ : L2.St} {H : Hp} {u : Value} {Q : VK} (hg : Gl X f) (hm : X.mg f = some u) (hk : PySem.W.keepIn X.K u = true) (hdb : (f == ("__debug__" : Str)) = false) (hp : (e :: es).all plainE = true)
    (h : AW X (e :: es) σ H fun vs H1 => ∀ pins s us, Inv X pins σ H1 s → Vals vs us → wpAny (model X.prog X.w) X.A (call u us) (EP X pins σ Q) X.xe s) : EW X (.Call (.Name f p) (e :: es) [] pos) σ H Q := by
  intro pins s I
  refine wpAny_Call_Name_kw (ld_glob I hg hm ?_ hdb)
  rw [List.all_cons, Bool.and_eq_true] at hp
  refine PySem.W.callWith_K (h₀ := X.base) I.ok.mod.kin hk (thn (h pos pins s I) fun us s1 ⟨vs, H1, I1, r, q⟩ => ⟨I1.kIn, ?_⟩) (star_cons hp.1) (star_plain hp.2)
  exact q pins s1 us I1 r
theorem ew_call0 {X : Cx} {σ : L2.St} {H : Hp} {u : Value} {Q : VK} (hg : Gl X f) (hm : X.mg f = some u) (hk : PySem.W.keepIn X.K u = true) (hdb : (f == ("__debug__" : Str)) = false)
    (h : ∀ pins s us, Inv X pins σ H s → Vals [] us → wpAny (model X.prog X.w) X.A (call u us) (EP X pins σ Q) X.xe s) : EW X (.Call (.Name f p) [] [] pos) σ H Q := by
  intro pins s I
  refine wpAny_Call_Name_kw (ld_glob I hg hm ?_ hdb)
  exact PySem.W.callWith_K0 I.kIn hk (h pins s [] I .nil)
section
variable {X : Cx} {W : Wd} {B : Fb} {k : Nat} {c : Pr} {Wx : WX} {g : Gh} {ρ : Env} {σ : L2.St} {H : Hp} {X' : KX} {pins : List (Addr × Obj)} {s2 : Shared}
/-- a def called, its arguments evaluated -/
theorem call_any (ok : Cok nm sc X W B k c Wx) {g0 : Gh} {ρ0 : Env} {H0 : Hp} {os : List Opd} {vs : List V} {sl : List Slot} {ρ2 : Env} (x0 : Ex W B σ (nw H0) g0 ρ0 H0 g ρ H) (ro : ORepL W B g ρ σ H H0 vs os) (e : cargs ρ os = some (sl, ρ2)) {K : KE'} {Q : VK}
    (h : c.call f sl (fun t fr io => K (.val t fr) (back ρ2 os io)) X') (hX : ∀ n fs, X' n fs → XT W B g0 σ Wx n fs) (hK : ∀ o ρ1 v g1 H1, K o ρ1 → Ex W B σ (nw H0) g0 ρ0 H0 g1 ρ1 H1 → ORep W B g1 ρ1 σ H1 H0 v o → Q v H1) :
    ∀ us, Inv X pins σ H s2 → Vals vs us → wpAny (model X.prog X.w) X.A (call (.ref (W.FA f)) us) (EP X pins σ Q) X.xe s2 := by
  intro us I r
  obtain ⟨g2, x2, q⟩ := cargs_ok x0.st ro e
  have x : Ex W B σ (nw H0) g0 ρ0 H0 g2 ρ2 H := x0.trans' x2 (fun _ h => h) fun a ha => by
    obtain ⟨v', o', r', hm⟩ := mem_freshL ro.all ha
    obtain ⟨_, _, _, _, _, _, _, z⟩ := fresh_some r' hm
    exact .inl z
  rcases q with ⟨ts, rfl, rl, hb⟩ | ⟨i, a, t, ts, os', vs', s0, rfl, rfl, rfl, e0, hs0, ow, own, rl⟩
  · refine call_sh ok x.st I h (fun n fs y => (hX n fs y).up x.le) r rl fun t fr io v g' H' q x3 ro3 => ?_
    rw [hb] at q
    exact hK _ _ _ _ _ q (x.trans x3) (ORep.hs ro3 fun a => x.none_back)
  · have hd : s0.held = true := by rcases hs0 with rfl | ⟨_, _, rfl⟩ <;> rfl
    have nlk : ∀ t, s0 ≠ .lk t := by rcases hs0 with rfl | ⟨_, _, rfl⟩ <;> (intro _ z; cases z)
    have nS := (x.st.owi ow).1
    refine run_g (S := g2.S) (Γ := g2.Γ) (IO := fun b => b = a) ok I rfl h r (cells_at ok x.st I) (.cons ⟨a, rfl, nS, own, rfl⟩ (paired_sh rl)) (fun j s ej hj => ?_) (fun b z => ?_) x.st.sh.sd x.st.sh.tb (fun tt fr io v S' H' q b rr ii => ?_) (fun n fs S' H' d xs q b ed xd => ?_)
    · cases j with
      | zero => rfl
      | succ j =>
        rw [List.getElem?_cons_succ] at ej
        rw [held_sh ej] at hj; cases hj
    · subst z; exact ⟨_, rfl, rfl, rfl⟩
    · -- back
      have key : ∃ s1, back ρ2 (.slot i :: os') io = ρ2.set i s1 ∧ SlotR W B ⟨S', g2.Γ⟩ H' (σ[i]?) s1 ∧ (s1.held = true → s0.held = true) := by
        obtain ⟨u, e1, _, z⟩ := x.st.sl i _ e0 |> fun z => (⟨s0, e0, hd, z⟩ : ∃ u, ρ2[i]? = some u ∧ u.held = true ∧ SlotR W B g2 H (σ[i]?) u)
        cases io with
        | none =>
          refine ⟨.no, ?_, trivial, fun z => by cases z⟩
          rcases hs0 with rfl | ⟨kvs, rfl, rfl⟩ <;> (dsimp only [back, lost]; rw [e0])
        | some t1 =>
          obtain ⟨a', ea, n', w'⟩ : ∃ a', some (V.ref a) = some (.ref a') ∧ ¬ S' a' ∧ OwnR W ⟨S', g2.Γ⟩ H' a' t1 := ii t1 rfl
          cases ea
          have sl0 := x.st.sl i _ e0
          rcases hs0 with rfl | ⟨kvs, rfl, rfl⟩
          · obtain ⟨b0, eb, _, _, io0⟩ := sl0
            rw [ow.2] at eb; cases eb
            refine ⟨.io t1, ?_, ⟨a, ow.2, n', w', io0⟩, fun _ => rfl⟩
            dsimp only [back]; rw [e0]
          · obtain ⟨b0, eb, _, _, h0⟩ := sl0
            rw [ow.2] at eb; cases eb
            refine ⟨.ow t1, ?_, ⟨a, ow.2, n', w', h0⟩, fun _ => rfl⟩
            dsimp only [back]; rw [e0]
      obtain ⟨s1, eb, new, hh⟩ := key
      rw [eb] at q
      have x3 := Ex.calledIO x.st b e0 (fun b z => by subst z; exact ow) new hh nlk
      refine hK _ _ _ _ _ q (x.trans x3) (ret_orep x.st (fun _ e => e) (fun b => x.none_back) (fun b => x3.owk b) rr)
    · have sh := Sh.called x.st (fun _ _ e => e) b fun b z => by subst z; exact .inr ⟨i, ow⟩
      exact ((hX n fs q).up x.le) ⟨S', g2.Γ⟩ H' d xs sh ⟨b.sub, fun _ h => h⟩ (fun l p hp => by
        rcases x.st.cg p hp with z | ⟨z, _⟩
        · exact z
        · rw [l] at z; cases z) ed xd
end
theorem se_call (hf : f ∈ nm.defs) (hg : glB sc f = true) (hn : plainName f = true) (hp : (e :: es).all plainE = true) (ha : SEs nm sc (e :: es) ess) : SE nm sc (.Call (.Name f p) (e :: es) [] pos) (.call f ess) := by
  intro X W B k c Wx ok g ρ σ H K X' Q s h hX hK
  unfold wpE at h
  refine ew_call (ok.gl hg) (ok.pf.gd f hf).1 (by rw [ok.K]; exact (ok.pf.gd f hf).2) (plainName_dbg hn) hp (ha ok s h hX fun os ρ1 vs g1 H1 k1 x1 r1 => ?_)
  split at k1
  · rename_i sl ρ2 ec
    intro pins s2 us I r
    exact call_any ok x1 r1 ec k1 hX hK us I r
  · exact k1.elim
theorem se_call0 (hf : f ∈ nm.defs) (hg : glB sc f = true) (hn : plainName f = true) : SE nm sc (.Call (.Name f p) [] [] pos) (.call f .nil) := by
  intro X W B k c Wx ok g ρ σ H K X' Q s h hX hK
  unfold wpE at h
  refine ew_call0 (ok.gl hg) (ok.pf.gd f hf).1 (by rw [ok.K]; exact (ok.pf.gd f hf).2) (plainName_dbg hn) fun pins s2 us I r => ?_
  unfold wpEs at h
  exact call_any ok (os := []) (.refl s) .nil rfl h hX hK us I r
end
end Zl

set_option Elab.async false
set_option linter.all false
set_option maxRecDepth 100000
set_option maxHeartbeats 4000000
/-! Z12: instances made, comparisons. -/
namespace Zl
open PySem PySem.Spec PyProof.Rows L2
section
variable {W : Wd} {B : Fb} {σ : L2.St} {g g' : Gh} {ρ ρ' : Env} {H H' H1 Hs : Hp} {S' IO : Addr → Prop}
theorem Ex.giveI (s : Sr W B g ρ σ H) {a : Addr} {o : HO} (n : ¬ g.S a) (ho : H a = some o) (ht : notTbl o) (na : ¬ OwAt ρ σ a) (h0 : B.H0 a = none) : Ex W B σ (fun x => x = a) g ρ H ⟨fun x => g.S x ∨ x = a, g.Γ⟩ ρ H := by
  have le : g.Le ⟨fun x => g.S x ∨ x = a, g.Γ⟩ := ⟨fun _ h => .inl h, fun _ h => h⟩
  have k : Keep g H ⟨fun x => g.S x ∨ x = a, g.Γ⟩ H := ⟨le, fun _ _ e _ => e⟩
  refine ⟨⟨s.len, ⟨s.sh.fr, ?_, ?_, s.sh.tb, s.sh.tk, s.sh.io⟩, ?_, s.ds, s.cg⟩, le, ?_, fun _ _ e _ _ => e, fun _ h => h, fun _ _ h => h, fun _ ps h => ⟨ps, h⟩, fun _ h => s.some_at h⟩
  · rintro x (h | h)
    · exact s.sh.sd x h
    · exact ⟨o, by rw [h]; exact ho, ht⟩
  · rintro x (h | h)
    · exact s.sh.ns x h
    · rw [h]; exact .inr h0
  · intro j u hj
    refine (s.sl j u hj).keep k fun b qb hd => ⟨?_, fun _ e => e⟩
    rintro (w | w)
    · exact (s.owi ⟨⟨u, hj, hd⟩, qb⟩).1 w
    · subst w; exact na ⟨j, ⟨u, hj, hd⟩, qb⟩
  · rintro x (h | h)
    · exact .inl h
    · exact .inr (.inl h)
end
section
variable {nm : Nm} {sc : Sc} {X : Cx} {W : Wd} {B : Fb} {k : Nat} {c : Pr} {Wx : WX} {g : Gh} {ρ : Env} {σ : L2.St} {H : Hp} {X' : KX} {pins : List (Addr × Obj)} {s2 : Shared}
/-- an instance made, its __init__ run -/
theorem run_m (ok : Cok nm sc X W B k c Wx) (s : Sr W B g ρ σ H) (I : Inv X pins σ H s2) {n q : Str} (M : Mk W.K (W.CA n) (W.FA q)) (m : W.okc n) {ts : List T} {Kr : KR} (h : c.call q (.nw n [] :: ts.map .sh) Kr X') (hX : ∀ n fs, X' n fs → XT W B g σ Wx n fs) {vs : List V} {us : List Value} (r : Vals vs us) (ra : RepL W g H vs ts) {Q : VK}
    (hQ : ∀ t fr io, Kr t fr io → t.isNon = true ∧ ∃ u, io = some u ∧ ∀ v g' H', Ex W B σ (nw H) g ρ H g' ρ H' → Rep W g' H' v u → Q v H') : wpAny (model X.prog X.w) X.A (call (.ref (W.CA n)) us) (EP X pins σ Q) X.xe s2 := by
  have fx : H (s2.heap.objs.size + 1) = none := I.hok.fresh (Nat.le_succ _)
  have fd : H s2.heap.objs.size = none := I.hok.fresh (Nat.le_refl _)
  have ne : s2.heap.objs.size + 1 ≠ s2.heap.objs.size := Nat.succ_ne_self _
  have I2 := Inv.made (C := W.CA n) I
  generalize eH : upd (upd H s2.heap.objs.size (.own (s2.heap.objs.size + 1))) (s2.heap.objs.size + 1) (.ins (W.CA n) s2.heap.objs.size []) = H1 at I2
  generalize ex : s2.heap.objs.size + 1 = x at *
  generalize ed : s2.heap.objs.size = dx at *
  have k1 : ∀ a o, H a = some o → H1 a = some o := fun a o e => by
    subst eH
    rw [upd_ne (fun z => by subst z; rw [fx] at e; cases e), upd_ne (fun z => by subst z; rw [fd] at e; cases e)]
    exact e
  have x1 := Ex.grow (F := nw H) s k1
  have e1 : H1 x = some (.ins (W.CA n) dx []) := by subst eH; exact upd_same
  have nS : ¬ g.S x := fun z => by
    obtain ⟨o, e, _⟩ := s.sh.sd x z
    rw [fx] at e; cases e
  obtain ⟨fdd, ps, hb, F⟩ := ok.pf.fn q _ Kr X' h
  have hsp : spT W B.tab (c.call q) g.Γ (.ref x :: vs) H1 (fun v H2 => v = .non ∧ Q (.ref x) H2) (fun cl d H' => Wx cl d σ H') := by
    refine ⟨g.S, fun b => b = x, .nw n [] :: ts.map .sh, .cons ⟨x, dx, [], rfl, nS, e1, .nil, rfl, m⟩ (paired_sh (ra.keep (Ex.keeps s x1))), fun j t ej hj => ?_, fun b z => by subst z; exact ⟨_, rfl, rfl, rfl⟩, x1.st.sh.sd, x1.st.sh.tb,
      ok.pf.mono (fun t fr io qq v S' H' b rr ii => ?_) (fun nn fs qq S' H' d xs b e xx => ?_) h⟩
    · cases j with
      | zero => rfl
      | succ j =>
        rw [List.getElem?_cons_succ] at ej
        rw [held_sh ej] at hj; cases hj
    · obtain ⟨hn, u, eu, hQ⟩ := hQ t fr io qq
      have ev : v = .non := by
        cases t <;> first | cases hn | skip
        cases fr with
        | false => have rr : Rep W _ H' v .non := rr; cases rr; rfl
        | true => obtain ⟨a, _, _, w, _⟩ := rr; exact w.elim
      obtain ⟨a, dx', vs', fs, ea, na, et, eh, rf⟩ : ∃ a dx vs fs, some (V.ref x) = some (.ref a) ∧ ¬ S' a ∧ u = .ins n fs ∧ H' a = some (.ins (W.CA n) dx vs) ∧ RepF W ⟨S', g.Γ⟩ H' vs fs := ii u eu
      cases ea; subst et
      have x2 := Ex.called s k1 b fun a z => by subst z; exact fx
      have x3 := Ex.giveI x2.st na eh (fun _ z => by cases z) (fun z => by
        obtain ⟨o, e⟩ := s.some_at (x2.owk _ z)
        rw [fx] at e; cases e) (s.h0none fx)
      have x4 : Ex W B σ (nw H) g ρ H _ ρ H' := x2.trans' x3 (fun _ h => h) fun a z => by subst z; exact .inl fx
      exact ⟨ev, hQ (.ref x) _ H' x4 (.ins m (.inr rfl) eh (rf.keep (Ex.keeps x2.st x3)))⟩
    · have sh := Sh.called s k1 b fun b z => by subst z; exact .inl fx
      exact hX nn fs qq ⟨S', g.Γ⟩ H' d xs sh ⟨b.sub, fun _ h => h⟩ (fun l p hp => by
        rcases s.cg p hp with z | ⟨z, _⟩
        · exact z
        · rw [l] at z; cases z) e xx
  have hl : (Value.ref x :: us).length = ps.length := by
    have e := F.len g.Γ _ _ _ _ hsp
    rw [← e, List.length_cons, List.length_cons, r.length]
  obtain ⟨base, e0, bo, ci⟩ := base_at ok I2 (cells_at ok x1.st I2)
  rw [ok.K] at e0
  have b0 := hb _ (Value.ref x :: us) (by rw [← ok.K]; exact I2.kIn) (by rw [List.append_nil]; exact hl)
  rw [List.append_nil] at b0
  have go := F.run base (X.A.under (.builtin "type.__call__" ⟨.ref (W.CA n) :: us, []⟩)) X.stack _ H1 ⟨Value.ref x :: us, []⟩ (Value.ref x :: us) (.ref x :: vs) _ _ g.Γ (ok.room.make (W.CA n) us []) (make_guards ok.gd) (e0.make (W.CA n) us []) bo ci b0 (.cons rfl r) hsp
  subst ex; subst ed
  refine wpAny_call (make_map (f := W.FA q) (K := W.K) (by rw [← ok.K]; exact I.kIn) M.makes M.init (beq_iff_eq.mp M.fn) (codeAny_mono go fun r s' hq' => ?_))
  cases r with
  | error e => exact ok.tk e s' (XE.of_call I2 (fun _ _ _ q => q) hq')
  | ok fl =>
    cases fl with
    | ret u =>
      obtain ⟨v, H', I3, rv, ev, q3⟩ := I2.after hq'
      subst ev
      exact ⟨rv, ⟨V.ref (s2.heap.objs.size + 1), H', I3, rfl, q3⟩⟩
    | next => exact False.elim hq'
    | brk => exact False.elim hq'
    | cont => exact False.elim hq'
end
section
variable {nm : Nm} {sc : Sc} {es : List Expr} {e : Expr} {ess : Es} {pos p : Pos} {n q : Str}
theorem fresh_nw {W : Wd} {B : Fb} {g : Gh} {ρ : Env} {σ : L2.St} {H Hs : Hp} {vs : List V} {os : List Opd} (ro : ORepL W B g ρ σ H Hs vs os) : ∀ a, a ∈ freshL vs os → Hs a = none := fun a ha => by
  obtain ⟨v', o', r', hm⟩ := mem_freshL ro.all ha
  obtain ⟨_, _, _, _, _, _, _, z⟩ := fresh_some r' hm
  exact z
theorem se_mk (hf : (n, q) ∈ nm.clss) (hg : glB sc n = true) (hn : plainName n = true) (hp : (e :: es).all plainE = true) (ha : SEs nm sc (e :: es) ess) : SE nm sc (.Call (.Name n p) (e :: es) [] pos) (.mk n q ess) := by
  intro X W B k c Wx ok g ρ σ H K X' Q s h hX hK
  unfold wpE at h
  obtain ⟨hm, m, M⟩ := ok.pf.cls (n, q) hf
  refine ew_call (ok.gl hg) hm (by rw [ok.K]; exact M.kp) (plainName_dbg hn) hp (ha ok s h hX fun os ρ1 vs g1 H1 k1 x1 r1 => ?_)
  split at k1
  · rename_i ts ρ2 ec
    intro pins s2 us I r
    obtain ⟨g2, x2, rl⟩ := ORepL.fzs x1.st r1 ec
    have x : Ex W B σ (nw H) g ρ H g2 ρ2 H1 := x1.trans' x2 (fun _ h => h) fun a ha => .inl (fresh_nw r1 a ha)
    refine run_m ok x.st I M m k1 (fun n fs y => (hX n fs y).up x.le) r rl fun t fr io kr => ⟨kr.1, ?_⟩
    cases io with
    | none => exact kr.2.elim
    | some u => exact ⟨u, rfl, fun v g' H' x3 rep => hK _ _ _ _ _ kr.2 (x.trans x3) rep⟩
  · exact k1.elim
end
end Zl

set_option Elab.async false
set_option linter.all false
set_option maxRecDepth 100000
set_option maxHeartbeats 4000000
/-! Z13: comparisons. -/
namespace Zl
open PySem PySem.Spec PyProof.Rows L2
def copP : Cop → CmpOp
  | .eq => .Eq | .ne => .NotEq | .lt => .Lt | .le => .LtE | .gt => .Gt | .ge => .GtE | .is_ => .Is | .isnot => .IsNot | .isin => .In | .notin => .NotIn
section
variable {W : Wd} {X : Cx} {pins : List (Addr × Obj)} {σ : L2.St} {g : Gh} {H : Hp} {s : Shared}
theorem RepB.nonI {a : T} {v : V} (r : RepB W g H v a) : decide (v = .non) = a.isNon := by
  rcases r with r | ⟨p, e, r⟩
  · cases r <;> rfl
  · subst e
    cases a <;> first | exact r.elim | rfl
theorem cInt {p : Int → Int → Bool} {Kb : Bool → Prop} {a b : T} (h : match a, b with
    | .int i, .int j => Kb (p i j)
    | _, _ => False) : ∃ i j, a = .int i ∧ b = .int j ∧ Kb (p i j) := by
  split at h
  · exact ⟨_, _, rfl, rfl, h⟩
  · exact h.elim
theorem cIs {Kb : Bool → Prop} {a b : T} (h : isR a b Kb) : (b = .non ∧ Kb a.isNon) ∨ ∃ x y, a = .bl x ∧ b = .bl y ∧ Kb (x == y) := by
  unfold isR at h
  split at h
  · refine .inl ⟨rfl, ?_⟩
    cases a <;> exact h
  · split at h
    · exact .inr ⟨_, _, rfl, rfl, h⟩
    · exact h.elim
  · exact h.elim
theorem cIn {Kb : Bool → Prop} {a b : T} (h : inR a b Kb) : (∃ kvs ky, b = .dct kvs ∧ keyT a = some ky ∧ Kb (dlook kvs ky).isSome) ∨ ∃ d ds, a.pd = some d ∧ (b.pd = some (.list ds) ∧ SeqAt.shaped d = true ∧ SeqAt.shaped (.list ds) = true ∨ b.pd = some (.tuple ds) ∧ SeqAt.shaped d = true ∧ SeqAt.shaped (.tuple ds) = true) ∧ Kb (ds.any fun z => PyData.eqv z d) := by
  unfold inR at h
  split at h
  · split at h
    · rename_i e; exact .inl ⟨_, _, rfl, e, h⟩
    · exact h.elim
  · split at h
    · rename_i h1 h2; exact .inr ⟨_, _, h1, .inl ⟨h2, h.1, h.2.1⟩, h.2.2⟩
    · rename_i h1 h2; exact .inr ⟨_, _, h1, .inr ⟨h2, h.1, h.2.1⟩, h.2.2⟩
    · exact h.elim
theorem cEq {Kb : Bool → Prop} {a b : T} (h : eqR a b Kb) : (∃ x y, a = .str x ∧ b = .str y ∧ Kb (x == y)) ∨ ∃ d e, a.pd = some d ∧ b.pd = some e ∧ SeqAt.shaped d = true ∧ SeqAt.shaped e = true ∧ Kb (PyData.eqv d e) := by
  unfold eqR at h
  split at h
  · exact .inl ⟨_, _, rfl, rfl, h⟩
  · split at h
    · exact .inr ⟨_, _, ‹_›, ‹_›, h.1, h.2.1, h.2.2⟩
    · exact h.elim
theorem cmpR_ok {op : Cop} {a b : T} {x y : V} {u z : Value} {Kb : Bool → Prop} {Q : VK} (hK : X.K = W.K) (hu : X.A.units + 65 < cLine) (I : Inv X pins σ H s) (rx : RelV x u) (ry : RelV y z) (bx : RepB W g H x a) (bz : RepB W g H y b) (h : cmpR op a b Kb)
    (hq : ∀ kk, Kb kk → Q (.bl kk) H) : wpAny (model X.prog X.w) X.A (compareOp (copP op) u z) (EP X pins σ Q) X.xe s := by
  have bi : ∀ {x y : Bool}, decide (x = y) = (x == y) := by intro x y; cases x <;> cases y <;> rfl
  have isd : ∀ {kvs : List (Key × T)} {vs : List (Key × V)} {ky : Key}, RepK W g H vs kvs → (valV vs ky).isSome = (dlook kvs ky).isSome := by
    intro kvs vs ky rl
    cases ed : dlook kvs ky with
    | none => rw [(rl.look (k := ky)).2 ed]; rfl
    | some t => obtain ⟨v, e, _⟩ := (rl.look (k := ky)).1 t ed; rw [e]; rfl
  cases op with
  | eq =>
    rcases cEq h with ⟨x, y, rfl, rfl, q⟩ | ⟨d, e, h1, h2, s1, s2, q⟩
    · cases bx.str; cases bz.str
      have ed : decide (V.str x = V.str y) = (x == y) := by
        by_cases z : x = y
        · subst z; simp
        · have z2 : ¬ V.str x = V.str y := fun w => z (by cases w; rfl)
          rw [decide_eq_false z2]; exact (beq_eq_false_iff_ne.mpr z).symm
      exact op_eq pins s σ H _ _ _ _ _ I rx ry ⟨rfl, by rw [ed]; exact hq _ q⟩
    exact op_eqD (by omega) pins s σ H _ _ _ _ _ I rx ry ⟨d, e, by rw [hK]; exact bx.dp h1, by rw [hK]; exact bz.dp h2, s1, s2, hq _ q⟩
  | ne =>
    rcases cEq (Kb := fun k => Kb !k) h with ⟨x, y, rfl, rfl, q⟩ | ⟨d, e, h1, h2, s1, s2, q⟩
    · cases bx.str; cases bz.str
      have ed : decide (V.str x = V.str y) = (x == y) := by
        by_cases z : x = y
        · subst z; simp
        · have z2 : ¬ V.str x = V.str y := fun w => z (by cases w; rfl)
          rw [decide_eq_false z2]; exact (beq_eq_false_iff_ne.mpr z).symm
      exact op_ne pins s σ H _ _ _ _ _ I rx ry ⟨rfl, by rw [ed]; exact hq _ q⟩
    exact op_neD (by omega) pins s σ H _ _ _ _ _ I rx ry ⟨d, e, by rw [hK]; exact bx.dp h1, by rw [hK]; exact bz.dp h2, s1, s2, hq _ q⟩
  | lt =>
    obtain ⟨i, j, rfl, rfl, q⟩ := cInt (p := fun i j => decide (i < j)) h
    cases bx.int; cases bz.int
    exact op_lt pins s σ H _ _ _ _ _ I rx ry ⟨_, _, rfl, rfl, hq _ q⟩
  | le =>
    obtain ⟨i, j, rfl, rfl, q⟩ := cInt (p := fun i j => decide (i ≤ j)) h
    cases bx.int; cases bz.int
    exact op_le pins s σ H _ _ _ _ _ I rx ry ⟨_, _, rfl, rfl, hq _ q⟩
  | gt =>
    obtain ⟨i, j, rfl, rfl, q⟩ := cInt (p := fun i j => decide (j < i)) h
    cases bx.int; cases bz.int
    exact op_gt pins s σ H _ _ _ _ _ I rx ry ⟨_, _, rfl, rfl, hq _ q⟩
  | ge =>
    obtain ⟨i, j, rfl, rfl, q⟩ := cInt (p := fun i j => decide (j ≤ i)) h
    cases bx.int; cases bz.int
    exact op_ge pins s σ H _ _ _ _ _ I rx ry ⟨_, _, rfl, rfl, hq _ q⟩
  | is_ =>
    rcases cIs h with ⟨rfl, q⟩ | ⟨x, y, rfl, rfl, q⟩
    · cases bz.non
      exact op_isN pins s σ H _ _ _ _ _ I rx ry ⟨rfl, by rw [bx.nonI]; exact hq _ q⟩
    · cases bx.bl; cases bz.bl
      exact op_isBl pins s σ H _ _ _ _ _ I rx ry ⟨_, _, rfl, rfl, by rw [bi]; exact hq _ q⟩
  | isnot =>
    rcases cIs (Kb := fun k => Kb !k) h with ⟨rfl, q⟩ | ⟨x, y, rfl, rfl, q⟩
    · cases bz.non
      exact op_notN pins s σ H _ _ _ _ _ I rx ry ⟨rfl, by rw [bx.nonI]; exact hq _ q⟩
    · cases bx.bl; cases bz.bl
      exact op_notBl pins s σ H _ _ _ _ _ I rx ry ⟨_, _, rfl, rfl, by rw [bi]; exact hq _ q⟩
  | isin =>
    rcases cIn h with ⟨kvs, ky, rfl, ek, q⟩ | ⟨d, ds, h1, ⟨h2, sd, se⟩ | ⟨h2, sd, se⟩, q⟩
    · obtain ⟨p, vs, rfl, e, rl⟩ := bz.dct
      cases ry
      exact d_in (by omega) I (dget_of ek bx e) rx fun s' I' => ⟨.bl _, H, I', rfl, by rw [isd rl]; exact hq _ q⟩
    · exact op_inD hu pins s σ H _ _ _ _ _ I rx ry ⟨d, ds, by rw [hK]; exact bx.dp h1, by rw [hK]; exact bz.dp h2, sd, se, hq _ q⟩
    · obtain ⟨as, r1⟩ := Dp.reads I d x u (by rw [hK]; exact bx.dp h1) rx
      obtain ⟨bs, r2⟩ := Dp.reads I (.tuple ds) y z (by rw [hK]; exact bz.dp h2) ry
      exact SeqAt.in_tuple_reads r2 r1 (SeqAt.canLay_of_shaped se) (SeqAt.canLay_of_shaped sd) (room_in_shaped sd hu) ⟨.bl _, H, I, rfl, hq _ q⟩
  | notin =>
    rcases cIn (Kb := fun k => Kb !k) h with ⟨kvs, ky, rfl, ek, q⟩ | ⟨d, ds, h1, ⟨h2, sd, se⟩ | ⟨h2, sd, se⟩, q⟩
    · obtain ⟨p, vs, rfl, e, rl⟩ := bz.dct
      cases ry
      exact d_notIn (by omega) I (dget_of ek bx e) rx fun s' I' => ⟨.bl _, H, I', rfl, by rw [isd rl]; exact hq _ q⟩
    · exact op_notInD hu pins s σ H _ _ _ _ _ I rx ry ⟨d, ds, by rw [hK]; exact bx.dp h1, by rw [hK]; exact bz.dp h2, sd, se, hq _ q⟩
    · obtain ⟨as, r1⟩ := Dp.reads I d x u (by rw [hK]; exact bx.dp h1) rx
      obtain ⟨bs, r2⟩ := Dp.reads I (.tuple ds) y z (by rw [hK]; exact bz.dp h2) ry
      exact SeqAt.notIn_tuple_reads r2 r1 (SeqAt.canLay_of_shaped se) (SeqAt.canLay_of_shaped sd) (room_in_shaped sd hu) ⟨.bl _, H, I, rfl, hq _ q⟩
end
section
variable {nm : Nm} {sc : Sc} {X : Cx} {W : Wd} {B : Fb} {k : Nat} {c : Pr} {Wx : WX} {g g0 : Gh} {ρ ρ0 : Env} {σ : L2.St} {H H0 : Hp} {X' : KX} {pins : List (Addr × Obj)} {s2 : Shared}
theorem ins_at {n : Str} {fs : List (Str × T)} {v : V} (hK : X.K = W.K) (r : RepB W g H v (.ins n fs)) (I : Inv X pins σ H s2) : ∃ a dx od, v = .ref a ∧ PySem.W.InstAt s2.heap a (PySem.W.instObj (W.CA n) dx) (W.CA n) (some od) := by
  obtain ⟨_, a, dx, vs, rfl, e, _⟩ := r.ins
  obtain ⟨mA, om, _⟩ := ins_get I.hok e
  obtain ⟨od, ia, _⟩ := om.look
  exact ⟨a, dx, od, rfl, ia⟩
theorem cmpI_ok (ok : Cok nm sc X W B k c Wx) (x0 : Ex W B σ (nw H0) g0 ρ0 H0 g ρ H) {op : Cop} {o1 o2 : Opd} {v w : V} {u z : Value} (ro : ORepL W B g ρ σ H H0 [v, w] [o1, o2]) {Kb : Bool → Env → Prop} {Q : VK} (h : cmpI c op ρ o1 o2 Kb X') (hX : ∀ n fs, X' n fs → XT W B g0 σ Wx n fs)
    (hK : ∀ kk ρ1 g1 H1, Kb kk ρ1 → Ex W B σ (nw H0) g0 ρ0 H0 g1 ρ1 H1 → Q (.bl kk) H1) (I : Inv X pins σ H s2) (rv : RelV v u) (rw' : RelV w z) : wpAny (model X.prog X.w) X.A (compareOp (copP op) u z) (EP X pins σ Q) X.xe s2 := by
  unfold cmpI at h
  obtain ⟨t1, t2, e1, e2, h⟩ := two_elim h
  have q1 := (orep2 ro).1.rd x0.st e1
  have q2 := (orep2 ro).2.rd x0.st e2
  have un := ok.room.un
  have own : ∀ {n : Str} {fs : List (Str × T)} {q : Str} {ts : List T} {ρ2 : Env} {cop : CmpOp}, t1 = .ins n fs → likeI n t2 → fzs ρ [o1, o2] = some (ts, ρ2) → c.call q (ts.map .sh) (fun t _ _ => ∃ k, t = .bl k ∧ Kb k ρ2) X' → PySem.W.findIn W.K (.ref (W.CA n)) (cmpInfo cop).2.1 = some (some (.ref (W.FA q))) → PySem.W.isFn W.K (.ref (W.FA q)) = true → PySem.W.notFirst W.K (W.CA n) (.type "tuple") = true →
      wpAny (model X.prog X.w) X.A (richCompare cop u z) (EP X pins σ Q) X.xe s2 := by
    intro n fs q ts ρ2 cop et lk ef hc hf hfn hnt
    subst et
    obtain ⟨a, dx, od, rfl, ia⟩ := ins_at ok.K q1 I
    cases rv
    obtain ⟨m, F⟩ := I.fr
    have look : ∃ tb, PySem.W.Looks (model X.prog X.w) s2.heap (typeOf z) tb ∧ PySem.W.notFirst W.K (W.CA n) tb = true := by
      cases t2 with
      | ins n2 fs2 =>
        have lk' : n2 = n := lk
        subst lk'
        obtain ⟨a2, dx2, od2, rfl, ia2⟩ := ins_at ok.K q2 I
        cases rw'
        refine ⟨_, ia2.type, ?_⟩
        unfold PySem.W.notFirst
        rw [beq_self_eq_true]; rfl
      | tup xs =>
        obtain ⟨a2, vs, rfl, et, _⟩ := q2.tup
        cases rw'
        obtain ⟨its, _, ⟨o, ho, hc', _⟩, _⟩ := I.tuple (by rw [ok.K]; exact et)
        refine ⟨_, (PySem.W.Looks.ld ho).andThen .now, ?_⟩
        rw [hc']; exact hnt
      | _ => exact lk.elim
    obtain ⟨tb, lt, nf⟩ := look
    refine PySem.W.cmp_K (K := W.K) (by omega) F (by rw [← ok.K]; exact I.ok.mod.kin) ia lt nf hf hfn ?_
    obtain ⟨g2, x2, rl⟩ := ORepL.fzs x0.st ro ef
    have x : Ex W B σ (nw H0) g0 ρ0 H0 g2 ρ2 H := x0.trans' x2 (fun _ h => h) fun a ha => .inl (fresh_nw ro a ha)
    refine thn (call_sh (Q := fun r H' => ∃ kk, r = .bl kk ∧ Q (.bl kk) H') ok x.st I hc (fun n fs y => (hX n fs y).up x.le) (.cons (show RelV (.ref a) (.ref a) from rfl) (.cons rw' .nil)) rl fun t fr io r g' H' ⟨kk, et, q⟩ x3 ro3 => ?_) fun r s' ⟨vr, H', I', rr, kk, er, q⟩ => ?_
    · subst et
      have : r = .bl kk := by
        cases fr with
        | false => have ro3' : Rep W g' H' r (.bl kk) := ro3; cases ro3'; rfl
        | true => obtain ⟨a, _, _, w, _⟩ := ro3; exact w.elim
      exact ⟨kk, this, hK kk _ _ _ q (x.trans x3)⟩
    · subst er
      cases rr
      exact ⟨.bl kk, H', I', rfl, q⟩
  have plain : cmpR op t1 t2 (fun k => Kb k ρ) → wpAny (model X.prog X.w) X.A (compareOp (copP op) u z) (EP X pins σ Q) X.xe s2 := fun h => cmpR_ok ok.K (by omega) I rv rw' q1 q2 h fun kk q => hK kk ρ g H q x0
  split at h
  · obtain ⟨lk, h⟩ := h
    split at h
    · rename_i n fs _ _ _ q _ ts ρ2 eh ef
      have m := q1.ins.1
      have F := (ok.pf.okc n m).eq _ _ eh
      exact own rfl lk ef h F.1 F.2.2.1 F.2.2.2.2
    · exact h.elim
  · obtain ⟨lk, h⟩ := h
    split at h
    · rename_i n fs _ _ _ _ q ts ρ2 eh ef
      have m := q1.ins.1
      have F := (ok.pf.okc n m).eq _ _ eh
      exact own rfl lk ef h F.2.1 F.2.2.2.1 F.2.2.2.2
    · exact h.elim
  · exact plain h
end
section
variable {nm : Nm} {sc : Sc} {a b d : Expr} {ea eb ed : E} {pos : Pos}
theorem ew_cmp {X : Cx} {σ : L2.St} {H : Hp} {op : CmpOp} {Q : VK} (hm : behindInMarks op b = false) (h : EW X a σ H fun v H1 => EW X b σ H1 fun w H2 => ∀ pins s u z, Inv X pins σ H2 s → RelV v u → RelV w z → wpAny (model X.prog X.w) X.A (compareOp op u z) (EP X pins σ Q) X.xe s) : EW X (.Compare a [op] [b] pos) σ H Q := fun pins s I =>
  wpAny_Compare1 (thn (h pins s I) fun v s1 ⟨x, H1, I1, r1, q1⟩ => thn (q1 pins s1 I1) fun u s2 ⟨y, H2, I2, r2, q2⟩ => q2 pins s2 v u I2 r1 r2) hm
theorem tw_cmp {X : Cx} {σ : L2.St} {H : Hp} {op : CmpOp} {Q : Bool → Hp → Prop} (hm : behindInMarks op b = false) (h : EW X a σ H fun v H1 => EW X b σ H1 fun w H2 => ∀ pins s u z, Inv X pins σ H2 s → RelV v u → RelV w z → wpAny (model X.prog X.w) X.A (compareOp op u z) (EP X pins σ fun x H' => ∃ k, x = .bl k ∧ Q k H') X.xe s) : TWv X (.Compare a [op] [b] pos) σ H Q := by
  intro pins s I
  refine wpAny_isTrue_Compare1 (thn (h pins s I) fun v s1 ⟨x, H1, I1, r1, q1⟩ => thn (q1 pins s1 I1) fun u s2 ⟨y, H2, I2, r2, q2⟩ => thn (q2 pins s2 v u I2 r1 r2) fun c s3 ⟨z, H3, I3, r3, k, e, q3⟩ => ?_) hm
  subst e
  cases r3
  exact wpAny_truthy_bool ⟨H3, I3, q3⟩
theorem se_cmp {op : Cop} (hm : behindInMarks (copP op) b = false) (ha : SE nm sc a ea) (hb : SE nm sc b eb) : SE nm sc (.Compare a [copP op] [b] pos) (.cmp op ea eb) := by
  intro X W B k c Wx ok g ρ σ H K X' Q s h hX hK
  unfold wpE at h
  refine ew_cmp hm (se_2 (R := fun o1 o2 ρ2 => cmpI c op ρ2 o1 o2 (fun k ρ3 => K (.val (.bl k) false) ρ3) X') ha hb ok s h hX fun o1 o2 v w g2 ρ2 H2 q x2 ro pins s2 u z I rv rw' => ?_)
  exact cmpI_ok ok x2 ro q hX (fun kk ρ1 g1 H1 q x => hK _ _ _ _ _ q x (show Rep W g1 H1 (.bl kk) (.bl kk) from .bl kk)) I rv rw'
theorem sb_cmp {op : Cop} (hm : behindInMarks (copP op) b = false) (ha : SE nm sc a ea) (hb : SE nm sc b eb) : SB nm sc (.Compare a [copP op] [b] pos) (.cmp op ea eb) := by
  intro X W B k c Wx ok g ρ σ H K X' Q s h hX hK
  unfold wpB at h
  refine tw_cmp hm (se_2 (R := fun o1 o2 ρ2 => cmpI c op ρ2 o1 o2 K X') ha hb ok s h hX fun o1 o2 v w g2 ρ2 H2 q x2 ro pins s2 u z I rv rw' => ?_)
  exact cmpI_ok ok x2 ro q hX (fun kk ρ1 g1 H1 q x => ⟨kk, rfl, hK _ _ _ _ q x⟩) I rv rw'
/-! ### chains -/
theorem chn_ok (ha : SE nm sc a ea) (hb : SE nm sc b eb) (hd : SE nm sc d ed) {X : Cx} {W : Wd} {B : Fb} {k : Nat} {c : Pr} {Wx : WX} (ok : Cok nm sc X W B k c Wx) {g : Gh} {ρ : Env} {σ : L2.St} {H : Hp} {Kb : Bool → Env → Prop} {X' : KX} {Q : VK} {op op' : Cop} (s : Sr W B g ρ σ H)
    (h : wpE c ea ρ (fun o1 ρ1 => wpE c eb ρ1 (fun o2 ρ2 => two ρ2 o1 o2 fun x y => cmpR op x y fun k =>
      (k = true → wpE c ed ρ2 (fun o3 ρ3 => two ρ3 o2 o3 fun y z => cmpR op' y z fun k' => Kb k' ρ3) X') ∧ (k = false → Kb false ρ2)) X') X') (hX : ∀ n fs, X' n fs → XT W B g σ Wx n fs)
    (hK : ∀ kk ρ1 g1 H1, Kb kk ρ1 → Ex W B σ (nw H) g ρ H g1 ρ1 H1 → Q (.bl kk) H1) : tChain (rA X (compareOp (copP op))) (rA X (compareOp (copP op'))) (EW X a) (EW X b) (EW X d) σ H Q := by
  have un := ok.room.un
  refine se_2 (R := fun o1 o2 ρ2 => two ρ2 o1 o2 fun x y => cmpR op x y fun k =>
      (k = true → wpE c ed ρ2 (fun o3 ρ3 => two ρ3 o2 o3 fun y z => cmpR op' y z fun k' => Kb k' ρ3) X') ∧ (k = false → Kb false ρ2)) ha hb ok s h hX fun o1 o2 v w g2 ρ2 H2 q x2 ro pins s2 σ2 u z I rv rw' => ?_
  obtain ⟨t1, t2, e1, e2, h⟩ := two_elim q
  have q1 := (orep2 ro).1.rd x2.st e1
  have q2 := (orep2 ro).2.rd x2.st e2
  refine cmpR_ok ok.K (by omega) I rv rw' q1 q2 h fun kk q => ⟨kk, rfl, ?_⟩
  cases kk with
  | false => exact hK false ρ2 g2 H2 (q.2 rfl) x2
  | true =>
    refine hd ok x2.st (q.1 rfl) (fun n fs y => (hX n fs y).up x2.le) fun o3 ρ3 v3 g3 H3 q3 x3 r3 => ?_
    obtain ⟨t2', t3, e2', e3, h3⟩ := two_elim q3
    have r2 := ORep.keep x2.st x3 (orep2 ro).2 (ORep.nwF (orep2 ro).2)
    exact fun pins s4 σ4 u4 z4 I4 rv4 rw4 => cmpR_ok ok.K (by omega) I4 rv4 rw4 (r2.rd x3.st e2') (r3.rd x3.st e3) h3 fun kk q => hK kk ρ3 g3 H3 q (x2.trans x3)
theorem se_chn {op op' : Cop} (hm : lastMarks [copP op, copP op'] [b, d] = false) (ha : SE nm sc a ea) (hb : SE nm sc b eb) (hd : SE nm sc d ed) : SE nm sc (.Compare a [copP op, copP op'] [b, d] pos) (.chn op op' ea eb ed) := by
  intro X W B k c Wx ok g ρ σ H K X' Q s h hX hK
  unfold wpE at h
  exact ew_of (pe_chain rA_ok rA_ok pe_ew pe_ew pe_ew hm) (chn_ok (Kb := fun k ρ => K (.val (.bl k) false) ρ) ha hb hd ok s h hX fun kk ρ1 g1 H1 q x => hK _ _ _ _ _ q x (show Rep W g1 H1 (.bl kk) (.bl kk) from .bl kk))
theorem sb_chn {op op' : Cop} (hm : lastMarks [copP op, copP op'] [b, d] = false) (ha : SE nm sc a ea) (hb : SE nm sc b eb) (hd : SE nm sc d ed) : SB nm sc (.Compare a [copP op, copP op'] [b, d] pos) (.chn op op' ea eb ed) := by
  intro X W B k c Wx ok g ρ σ H K X' Q s h hX hK
  unfold wpB at h
  exact tw_of (pt_chain rA_ok rA_ok pe_ew pe_ew pe_ew hm) (chn_ok (Kb := K) ha hb hd ok s h hX fun kk ρ1 g1 H1 q x => ⟨kk, rfl, hK _ _ _ _ q x⟩)
end
end Zl

set_option Elab.async false
set_option linter.all false
set_option maxRecDepth 100000
set_option maxHeartbeats 4000000
/-! Z14: displays, built-ins. -/
namespace Zl
open PySem PySem.Spec PyProof.Rows L2
/-! ### how many operands come -/
def Es.len : Es → Nat
  | .nil => 0
  | .cons _ es => es.len + 1
theorem wpEs_len {c : Pr} (hc : c.Mono) : ∀ (es : Es) (ρ : Env) (Q : List Opd → Env → Prop) (X : KX), wpEs c es ρ Q X → wpEs c es ρ (fun os ρ1 => os.length = es.len ∧ Q os ρ1) X
  | .nil, ρ, Q, X, h => by unfold wpEs at *; exact ⟨rfl, h⟩
  | .cons e es, ρ, Q, X, h => by
    unfold wpEs at *
    refine wpE_mono hc e _ _ _ _ _ (fun o ρ1 y => ?_) (fun _ _ y => y) h
    exact wpEs_mono hc es _ _ _ _ _ (fun os ρ2 z => ⟨by show os.length + 1 = es.len + 1; rw [z.1], z.2⟩) (fun _ _ y => y) (wpEs_len hc es _ _ _ y)
theorem fzs_len : ∀ {os : List Opd} {ρ ρ' : Env} {ts : List T}, fzs ρ os = some (ts, ρ') → ts.length = os.length
  | [], ρ, ρ', ts, e => by unfold fzs at e; cases e; rfl
  | o :: os, ρ, ρ', ts, e => by
    unfold fzs at e
    split at e
    · split at e
      · rename_i h; cases e; rw [List.length_cons, List.length_cons, fzs_len h]
      · cases e
    · cases e
section
variable {nm : Nm} {sc : Sc} {es : List Expr} {e : Expr} {ess : Es} {pos p : Pos}
variable {X : Cx} {W : Wd} {B : Fb} {k : Nat} {c : Pr} {Wx : WX} {g : Gh} {ρ : Env} {σ : L2.St} {H : Hp} {X' : KX} {pins : List (Addr × Obj)} {s2 : Shared}
theorem Cok.mono (ok : Cok nm sc X W B k c Wx) : c.Mono := ⟨fun f sl Q Q' X X' h hX x => ok.pf.mono h hX x, fun b cs Q Q' X X' h hX x => ok.pf.cmo h hX x⟩
/-- values that nobody writes any more, in a row -/
theorem ses_fz (hs : SEs nm sc es ess) (ok : Cok nm sc X W B k c Wx) (s : Sr W B g ρ σ H) {R : List T → Env → Prop} {Q : List V → Hp → Prop} (h : wpEs c ess ρ (fun os ρ1 => match fzs ρ1 os with
    | some (ts, ρ2) => R ts ρ2
    | none => False) X') (hX : ∀ n fs, X' n fs → XT W B g σ Wx n fs)
    (hQ : ∀ ts vs g2 ρ2 H2, R ts ρ2 → ts.length = ess.len → Ex W B σ (nw H) g ρ H g2 ρ2 H2 → RepL W g2 H2 vs ts → Q vs H2) : AW X es σ H Q := by
  refine hs ok s (wpEs_len ok.mono _ _ _ _ h) hX fun os ρ1 vs g1 H1 ⟨hl, k1⟩ x1 r1 => ?_
  split at k1
  · rename_i ts ρ2 ec
    obtain ⟨g2, x2, rl⟩ := ORepL.fzs x1.st r1 ec
    exact hQ ts vs g2 ρ2 H1 k1 (by rw [fzs_len ec]; exact hl) (x1.trans' x2 (fun _ h => h) fun a ha => .inl (fresh_nw r1 a ha)) rl
  · exact k1.elim
end
section
variable {nm : Nm} {sc : Sc} {es : List Expr} {e : Expr} {ess : Es} {pos p : Pos}
theorem len_ok {n : Nat} (h : n ≤ 1000) : n ≤ sizeLine := Nat.le_of_lt (small1000 h)
theorem se_tup {kk : Nat} (hl : ess.len ≤ 1000) (hs : SEs nm sc es ess) : SE nm sc (.Tuple es kk pos) (.tup ess) := by
  intro X W B k c Wx ok g ρ σ H K X' Q s h hX hK
  unfold wpE at h
  refine ew_of (pe_tup pa_aw) (ses_fz (R := fun ts ρ2 => K (.val (.tup ts) false) ρ2) hs ok s h hX fun ts vs g2 ρ2 H2 q lt x2 rl => ⟨len_ok (by rw [rl.length, lt]; exact hl), fun p' hp => fin_new hK x2 (.tup hp rl) q⟩)
theorem se_lst (hl : ess.len ≤ 1000) (hs : SEs nm sc es ess) : SE nm sc (.List es pos) (.lst ess) := by
  intro X W B k c Wx ok g ρ σ H K X' Q s h hX hK
  unfold wpE at h
  refine ew_of (pe_lst pa_aw) (ses_fz (R := fun ts ρ2 => K (.val (.lst ts) true) ρ2) hs ok s h hX fun ts vs g2 ρ2 H2 q lt x2 rl => ⟨len_ok (by rw [rl.length, lt]; exact hl), fun p' hp => fin_new hK x2 (.lst hp rl) q⟩)
end
/-! ### the built-ins -/
def bltX : Blt → Str
  | .len => "len" | .tuple => "tuple" | .list => "list" | .all => "all" | .any => "any" | .sorted => "sorted" | .repr => "repr" | .int => "int" | .sum => "sum" | .max => "max" | .min => "min" | .max2 => "max" | .min2 => "min" | .abs => "abs" | _ => "?"
def bltF : Blt → Value
  | .len => .builtin "len" | .tuple => .type "tuple" | .list => .type "list" | .all => .builtin "all" | .any => .builtin "any" | .sorted => .builtin "sorted" | .repr => .builtin "repr" | .int => .type "int" | .sum => .builtin "sum" | .max => .builtin "max" | .min => .builtin "min"
  | .max2 => .builtin "max" | .min2 => .builtin "min" | .abs => .builtin "abs" | .gcd => .builtin "math.gcd" | _ => .none
section
variable {W : Wd} {X : Cx} {pins : List (Addr × Obj)} {σ : L2.St} {g : Gh} {H : Hp} {s : Shared}
theorem allBl_rep : ∀ {vs : List V} {ts : List T} {bs : List Bool}, RepL W g H vs ts → allBl ts = some bs → vs = bs.map V.bl
  | _, _, _, .nil, e => by unfold allBl at e; cases e; rfl
  | _, _, bs, .cons (t := t) r rs, e => by
    cases t with
    | bl b =>
      simp only [allBl, Option.map_eq_some_iff] at e
      obtain ⟨cs, e1, e2⟩ := e
      subst e2
      cases r
      rw [List.map_cons, allBl_rep rs e1]
    | _ => simp [allBl] at e
theorem allInt_rep : ∀ {vs : List V} {ts : List T} {ns : List Int}, RepL W g H vs ts → allInt ts = some ns → vs = ns.map V.int
  | _, _, _, .nil, e => by unfold allInt at e; cases e; rfl
  | _, _, ns, .cons (t := t) r rs, e => by
    cases t with
    | int i =>
      simp only [allInt, Option.map_eq_some_iff] at e
      obtain ⟨cs, e1, e2⟩ := e
      subst e2
      cases r
      rw [List.map_cons, allInt_rep rs e1]
    | _ => simp [allInt] at e
theorem pds_enc : ∀ {ts : List T} {ds : List PyData}, pds ts = some ds → ds = ts.map T.enc ∧ ∀ t ∈ ts, t.pd = some t.enc
  | [], ds, e => by simp only [pds, Option.some.injEq] at e; subst e; exact ⟨rfl, fun t h => by cases h⟩
  | t :: ts, ds, e => by
    simp only [pds] at e
    split at e
    · rename_i x xs e1 e2
      cases e
      obtain ⟨a, b⟩ := pds_enc e2
      have et : t.enc = x := by unfold T.enc; rw [e1]; rfl
      refine ⟨by rw [List.map_cons, et, a], fun u hu => ?_⟩
      rcases List.mem_cons.mp hu with z | z
      · subst z; rw [et]; exact e1
      · exact b u z
    · cases e
mutual
theorem pd_plain : ∀ {t : T} {d : PyData}, t.pd = some d → d.hasDict = false
  | .non, d, e => by simp only [T.pd, Option.some.injEq] at e; subst e; rfl
  | .bl b, d, e => by simp only [T.pd, Option.some.injEq] at e; subst e; rfl
  | .int b, d, e => by simp only [T.pd, Option.some.injEq] at e; subst e; rfl
  | .str b, d, e => by simp only [T.pd, Option.some.injEq] at e; subst e; rfl
  | .tup xs, d, e => by
    simp only [T.pd, Option.map_eq_some_iff] at e
    obtain ⟨ds, e1, e2⟩ := e
    subst e2
    show PyData.hasDictAll ds = false
    exact pds_plain e1
  | .lst xs, d, e => by
    simp only [T.pd, Option.map_eq_some_iff] at e
    obtain ⟨ds, e1, e2⟩ := e
    subst e2
    show PyData.hasDictAll ds = false
    exact pds_plain e1
  | .scr xs, d, e => by simp [T.pd] at e
  | .dct xs, d, e => by simp [T.pd] at e
  | .ins c xs, d, e => by simp [T.pd] at e
  | .fn xs, d, e => by simp [T.pd] at e
  | .clo b xs, d, e => by simp [T.pd] at e
theorem pds_plain : ∀ {t : List T} {d : List PyData}, pds t = some d → PyData.hasDictAll d = false
  | [], d, e => by simp only [pds, Option.some.injEq] at e; subst e; rfl
  | t :: ts, d, e => by
    simp only [pds] at e
    split at e
    · rename_i x xs e1 e2
      cases e
      show (PyData.hasDict x || PyData.hasDictAll xs) = false
      rw [pd_plain e1, pds_plain e2]; rfl
    · cases e
end
open PySem.W in
theorem each_of : ∀ {vs : List V} {us : List Value} {ts : List T}, RepL W g H vs ts → Vals vs us → EachIs (fun u t => ∃ v, RelV v u ∧ Rep W g H v t) us ts
  | _, _, _, .nil, .nil => .nil
  | _, _, _, .cons r rs, .cons q qs => .cons ⟨_, q, r⟩ (each_of rs qs)
open PySem.W in
theorem of_each : ∀ {us : List Value} {ts : List T}, EachIs (fun u t => ∃ v, RelV v u ∧ Rep W g H v t) us ts → ∃ vs, Vals vs us ∧ RepL W g H vs ts
  | _, _, .nil => ⟨[], .nil, .nil⟩
  | _, _, .cons ⟨v, q, r⟩ t => let ⟨vs, a, b⟩ := of_each t; ⟨v :: vs, .cons q a, .cons r b⟩
open PySem.W in
theorem each_reads (hK : X.K = W.K) (I : Inv X pins σ H s) : ∀ {vs : List V} {us : List Value} {ts : List T}, RepL W g H vs ts → Vals vs us → (∀ t ∈ ts, t.pd = some t.enc) → EachIs (fun u t => ∃ as, Reads s.heap u (T.enc t) as) us ts
  | _, _, _, .nil, .nil, _ => .nil
  | _, _, _, .cons r rs, .cons q qs, h => .cons (Dp.reads I _ _ _ (by rw [hK]; exact r.dp (h _ List.mem_cons_self)) q) (each_reads hK I rs qs fun t ht => h t (List.mem_cons_of_mem _ ht))
theorem vals_1 {v : V} {us : List Value} (r : Vals [v] us) : ∃ u, us = [u] ∧ RelV v u := vals1 r
open PySem.W in
/-- sorted(xs) -/
theorem sorted_ok (hK : X.K = W.K) (hu : X.A.units + 200 < cLine) (I : Inv X pins σ H s) {a : Addr} {vs : List V} {xs : List T} {Q : VK} (h : H a = some (.lst vs)) (rl : RepL W g H vs xs) (hs : sortable xs)
    (hq : ∀ p ws, H p = none → RepL W g H ws (xs.mergeSort tLe) → Q (.ref p) (upd H p (.lst ws))) : wpAny (model X.prog X.w) X.A (call (.builtin "sorted") [.ref a]) (EP X pins σ Q) X.xe s := by
  unfold sortable at hs
  split at hs
  · rename_i ds e
    obtain ⟨h1, h2⟩ := pds_enc e
    subst h1
    obtain ⟨its, rv, pl, hz⟩ := I.list (SqL.of (K := X.K) h)
    have hl : s.heap.IsList a its.toArray := pl.isList
    have hlen : xs.length ≤ sizeLine := by rw [← rl.length]; exact hz
    refine sorted_data (β := T) (bs := xs) (enc := T.enc) (R := fun u t => ∃ v, RelV v u ∧ Rep W g H v t) hl (each_of rl rv) (each_reads hK I rl rv h2) hs.1 hs.2.1 hlen (fun b hb => ?_) fun out hol eo => ?_
    · have := hs.2.2 (T.enc b) (List.mem_map.mpr ⟨b, hb, rfl⟩)
      omega
    · obtain ⟨ws, r1, r2⟩ := of_each eo
      have hp : H (s.heap.objs.size + 1) = none := I.hok.fresh (Nat.le_succ _)
      obtain ⟨n, hn⟩ := sortedAll_at s.heap its out.toArray
      refine ⟨.ref _, upd H (s.heap.objs.size + 1) (.lst ws), ?_, rfl, hq _ ws hp r2⟩
      exact I.laid (t' := s.toks) (fun b u e => sortedAll_old e) (Nat.le_succ _) ⟨by rw [r1.length, hol]; exact hlen, out, n, r1, hn⟩
  · exact hs.elim
theorem lst_ns (I : Inv X pins σ H s) (bo : ∃ o, X.base.get? sysModules = some o) {a : Addr} {o : HO} (e : H a = some o) : a ≠ sysModules := fun z => by
  subst z
  obtain ⟨o', e'⟩ := bo
  rw [(I.bs _ _ e').2] at e; cases e
theorem dK_nil (I : Inv X pins σ H s) {a : Addr} (e : H a = some (.dK [])) : Reads s.heap (.ref a) (.dict []) [a] := by
  obtain ⟨_, _, vs, r, o, es, ep, ho, ed, hd, _, pr, _⟩ := I.hok a _ e
  cases r
  have e0 : es.toList = [] := by
    cases q : es.toList with
    | nil => rfl
    | cons x y => rw [q] at pr; cases pr
  have := Reads.dict (kvs := []) ho ed.1 hd (by rw [e0]; exact .nil) (by rw [e0]; exact .nil)
  exact this
mutual
theorem Rep.rds (hK : X.K = W.K) (bo : ∃ o, X.base.get? sysModules = some o) (I : Inv X pins σ H s) : ∀ {v : V} {t : T} {d : PyData} {u : Value}, Rep W g H v t → t.sd = some d → RelV v u → ∃ as, Reads s.heap u d as ∧ sysModules ∉ as
  | _, _, d, u, .non, e, rv => by simp only [T.sd, Option.some.injEq] at e; subst e; cases rv; exact ⟨_, .none, by simp⟩
  | _, _, d, u, .bl b, e, rv => by simp only [T.sd, Option.some.injEq] at e; subst e; cases rv; exact ⟨_, .bool b, by simp⟩
  | _, _, d, u, .int b, e, rv => by simp only [T.sd, Option.some.injEq] at e; subst e; obtain ⟨t, rfl⟩ := rv; exact ⟨_, .int b t, by simp⟩
  | _, _, d, u, .str b, e, rv => by simp only [T.sd, Option.some.injEq] at e; subst e; obtain ⟨t, rfl⟩ := rv; exact ⟨_, .str b t, by simp⟩
  | _, _, d, u, .tup h r, e, rv => by
    simp only [T.sd, Option.map_eq_some_iff] at e
    obtain ⟨ds, e1, e2⟩ := e
    subst e2
    cases rv
    obtain ⟨its, rv, ⟨o, ho, hc, n, hd⟩, _⟩ := I.tuple (by rw [hK]; exact h.sq)
    obtain ⟨as, hr, hn⟩ := RepL.rds hK bo I r e1 rv
    exact ⟨_, Reads.tuple ho hc hd hr, hn⟩
  | _, _, d, u, .lst h e' r, e, rv => by
    simp only [T.sd, Option.map_eq_some_iff] at e
    obtain ⟨ds, e1, e2⟩ := e
    subst e2
    cases rv
    obtain ⟨its, rv, ⟨o, n, ho, hc, _, hd⟩, _⟩ := I.list (SqL.of (K := X.K) e')
    obtain ⟨as, hr, hn⟩ := RepL.rds hK bo I r e1 rv
    exact ⟨_, Reads.list ho hc hd hr, fun z => (List.mem_cons.mp z).elim (fun q => lst_ns I bo e' q.symm) hn⟩
  | _, _, d, u, .scr e' r, e, rv => by simp [T.sd] at e
  | _, _, d, u, .dct h e' .nil, e, rv => by
    simp [T.sd] at e
    subst e; cases rv
    exact ⟨_, dK_nil I e', fun z => (List.mem_cons.mp z).elim (fun q => lst_ns I bo e' q.symm) fun z => by cases z⟩
  | _, _, d, u, .dct h e' (.cons _ _), e, rv => by simp [T.sd] at e
  | _, _, d, u, .ins m h e' r, e, rv => by simp [T.sd] at e
  | _, _, d, u, .fn x, e, rv => by simp [T.sd] at e
  | _, _, d, u, .clo e' i e2 c r, e, rv => by simp [T.sd] at e
theorem RepL.rds (hK : X.K = W.K) (bo : ∃ o, X.base.get? sysModules = some o) (I : Inv X pins σ H s) : ∀ {vs : List V} {ts : List T} {ds : List PyData} {us : List Value}, RepL W g H vs ts → sds ts = some ds → Vals vs us → ∃ as, ReadsAll s.heap us ds as ∧ sysModules ∉ as
  | _, _, ds, us, .nil, e, rv => by simp only [sds, Option.some.injEq] at e; subst e; cases rv; exact ⟨_, .nil, by simp⟩
  | _, _, ds, us, .cons r rs, e, rv => by
    simp only [sds] at e
    split at e
    · rename_i x xs e1 e2
      cases e
      cases rv with
      | cons q qs =>
        obtain ⟨as, h1, n1⟩ := Rep.rds hK bo I r e1 q
        obtain ⟨bs, h2, n2⟩ := RepL.rds hK bo I rs e2 qs
        exact ⟨_, .cons h1 h2, fun z => (List.mem_append.mp z).elim n1 n2⟩
    · cases e
end
theorem RepB.rds (hK : X.K = W.K) (bo : ∃ o, X.base.get? sysModules = some o) (I : Inv X pins σ H s) {v : V} {t : T} {d : PyData} {u : Value} (r : RepB W g H v t) (e : t.sd = some d) (rv : RelV v u) : ∃ as, Reads s.heap u d as ∧ sysModules ∉ as := by
  rcases r with r | ⟨a, rfl, r⟩
  · exact r.rds hK bo I e rv
  · cases rv
    cases t with
    | lst ts =>
      obtain ⟨vs, h, r⟩ := r
      simp only [T.sd, Option.map_eq_some_iff] at e
      obtain ⟨ds, e1, e2⟩ := e
      subst e2
      obtain ⟨its, rv, ⟨o, n, ho, hc, _, hd⟩, _⟩ := I.list (SqL.of (K := X.K) h)
      obtain ⟨as, hr, hn⟩ := RepL.rds hK bo I r e1 rv
      exact ⟨_, Reads.list ho hc hd hr, fun z => (List.mem_cons.mp z).elim (fun q => lst_ns I bo h q.symm) hn⟩
    | dct kts =>
      obtain ⟨kvs, h, r⟩ := r
      cases r with
      | nil =>
        simp [T.sd] at e
        subst e
        exact ⟨_, dK_nil I h, fun z => (List.mem_cons.mp z).elim (fun q => lst_ns I bo h q.symm) fun z => by cases z⟩
      | cons _ _ => simp [T.sd] at e
    | _ => exact r.elim
theorem repr_ok (hK : X.K = W.K) (bo : ∃ o, X.base.get? sysModules = some o) (hu : X.A.units + 200 < cLine) (hg : X.A.guards = some []) (I : Inv X pins σ H s) {v : V} {u : Value} {t : T} {d : PyData} {Q : VK} (r : RepB W g H v t) (e : t.sd = some d) (rv : RelV v u) (ha : ∃ a, v = .ref a) (h1 : d.showable = true) (h2 : d.depth ≤ 64) (h3 : d.shown.length ≤ sizeLine) (hq : Q (.str d.shown) H) :
    wpAny (model X.prog X.w) X.A (call (.builtin "repr") [u]) (EP X pins σ Q) X.xe s := by
  obtain ⟨a, rfl⟩ := ha
  cases rv
  obtain ⟨as, rd, ns⟩ := r.rds hK bo I e (show RelV (.ref a) (.ref a) from rfl)
  exact repr_of_reads' rd h1 (fun _ => ns) hg (by omega) (fun _ _ e => e) (fun h' u tk hk => ⟨.str _, H, I.kept (t' := tk) hk, ⟨_, rfl⟩, hq⟩) h3
end
section
variable {nm : Nm} {sc : Sc} {X : Cx} {W : Wd} {B : Fb} {k : Nat} {c : Pr} {Wx : WX} {g : Gh} {ρ : Env} {σ : L2.St} {H : Hp} {X' : KX} {pins : List (Addr × Obj)} {s2 : Shared}
theorem p1 {P : V → T → Prop} {vs : List V} {t : T} (r : Paired P vs [t]) : ∃ v, vs = [v] ∧ P v t := by
  cases r with
  | cons a r => cases r; exact ⟨_, rfl, a⟩
theorem p2 {P : V → T → Prop} {vs : List V} {t u : T} (r : Paired P vs [t, u]) : ∃ v w, vs = [v, w] ∧ P v t ∧ P w u := by
  cases r with
  | cons a r => cases r with
    | cons b r => cases r; exact ⟨_, _, rfl, a, b⟩
def isSet : Blt → Bool
  | .sset => true
  | _ => false
theorem blt_ok (ok : Cok nm sc X W B k c Wx) (I : Inv X pins σ H s2) {b : Blt} {ts : List T} {vs : List V} {us : List Value} {Kv : KV} {Q : VK} (rb : Paired (RepB W g H) vs ts) (r : Vals vs us) (hns : isSet b = false) (h : bltR b ts Kv) (hq : ∀ t f v H', Kv t f → NewR W g H H' v t f → Q v H') :
    wpAny (model X.prog X.w) X.A (call (bltF b) us) (EP X pins σ Q) X.xe s2 := by
  have un := ok.room.un
  unfold bltR at h
  split at h
  · obtain ⟨v, rfl, q⟩ := p1 rb
    obtain ⟨a, ws, rfl, e, rl⟩ := q.lst
    exact call_len_seq pins s2 σ H _ us Q I r ⟨a, ws, rfl, .inl (.of e), by rw [rl.length]; exact hq _ _ _ _ h (.same (.int _))⟩
  · obtain ⟨v, rfl, q⟩ := p1 rb
    obtain ⟨a, ws, rfl, e, rl, _⟩ := q.tup
    exact call_len_seq pins s2 σ H _ us Q I r ⟨a, ws, rfl, .inr (by rw [ok.K]; exact e), by rw [rl.length]; exact hq _ _ _ _ h (.same (.int _))⟩
  · obtain ⟨v, rfl, q⟩ := p1 rb
    obtain ⟨a, ws, rfl, e, rl⟩ := q.dct
    exact call_lenD pins s2 σ H _ us Q I r ⟨a, ws, rfl, e, by rw [rl.length]; exact hq _ _ _ _ h (.same (.int _))⟩
  · obtain ⟨v, rfl, q⟩ := p1 rb
    obtain ⟨a, ws, rfl, e, rl⟩ := q.lst
    exact call_tuple_of pins s2 σ H _ us Q I r ⟨a, ws, rfl, .inl ⟨.of e, fun l hl => hq _ _ _ _ h (.tup hl rl)⟩⟩
  · obtain ⟨v, rfl, q⟩ := p1 rb
    obtain ⟨a, ws, rfl, e, rl, te⟩ := q.tup
    exact call_tuple_of pins s2 σ H _ us Q I r ⟨a, ws, rfl, .inr ⟨by rw [ok.K]; exact e, hq _ _ _ _ h (.same (.tup te rl))⟩⟩
  · obtain ⟨v, rfl, q⟩ := p1 rb
    obtain ⟨a, ws, rfl, e, rl⟩ := q.lst
    exact call_list_of pins s2 σ H _ us Q I r ⟨a, ws, rfl, .inl (.of e), fun l hl => hq _ _ _ _ h (.lst hl rl)⟩
  · obtain ⟨v, rfl, q⟩ := p1 rb
    obtain ⟨a, ws, rfl, e, rl, te⟩ := q.tup
    exact call_list_of pins s2 σ H _ us Q I r ⟨a, ws, rfl, .inr (by rw [ok.K]; exact e), fun l hl => hq _ _ _ _ h (.lst hl rl)⟩
  · obtain ⟨v, rfl, q⟩ := p1 rb
    obtain ⟨a, ws, rfl, e, rl⟩ := q.scr
    exact call_list_of pins s2 σ H _ us Q I r ⟨a, ws, rfl, .inl (by rw [ok.K]; exact e), fun l hl => hq _ _ _ _ h (.lst hl rl)⟩
  · obtain ⟨v, rfl, q⟩ := p1 rb
    obtain ⟨a, ws, rfl, e, rl⟩ := q.scr
    exact call_len_seq pins s2 σ H _ us Q I r ⟨a, ws, rfl, .inl (by rw [ok.K]; exact e), by rw [rl.length]; exact hq _ _ _ _ h (.same (.int _))⟩
  · split at h
    · rename_i bs eb
      obtain ⟨v, rfl, q⟩ := p1 rb
      obtain ⟨a, ws, rfl, e, rl⟩ := q.lst
      rw [allBl_rep rl eb] at e
      exact cr_all ok.calm pins s2 σ H _ us Q I r ⟨a, bs, rfl, .of e, hq _ _ _ _ h (.same (.bl _))⟩
    · exact h.elim
  · split at h
    · rename_i bs eb
      obtain ⟨v, rfl, q⟩ := p1 rb
      obtain ⟨a, ws, rfl, e, rl⟩ := q.lst
      rw [allBl_rep rl eb] at e
      exact cr_any ok.calm pins s2 σ H _ us Q I r ⟨a, bs, rfl, .of e, hq _ _ _ _ h (.same (.bl _))⟩
    · exact h.elim
  · exact absurd hns (by simp [isSet])
  · obtain ⟨v, rfl, q⟩ := p1 rb
    obtain ⟨a, ws, rfl, e, rl⟩ := q.lst
    obtain ⟨u, rfl, ru⟩ := vals1 r
    cases ru
    exact sorted_ok ok.K (by omega) I e rl h.1 fun p ws' hp rl' => hq _ _ _ _ h.2 (.lst hp rl')
  · split at h
    · rename_i ds ed
      obtain ⟨v, rfl, q⟩ := p1 rb
      obtain ⟨u, rfl, ru⟩ := vals1 r
      obtain ⟨a, ws, rfl, e, rl⟩ := q.lst
      exact repr_ok ok.K ok.bo.1 (by omega) ok.gd I q (by simp only [T.sd, ed, Option.map_some]) ru ⟨_, rfl⟩ h.1 h.2.1 h.2.2.1 (hq _ _ _ _ h.2.2.2 (.same (.str _)))
    · exact h.elim
  · split at h
    · rename_i ds ed
      obtain ⟨v, rfl, q⟩ := p1 rb
      obtain ⟨u, rfl, ru⟩ := vals1 r
      obtain ⟨a, ws, rfl, e, rl⟩ := q.tup
      exact repr_ok ok.K ok.bo.1 (by omega) ok.gd I q (by simp only [T.sd, ed, Option.map_some]) ru ⟨_, rfl⟩ h.1 h.2.1 h.2.2.1 (hq _ _ _ _ h.2.2.2 (.same (.str _)))
    · exact h.elim
  · rename_i kvs
    obtain ⟨v, rfl, q⟩ := p1 rb
    obtain ⟨u, rfl, ru⟩ := vals1 r
    obtain ⟨a, ws, rfl, e, rl⟩ := q.dct
    exact repr_ok ok.K ok.bo.1 (by omega) ok.gd I q (by simp only [T.sd, h.1, if_true]) ru ⟨_, rfl⟩ (by decide) (by decide) (by decide +kernel) (hq _ _ _ _ h.2 (.same (.str _)))
  · obtain ⟨v, rfl, q⟩ := p1 rb
    cases q.int
    exact SkE.call_repr_int pins s2 σ H _ us Q I r ⟨_, rfl, h.1, hq _ _ _ _ h.2 (.same (.str _))⟩
  · obtain ⟨v, rfl, q⟩ := p1 rb
    cases q.bl
    obtain ⟨u, rfl, ru⟩ := vals1 r
    cases ru
    exact PySem.P.repr_of_bool ⟨.str _, H, I.tok _, ⟨_, rfl⟩, hq _ _ _ _ h (.same (.str _))⟩
  · obtain ⟨v, rfl, q⟩ := p1 rb
    cases q.non
    obtain ⟨u, rfl, ru⟩ := vals1 r
    cases ru
    exact PySem.P.repr_of_none ⟨.str _, H, I.tok _, ⟨_, rfl⟩, hq _ _ _ _ h (.same (.str _))⟩
  · obtain ⟨v, rfl, q⟩ := p1 rb
    cases q.int
    exact call_int1 pins s2 σ H _ us Q I r (.inl ⟨_, rfl, hq _ _ _ _ h (.same (.int _))⟩)
  · obtain ⟨v, rfl, q⟩ := p1 rb
    cases q.bl
    exact call_int1 pins s2 σ H _ us Q I r (.inr ⟨_, rfl, hq _ _ _ _ h (.same (.int _))⟩)
  · split at h
    · rename_i bs eb
      obtain ⟨v, rfl, q⟩ := p1 rb
      obtain ⟨a, ws, rfl, e, rl⟩ := q.lst
      rw [allInt_rep rl eb] at e
      exact cr_sum ok.calm pins s2 σ H _ us Q I r ⟨a, bs, rfl, .of e, hq _ _ _ _ h (.same (.int _))⟩
    · exact h.elim
  · split at h
    · rename_i bs eb
      obtain ⟨v, rfl, q⟩ := p1 rb
      obtain ⟨a, ws, rfl, e, rl⟩ := q.lst
      rw [allInt_rep rl eb] at e
      exact cr_max ok.calm pins s2 σ H _ us Q I r ⟨a, bs, rfl, .of e, h.1, fun m hm hy => hq _ _ _ _ (h.2 m hm hy) (.same (.int _))⟩
    · exact h.elim
  · split at h
    · rename_i bs eb
      obtain ⟨v, rfl, q⟩ := p1 rb
      obtain ⟨a, ws, rfl, e, rl⟩ := q.lst
      rw [allInt_rep rl eb] at e
      exact cr_min ok.calm pins s2 σ H _ us Q I r ⟨a, bs, rfl, .of e, h.1, fun m hm hy => hq _ _ _ _ (h.2 m hm hy) (.same (.int _))⟩
    · exact h.elim
  · obtain ⟨v, w, rfl, q1, q2⟩ := p2 rb
    cases q1.int; cases q2.int
    exact call_max2 ok.calm pins s2 σ H _ us Q I r ⟨_, _, rfl, hq _ _ _ _ h (.same (.int _))⟩
  · obtain ⟨v, w, rfl, q1, q2⟩ := p2 rb
    cases q1.int; cases q2.int
    exact call_min2 ok.calm pins s2 σ H _ us Q I r ⟨_, _, rfl, hq _ _ _ _ h (.same (.int _))⟩
  · obtain ⟨v, rfl, q⟩ := p1 rb
    cases q.int
    exact call_abs pins s2 σ H _ us Q I r ⟨_, rfl, hq _ _ _ _ h (.same (.int _))⟩
  · obtain ⟨v, w, rfl, q1, q2⟩ := p2 rb
    cases q1.int; cases q2.int
    exact cr_gcd pins s2 σ H _ us Q I r ⟨_, _, rfl, hq _ _ _ _ h (.same (.int _))⟩
  · exact h.elim
end
end Zl
namespace Zl
open PySem PySem.Spec PyProof.Rows L2
def bltK (b : Blt) : Bool := match b with
  | .gcd => false | .sset => false | .lset => false | .sdict => false | .dict => false
  | _ => true
theorem blt_boot {b : Blt} (h : bltK b = true) : bootBuiltins (bltX b) = some (bltF b) ∧ plainName (bltX b) = true ∧ ((∃ id, bltF b = .builtin id) ∨ ∃ T, bltF b = .type T) := by
  cases b <;> first | exact absurd h (by decide) | exact ⟨rfl, by decide, .inl ⟨_, rfl⟩⟩ | exact ⟨rfl, by decide, .inr ⟨_, rfl⟩⟩
section
variable {nm : Nm} {sc : Sc} {es : List Expr} {e : Expr} {ess : Es} {pos p : Pos}
theorem ew_callB {X : Cx} {σ : L2.St} {H : Hp} {u : Value} {Q : VK} {f : Str} (hg : Gl X f) (hm : X.mg f = none) (hv : bootBuiltins f = some u) (hu : (∃ id, u = .builtin id) ∨ ∃ T, u = .type T) (hn : plainName f = true) (hp : (e :: es).all plainE = true)
    (h : AW X (e :: es) σ H fun vs H1 => ∀ pins s us, Inv X pins σ H1 s → Vals vs us → wpAny (model X.prog X.w) X.A (call u us) (EP X pins σ Q) X.xe s) : EW X (.Call (.Name f p) (e :: es) [] pos) σ H Q := by
  rw [List.all_cons, Bool.and_eq_true] at hp
  intro pins s I
  rcases hu with ⟨id, rfl⟩ | ⟨T, rfl⟩
  · refine wpAny_Call_Name_kw (ld_blt I hg hm hv ?_ (plainName_nm hn) (plainName_dbg hn))
    exact PyProof.Rows.callWith_builtin1 (thn (h pos pins s I) fun us s1 ⟨vs, H1, I1, r1, q1⟩ => q1 pins s1 us I1 r1) (star_cons hp.1) (star_plain hp.2)
  · refine wpAny_Call_Name_kw (ld_blt I hg hm hv ?_ (plainName_nm hn) (plainName_dbg hn))
    exact PyProof.Rows.callWith_type1 (thn (h pos pins s I) fun us s1 ⟨vs, H1, I1, r1, q1⟩ => q1 pins s1 us I1 r1) (star_cons hp.1) (star_plain hp.2)
theorem ew_callI {X : Cx} {σ : L2.St} {H : Hp} {id : String} {Q : VK} {f : Str} (hg : Gl X f) (hm : X.mg f = some (.builtin id)) (hn : plainName f = true) (hp : (e :: es).all plainE = true)
    (h : AW X (e :: es) σ H fun vs H1 => ∀ pins s us, Inv X pins σ H1 s → Vals vs us → wpAny (model X.prog X.w) X.A (call (.builtin id) us) (EP X pins σ Q) X.xe s) : EW X (.Call (.Name f p) (e :: es) [] pos) σ H Q := by
  rw [List.all_cons, Bool.and_eq_true] at hp
  intro pins s I
  refine wpAny_Call_Name_kw (ld_glob I hg hm ?_ (plainName_dbg hn))
  exact PyProof.Rows.callWith_builtin1 (thn (h pos pins s I) fun us s1 ⟨vs, H1, I1, r1, q1⟩ => q1 pins s1 us I1 r1) (star_cons hp.1) (star_plain hp.2)
theorem se_bltA {X : Cx} {W : Wd} {B : Fb} {k : Nat} {c : Pr} {Wx : WX} (ok : Cok nm sc X W B k c Wx) {g : Gh} {ρ : Env} {σ : L2.St} {H : Hp} {K : KE'} {X' : KX} {Q : VK} {b : Blt} (hns : isSet b = false) (hs : SEs nm sc es ess) (s : Sr W B g ρ σ H) (h : wpE c (.blt b ess) ρ K X') (hX : ∀ n fs, X' n fs → XT W B g σ Wx n fs)
    (hK : ∀ o ρ1 v g1 H1, K o ρ1 → Ex W B σ (nw H) g ρ H g1 ρ1 H1 → ORep W B g1 ρ1 σ H1 H v o → Q v H1) : AW X es σ H fun vs H1 => ∀ pins s us, Inv X pins σ H1 s → Vals vs us → wpAny (model X.prog X.w) X.A (call (bltF b) us) (EP X pins σ Q) X.xe s := by
  unfold wpE at h
  refine hs ok s h hX fun os ρ1 vs g1 H1 k1 x1 r1 => ?_
  split at k1
  · rename_i ts et
    intro pins s2 us I r
    exact blt_ok ok I (ORepL.rds x1.st r1.all et) r hns k1 fun t f v H' q n => fin_new hK x1 n q
  · exact k1.elim
theorem se_blt {b : Blt} (hb : bltK b = true) (hm : bltX b ∈ nm.blts) (hg : glB sc (bltX b) = true) (hp : (e :: es).all plainE = true) (hs : SEs nm sc (e :: es) ess) : SE nm sc (.Call (.Name (bltX b) p) (e :: es) [] pos) (.blt b ess) := by
  intro X W B k c Wx ok g ρ σ H K X' Q s h hX hK
  obtain ⟨h1, h2, h3⟩ := blt_boot hb
  exact ew_callB (ok.gl hg) (ok.pf.blt _ hm) h1 h3 h2 hp (se_bltA ok (by cases b <;> first | rfl | cases hb) hs s h hX hK)
theorem se_gcd (hm : ("gcd" : Str) ∈ nm.imps) (hg : glB sc ("gcd" : Str) = true) (hp : (e :: es).all plainE = true) (hs : SEs nm sc (e :: es) ess) : SE nm sc (.Call (.Name ("gcd" : Str) p) (e :: es) [] pos) (.blt .gcd ess) := by
  intro X W B k c Wx ok g ρ σ H K X' Q s h hX hK
  exact ew_callI (ok.gl hg) (ok.pf.imp _ hm) (by decide) hp (se_bltA ok rfl hs s h hX hK)
end
end Zl

set_option Elab.async false
set_option linter.all false
set_option maxRecDepth 100000
set_option maxHeartbeats 4000000
/-! Z15: isinstance, methods, ranges. -/
namespace Zl
open PySem PySem.Spec PyProof.Rows L2
/-! ### isinstance -/
def tysN : List String := ["int", "bool", "str", "tuple", "list", "dict"]
theorem kit_tab : ∀ a ∈ tysA, ∀ n ∈ tysN, kitB a n = some (tabB a n) := by decide +kernel
def insT : T → Bool
  | .ins _ _ => true
  | _ => false
section
variable {W : Wd} {X : Cx} {pins : List (Addr × Obj)} {σ : L2.St} {g : Gh} {H : Hp} {s : Shared}
theorem ty_of {t : T} {v : V} {K : PySem.W.Frag} (hK : K = W.K) (r : RepB W g H v t) (ho : tyOk t = true) (hi : insT t = false) : TyX K H v (.type (tyT t)) := by
  subst hK
  cases t with
  | non => cases r.non; exact .base .non
  | bl b => cases r.bl; exact .base (.bl b)
  | int b => cases r.int; exact .base (.int b)
  | str b => cases r.str; exact .base (.str b)
  | tup xs =>
    obtain ⟨a, vs, rfl, e, _, te⟩ := r.tup
    rcases te with e | ⟨o, its, n, e, hc, _⟩
    · exact .base (.tup e)
    · exact .kTuple e hc
  | lst xs => obtain ⟨a, vs, rfl, e, _⟩ := r.lst; exact .base (.lst e)
  | scr xs => cases ho
  | dct xs => obtain ⟨a, vs, rfl, e, _⟩ := r.dct; exact .base (.dK e)
  | ins n fs => cases hi
  | fn x => cases ho
  | clo b x => cases ho
theorem tyT_mem {t : T} (ho : tyOk t = true) (hi : insT t = false) : tyT t ∈ tysA := by
  cases t with
  | ins n fs => exact absurd hi (by simp [insT])
  | fn x => exact absurd ho (by simp [tyOk])
  | clo b x => exact absurd ho (by simp [tyOk])
  | scr x => exact absurd ho (by simp [tyOk])
  | _ => simp [tyT, tysA]
/-- the class that a name means -/
def clV (W : Wd) : Cl → V
  | .ty n => .ty n
  | .own d => .ref (W.CA d)
def clU (W : Wd) : Cl → Value
  | .ty n => .type n
  | .own d => .ref (W.CA d)
theorem cl_rel {W : Wd} (cl : Cl) : ClsV (clV W cl) (clU W cl) ∧ RelV (clV W cl) (clU W cl) := by
  cases cl with
  | ty n => exact ⟨.ty n, rfl⟩
  | own d => exact ⟨.own _, rfl⟩
end
section
variable {nm : Nm} {sc : Sc}
/-- py names the class cl -/
def ClX (nm : Nm) (sc : Sc) (py : Expr) (cl : Cl) : Prop := ∃ x p, py = .Name x p ∧ glB sc x = true ∧ plainName x = true ∧ (match cl with
  | .ty n => x ∈ nm.blts ∧ bootBuiltins x = some (.type n) ∧ n ∈ tysN ∧ n ∈ nm.tys
  | .own d => x = d ∧ d ∈ nm.isas)
variable {X : Cx} {W : Wd} {B : Fb} {k : Nat} {c : Pr} {Wx : WX} {g : Gh} {ρ : Env} {σ : L2.St} {H : Hp} {X' : KX} {pins : List (Addr × Obj)} {s2 : Shared}
theorem clx_ew {py : Expr} {cl : Cl} (h : ClX nm sc py cl) (ok : Cok nm sc X W B k c Wx) {Q : VK} (q : Q (clV W cl) H) : EW X py σ H Q := by
  obtain ⟨x, p, rfl, hg, hn, h⟩ := h
  cases cl with
  | ty n => exact ew_of (pe_bltn (v := .ty n) (ok.gl hg) (ok.pf.blt x h.1) h.2.1 rfl (plainName_nm hn) (plainName_dbg hn)) q
  | own d =>
    obtain ⟨rfl, hd⟩ := h
    exact ew_of (pe_glob (v := .ref (W.CA x)) (ok.gl hg) (ok.pf.isa x hd).1 rfl (plainName_dbg hn)) q
theorem kit_cl {py : Expr} {cl : Cl} (h : ClX nm sc py cl) (ok : Cok nm sc X W B k c Wx) {t : T} {v : V} (r : RepB W g H v t) (ho : tyOk t = true) : ∃ tv, TyX X.K H v tv ∧ (∀ py' cl', ClX nm sc py' cl' → PySem.W.kitOne X.K tv (clU W cl') = some (isaT c t cl')) := by
  rw [ok.K]
  cases hi : insT t with
  | true =>
    cases t with
    | ins n fs =>
      obtain ⟨m, a, dx, vs, rfl, e, _⟩ := r.ins
      have F := ok.pf.okc n m
      refine ⟨_, .base (.ins e F.cls F.ha F.hn F.htk F.hm), fun py' cl' h' => ?_⟩
      obtain ⟨x, p, _, _, _, h'⟩ := h'
      cases cl' with
      | ty d =>
        show PySem.W.kitOne W.K (.ref (W.CA n)) (.type d) = some (tabB "?" d)
        rw [F.tys d h'.2.2.2]
        congr 1
        have : d ∈ tysN := h'.2.2.1
        revert this
        exact (show ∀ d ∈ tysN, false = tabB "?" d by decide) d
      | own d => exact F.sub d h'.2
    | _ => cases hi
  | false =>
    refine ⟨_, ty_of rfl r ho hi, fun py' cl' h' => ?_⟩
    obtain ⟨x, p, _, _, _, h'⟩ := h'
    cases cl' with
    | ty d => exact kit_ty (kit_tab _ (tyT_mem ho hi) d h'.2.2.1)
    | own d =>
      have e : isaT c t (.own d) = false := by
        cases t <;> first | rfl | cases hi
      rw [e]
      exact (ok.pf.isa d h'.2).2 _ (tyT_mem ho hi)
end
section
variable {nm : Nm} {sc : Sc} {a : Expr} {ea : E} {pos p p2 : Pos}
theorem se_isi {py : Expr} {cl : Cl} (hm : ("isinstance" : Str) ∈ nm.blts) (hg : glB sc ("isinstance" : Str) = true) (hp : plainE a = true) (ha : SE nm sc a ea) (hc : ClX nm sc py cl) : SE nm sc (.Call (.Name ("isinstance" : Str) p) [a, py] [] pos) (.isi ea [cl]) := by
  intro X W B k c Wx ok g ρ σ H K X' Q s h hX hK
  unfold wpE at h
  have pc : plainE py = true := by obtain ⟨x, p, rfl, _⟩ := hc; rfl
  refine ew_callB (ok.gl hg) (ok.pf.blt _ hm) rfl (.inl ⟨_, rfl⟩) (by decide) (by rw [List.all_cons, List.all_cons, hp, pc]; rfl) ?_
  refine aw_of (pa_cons pe_ew (pa_cons pe_ew pa_nil (star_cons pc)) (star_cons hp)) (se_one (R := fun x ρ1 => tyOk x = true ∧ K (.val (.bl ([cl].any (isaT c x))) false) ρ1) ha ok s h hX fun x v g1 ρ1 H1 ⟨to, q⟩ x1 r => ?_)
  refine clx_ew hc ok ?_
  intro pins s2 us I rus
  obtain ⟨tv, ty, hk⟩ := kit_cl hc ok r to
  refine call_isi pins s2 σ H1 _ us _ I rus ⟨v, clV W cl, tv, clU W cl, _, rfl, (cl_rel cl).1, ty, hk _ _ hc, ?_⟩
  refine fin_new hK x1 (.same (.bl _)) ?_
  have e : [cl].any (isaT c x) = isaT c x cl := by rw [List.any_cons, List.any_nil, Bool.or_false]
  rw [← e]; exact q
theorem se_isi2 {py1 py2 : Expr} {cl1 cl2 : Cl} {kk : Nat} (hm : ("isinstance" : Str) ∈ nm.blts) (hg : glB sc ("isinstance" : Str) = true) (hp : plainE a = true) (ha : SE nm sc a ea) (h1 : ClX nm sc py1 cl1) (h2 : ClX nm sc py2 cl2) : SE nm sc (.Call (.Name ("isinstance" : Str) p) [a, .Tuple [py1, py2] kk p2] [] pos) (.isi ea [cl1, cl2]) := by
  intro X W B k c Wx ok g ρ σ H K X' Q s h hX hK
  unfold wpE at h
  have pc1 : plainE py1 = true := by obtain ⟨x, p, rfl, _⟩ := h1; rfl
  have pc2 : plainE py2 = true := by obtain ⟨x, p, rfl, _⟩ := h2; rfl
  refine ew_callB (ok.gl hg) (ok.pf.blt _ hm) rfl (.inl ⟨_, rfl⟩) (by decide) (by rw [List.all_cons, List.all_cons, hp]; rfl) ?_
  refine aw_of (pa_cons pe_ew (pa_cons pe_ew pa_nil (star_cons rfl)) (star_cons hp)) (se_one (R := fun x ρ1 => tyOk x = true ∧ K (.val (.bl ([cl1, cl2].any (isaT c x))) false) ρ1) ha ok s h hX fun x v g1 ρ1 H1 ⟨to, q⟩ x1 r => ?_)
  refine ew_of (pe_tup (pa_cons pe_ew (pa_cons pe_ew pa_nil (star_cons pc2)) (star_cons pc1))) ?_
  refine clx_ew h1 ok (clx_ew h2 ok ⟨by show 2 ≤ sizeLine; exact len_ok (by omega), fun tp htp => ?_⟩)
  intro pins s2 us I rus
  have x2 : Ex W B σ (nw H1) g1 ρ1 H1 g1 ρ1 (upd H1 tp (.tup [clV W cl1, clV W cl2])) := .alloc x1.st htp
  have r' : RepB W g1 (upd H1 tp (.tup [clV W cl1, clV W cl2])) v x := by
    rcases r with r | ⟨b, e, r⟩
    · exact .inl (r.keep (Ex.keeps x1.st x2))
    · refine .inr ⟨b, e, r.keep (Ex.keeps x1.st x2) fun o ho => ?_⟩
      rw [upd_ne (fun z => by subst z; rw [htp] at ho; cases ho)]
      exact ho
  obtain ⟨tv, ty, hk⟩ := kit_cl h1 ok r' to
  have ka : PySem.W.kitAny X.K tv [clU W cl1, clU W cl2] = some ([cl1, cl2].any (isaT c x)) := by
    refine kitAny_cons (hk _ _ h1) (fun e => ?_) fun e => ?_
    · rw [List.any_cons, e, Bool.false_or]
      refine kitAny_cons (hk _ _ h2) (fun e2 => ?_) fun e2 => ?_
      · rw [List.any_cons, e2]; exact kitAny_nil
      · rw [List.any_cons, e2]; rfl
    · rw [List.any_cons, e]; rfl
  refine call_isiT pins s2 σ _ _ us _ I rus ⟨v, tp, [clV W cl1, clV W cl2], tv, [clU W cl1, clU W cl2], _, rfl, upd_same, .cons (cl_rel cl1).1 (.cons (cl_rel cl2).1 .nil), ty, ka, ?_⟩
  exact fin_new hK (x1.trans x2) (.same (.bl _)) q
end
end Zl

set_option Elab.async false
set_option linter.all false
set_option maxRecDepth 100000
set_option maxHeartbeats 4000000
/-! Z16: methods of built-in types. -/
namespace Zl
open PySem PySem.Spec PyProof.Rows L2
def mA (X : Cx) (id : String) : V → List V → Hp → VK → Prop := fun x xs H Q => ∀ pins s σ v us, Inv X pins σ H s → RelV x v → Vals xs us → wpAny (model X.prog X.w) X.A (call (.builtin id) (v :: us)) (EP X pins σ Q) X.xe s
theorem mA_ok {X : Cx} {id : String} : MtR X id (mA X id) := fun pins s σ H x xs v us Q I rx rs h => h pins s σ v us I rx rs
theorem few1 {e : Expr} {env : PySem.Env} {pos : Pos} (h : plainE e = true) : ((backTo pos (starEach [e] env)).all (fun x => !x.1) && (backToKw pos (keywordEach [] env)).all (fun x => x.1.isSome)
      && decide (([e] : List Expr).length + ([] : List Keyword).length + (if ([] : List Keyword).isEmpty then 0 else 1) < 30)) = true := by
  rw [star_cons h]; rfl
theorem few2 {e f : Expr} {env : PySem.Env} {pos : Pos} (h : plainE e = true) (h2 : plainE f = true) : ((backTo pos (starEach [e, f] env)).all (fun x => !x.1) && (backToKw pos (keywordEach [] env)).all (fun x => x.1.isSome)
      && decide (([e, f] : List Expr).length + ([] : List Keyword).length + (if ([] : List Keyword).isEmpty then 0 else 1) < 30)) = true := by
  rw [star_cons h, star_cons h2]; rfl
section
variable {nm : Nm} {sc : Sc} {o e f : Expr} {eo ea eb : E} {ess : Es} {apos cpos : Pos}
theorem ew_bm1 {X : Cx} {σ : L2.St} {H : Hp} {Q : VK} {T id : String} {name : Str} (pa : PlainAttrs T) (slot : PySem.Slot T name id) (hty : typeOf (.builtin id) = pure (.type "method_descriptor")) (hb : attributeBase o name X.env (eval o X.env) = eval o X.env) (hp : plainE e = true) (hl : (apos.endLine == cpos.line) = true)
    (h : EW X o σ H fun x H1 => tyV X.K T x H1 ∧ EW X e σ H1 fun y H2 => mA X id x [y] H2 Q) : EW X (.Call (.Attribute o name apos) [e] [] cpos) σ H Q :=
  ew_of (pe_bm pa slot hty mA_ok pe_ew (pa_cons pe_ew pa_nil (star_cons hp)) hb (few1 hp) hl (star_cons hp) rfl) h
theorem ok_index {t : T} (h : mtOk .index t) : ∃ xs, t = .lst xs := by
  cases t <;> first | exact h.elim | exact ⟨_, rfl⟩
theorem ok_get {t : T} (h : mtOk .get t) : ∃ xs, t = .dct xs := by
  cases t <;> first | exact h.elim | exact ⟨_, rfl⟩
theorem ok_bits {t : T} (h : mtOk .bitlen t) : ∃ i, t = .int i := by
  cases t <;> first | exact h.elim | exact ⟨_, rfl⟩
theorem get_index {x t : T} {Kv : KV} (h : mthR .index x [t] Kv) : ∃ xs ds d, x = .lst xs ∧ pds xs = some ds ∧ t.pd = some d ∧ (SeqAt.shaped (.list ds) = true ∧ SeqAt.shaped d = true) ∧ ∃ j z, ds[j]? = some z ∧ PyData.eqv z d = true ∧ (∀ (m : Nat) z', m < j → ds[m]? = some z' → PyData.eqv z' d = false) ∧ Kv (.int (j : Nat)) false := by
  cases x <;> first | exact h.elim | skip
  unfold mthR at h
  dsimp only at h
  split at h
  · rename_i e1 e2; exact ⟨_, _, _, rfl, e1, e2, h⟩
  · exact h.elim
theorem get_get {x t u : T} {Kv : KV} (h : mthR .get x [t, u] Kv) : ∃ kvs k, x = .dct kvs ∧ keyT t = some k ∧ u.scal = true ∧ Kv ((dlook kvs k).getD u) false := by
  cases x <;> first | exact h.elim | skip
  unfold mthR at h
  dsimp only at h
  split at h
  · rename_i e1; exact ⟨_, _, rfl, e1, h⟩
  · exact h.elim
theorem get_bits {x : T} {Kv : KV} (h : mthR .bitlen x [] Kv) : ∃ i, x = .int i ∧ Kv (.int (Builtin.Int.intBits i : Nat)) false := by
  cases x <;> first | exact h.elim | exact ⟨_, rfl, h⟩
theorem rds1 {ρ : Env} {o : Opd} {ts : List T} (h : rds ρ [o] = some ts) : ∃ t, rd ρ o = some t ∧ ts = [t] := by
  unfold rds at h
  split at h
  · rename_i e1 e2
    unfold rds at e2
    cases e2; cases h
    exact ⟨_, e1, rfl⟩
  · cases h
theorem rds2 {ρ : Env} {o p : Opd} {ts : List T} (h : rds ρ [o, p] = some ts) : ∃ t u, rd ρ o = some t ∧ rd ρ p = some u ∧ ts = [t, u] := by
  unfold rds at h
  split at h
  · rename_i e1 e2
    obtain ⟨u, e3, rfl⟩ := rds1 e2
    cases h
    exact ⟨_, _, e1, e3, rfl⟩
  · cases h
theorem se_index (hb : ∀ env, attributeBase o "index" env (eval o env) = eval o env) (hp : plainE e = true) (hl : (apos.endLine == cpos.line) = true) (ho : SE nm sc o eo) (ha : SE nm sc e ea) : SE nm sc (.Call (.Attribute o "index" apos) [e] [] cpos) (.mth .index eo (.cons ea .nil)) := by
  intro X W B k c Wx ok g ρ σ H K X' Q s h hX hK
  unfold wpE at h
  have un := ok.room.un
  refine ew_bm1 PySem.F.plainAttrs_list PySem.F.slot_list_index PySem.F.type_list_index (hb _) hp hl (ho ok s h hX fun o1 ρ1 v g1 H1 k1 x1 r1 => ?_)
  obtain ⟨t0, e0, mo, k1⟩ := one_elim k1
  obtain ⟨xs0, rfl⟩ := ok_index mo
  obtain ⟨a, vs0, rfl, eh, _⟩ := (r1.rd x1.st e0).lst
  refine ⟨.inl ⟨rfl, vs0, .of eh⟩, ?_⟩
  unfold wpEs at k1
  refine ha ok x1.st k1 (fun n fs y => (hX n fs y).up x1.le) fun o2 ρ2 w g2 H2 k2 x2 r2 => ?_
  unfold wpEs at k2
  dsimp only at k2
  split at k2
  · rename_i x ts ex et
    have q1 := (ORep.keep x1.st x2 r1 (ORep.nwF r1)).rd x2.st ex
    obtain ⟨t, e2, rfl⟩ := rds1 et
    have q2 := r2.rd x2.st e2
    obtain ⟨xs, ds, d, rfl, ed1, ed2, ⟨sd, se⟩, j, z, ej, ez, hm, q⟩ := get_index k2
    intro pins s2 σ2 u us I rv rus
    exact mt_indexD (by omega) pins s2 σ2 H2 _ _ _ _ _ I rv rus ⟨a, w, d, ds, j, z, rfl, rfl, by rw [ok.K]; exact q1.dp (by simp only [T.pd, ed1, Option.map_some]), by rw [ok.K]; exact q2.dp ed2, sd, se, ej, ez, hm, fin_new hK (x1.trans x2) (.same (.int _)) q⟩
  · exact k2.elim
theorem se_bits (hb : ∀ env, attributeBase o "bit_length" env (eval o env) = eval o env) (hl : (apos.endLine == cpos.line) = true) (ho : SE nm sc o eo) : SE nm sc (.Call (.Attribute o "bit_length" apos) [] [] cpos) (.mth .bitlen eo .nil) := by
  intro X W B k c Wx ok g ρ σ H K X' Q s h hX hK
  unfold wpE at h
  refine ew_of (pe_bits pe_ew (hb _) hl) (ho ok s h hX fun o1 ρ1 v g1 H1 k1 x1 r1 => ?_)
  obtain ⟨t0, e0, mo, k1⟩ := one_elim k1
  unfold wpEs at k1
  split at k1
  · rename_i x ts ex et
    unfold rds at et; cases et
    obtain ⟨i, rfl, q⟩ := get_bits k1
    cases (r1.rd x1.st ex).int
    exact ⟨i, rfl, fin_new hK x1 (.same (.int _)) q⟩
  · exact k1.elim
theorem se_get (hb : ∀ env, attributeBase o "get" env (eval o env) = eval o env) (hp : plainE e = true) (hp2 : plainE f = true) (hl : (apos.endLine == cpos.line) = true) (ho : SE nm sc o eo) (ha : SE nm sc e ea) (hf : SE nm sc f eb) : SE nm sc (.Call (.Attribute o "get" apos) [e, f] [] cpos) (.mth .get eo (.cons ea (.cons eb .nil))) := by
  intro X W B k c Wx ok g ρ σ H K X' Q s h hX hK
  unfold wpE at h
  refine ew_of (pe_dget2 ok.un pe_ew pe_ew pe_ew ⟨hb _, few2 hp hp2, hl, by rw [star_cons hp, star_cons hp2]; rfl⟩) (ho ok s h hX fun o1 ρ1 v g1 H1 k1 x1 r1 => ?_)
  obtain ⟨t0, e0, mo, k1⟩ := one_elim k1
  obtain ⟨xs0, rfl⟩ := ok_get mo
  obtain ⟨a, vs0, rfl, eh, _⟩ := (r1.rd x1.st e0).dct
  refine ⟨a, rfl, .inl ⟨vs0, .of eh⟩, ?_⟩
  unfold wpEs at k1
  refine ha ok x1.st k1 (fun n fs y => (hX n fs y).up x1.le) fun o2 ρ2 w g2 H2 k2 x2 r2 => ?_
  unfold wpEs at k2
  refine hf ok x2.st k2 (fun n fs y => (hX n fs y).up (x1.trans x2).le) fun o3 ρ3 w3 g3 H3 k3 x3 r3 => ?_
  unfold wpEs at k3
  dsimp only at k3
  split at k3
  · rename_i x ts ex et
    obtain ⟨t, u, e2, e3, rfl⟩ := rds2 et
    have r1' := ORep.keep x1.st x2 r1 (ORep.nwF r1)
    have q1 := (ORep.keep x2.st x3 r1' (ORep.nwF r1')).rd x3.st ex
    have q2 := (ORep.keep x2.st x3 r2 (ORep.nwF r2)).rd x3.st e2
    have q3 := r3.rd x3.st e3
    obtain ⟨kvs, ky, rfl, ek, sc', q⟩ := get_get k3
    obtain ⟨a', vs, ea', eh', rl⟩ := q1.dct
    cases ea'
    refine ⟨_, dget_of ek q2 eh', ?_⟩
    cases ed : dlook kvs ky with
    | some tt =>
      obtain ⟨y, ey, ry⟩ := valV_of rl ed
      rw [ey]
      rw [ed] at q
      exact fin_new hK ((x1.trans x2).trans x3) (.same ry) q
    | none =>
      rw [(rl.look (k := ky)).2 ed]
      rw [ed] at q
      -- the default: a value that nobody writes
      rcases q3 with q3 | ⟨b, e, ow⟩
      · exact fin_new hK ((x1.trans x2).trans x3) (.same q3) q
      · cases u <;> first | exact ow.elim | cases sc'
  · exact k3.elim
end
end Zl

set_option Elab.async false
set_option linter.all false
set_option maxRecDepth 100000
set_option maxHeartbeats 4000000
/-! Z17: append, pop, ranges, dict displays. -/
namespace Zl
open PySem PySem.Spec PyProof.Rows L2
section
variable {W : Wd} {B : Fb} {σ : L2.St} {g g1 : Gh} {ρ ρ1 : Env} {H H1 : Hp} {F : Addr → Prop}
/-- a list that a name holds alone is written -/
theorem Ex.writeL (s : Sr W B g ρ σ H) {i : Nat} {a : Addr} {t : T} {vs : List V} {ts : List T} (h : ρ[i]? = some (.ow t)) (hσ : σ[i]? = some (some (.ref a))) (r : RepL W g H vs ts) : Ex W B σ F g ρ H g (ρ.set i (.ow (.lst ts))) (upd H a (.lst vs)) := by
  obtain ⟨b, e, n, _, h0⟩ := s.sl i _ h
  rw [hσ] at e; cases e
  exact Ex.write s h rfl hσ rfl (fun _ z => by cases z) fun k => ⟨a, hσ, n, ⟨vs, upd_same, r.keep k⟩, h0⟩
theorem Ex.writeD (s : Sr W B g ρ σ H) {i : Nat} {a : Addr} {t : T} {vs : List (Key × V)} {ts : List (Key × T)} (h : ρ[i]? = some (.ow t)) (hσ : σ[i]? = some (some (.ref a))) (r : RepK W g H vs ts) : Ex W B σ F g ρ H g (ρ.set i (.ow (.dct ts))) (upd H a (.dK vs)) := by
  obtain ⟨b, e, n, _, h0⟩ := s.sl i _ h
  rw [hσ] at e; cases e
  exact Ex.write s h rfl hσ rfl (fun _ z => by cases z) fun k => ⟨a, hσ, n, ⟨vs, upd_same, r.keep k⟩, h0⟩
theorem Ex.writeDI (s : Sr W B g ρ σ H) {i : Nat} {a : Addr} {t : T} {vs : List (Key × V)} {ts : List (Key × T)} (h : ρ[i]? = some (.io t)) (hσ : σ[i]? = some (some (.ref a))) (r : RepK W g H vs ts) : Ex W B σ F g ρ H g (ρ.set i (.io (.dct ts))) (upd H a (.dK vs)) := by
  obtain ⟨b, e, n, _, h0⟩ := s.sl i _ h
  rw [hσ] at e; cases e
  exact Ex.write s h rfl hσ rfl (fun _ z => by cases z) fun k => ⟨a, hσ, n, ⟨vs, upd_same, r.keep k⟩, h0⟩
theorem own_lst {xs : List T} {i : Nat} (s : Sr W B g ρ σ H) (h : ρ[i]? = some (.ow (.lst xs))) : ∃ a vs, σ[i]? = some (some (.ref a)) ∧ H a = some (.lst vs) ∧ RepL W g H vs xs := by
  obtain ⟨a, e, _, ⟨vs, eh, rl⟩, _⟩ := s.sl i _ h
  exact ⟨a, vs, e, eh, rl⟩
end
section
variable {nm : Nm} {sc : Sc} {e : Expr} {ea : E} {apos cpos pos : Pos} {x : Str} {i : Nat}
theorem base_name {p : Pos} {m : Str} {env : PySem.Env} : attributeBase (.Name x p) m env (eval (.Name x p) env) = eval (.Name x p) env := rfl
theorem ew_nm {X : Cx} {W : Wd} {B : Fb} {k : Nat} {c : Pr} {Wx : WX} (ok : Cok nm sc X W B k c Wx) (hN : sc.N[i]? = some x) (hv : visB sc x = true) (hp : plainName x = true) {σ : L2.St} {H : Hp} {Q : VK} {v : V} (e : σ[i]? = some (some v)) (q : Q v H) : EW X (.Name x pos) σ H Q :=
  ew_of (pe_var (i := i) (by rw [ok.N]; exact hN) (ok.vis hv) (plainName_dbg hp) (plainName_cd hp)) ⟨v, e, q⟩
theorem se_app {p : Pos} (hN : sc.N[i]? = some x) (hv : visB sc x = true) (hn : plainName x = true) (hp : plainE e = true) (hl : (apos.endLine == cpos.line) = true) (ha : SE nm sc e ea) : SE nm sc (.Call (.Attribute (.Name x p) "append" apos) [e] [] cpos) (.app i ea) := by
  intro X W B k c Wx ok g ρ σ H K X' Q s h hX hK
  unfold wpE at h
  split at h
  · rename_i xs e0
    obtain ⟨a, vs, ea0, eh, rl⟩ := own_lst s e0
    refine ew_bm1 PySem.F.plainAttrs_list PySem.F.slot_list_append PySem.F.type_list_append base_name hp hl (ew_nm ok hN hv hn ea0 ⟨.inl ⟨rfl, vs, .of eh⟩, ?_⟩)
    refine ha ok s h hX fun o ρ1 w g1 H1 k1 x1 r1 => ?_
    split at k1
    · rename_i t ρ2 ef
      obtain ⟨g2, x2, rt⟩ := r1.fz x1.st ef
      split at k1
      · rename_i xs2 e2
        obtain ⟨a2, vs2, ea2, eh2, rl2⟩ := own_lst x2.st e2
        rw [ea0] at ea2; cases ea2
        have x3 := x2.st |> fun z => Ex.writeL (F := nw H1) z e2 ea0 (rl2.append (.cons rt .nil))
        have x : Ex W B σ (nw H) g ρ H g2 _ _ := (x1.trans' x2 (fun _ h => h) fun b hb => by
          obtain ⟨_, _, _, _, _, _, _, z⟩ := fresh_some r1 hb
          exact .inl z).trans x3
        intro pins s2 σ2 u us I rv rus
        exact mt_append pins s2 σ2 H1 _ _ _ _ _ I rv rus ⟨a, vs2, w, rfl, rfl, eh2, by rw [rl2.length]; exact k1.1, hK _ _ _ _ _ k1.2 x (show Rep W g2 _ .non .non from .non)⟩
      · exact k1.elim
    · exact k1.elim
  · exact h.elim
theorem se_pop {p : Pos} (hN : sc.N[i]? = some x) (hv : visB sc x = true) (hn : plainName x = true) (hl : (apos.endLine == cpos.line) = true) : SE nm sc (.Call (.Attribute (.Name x p) "pop" apos) [] [] cpos) (.pop i) := by
  intro X W B k c Wx ok g ρ σ H K X' Q s h hX hK
  unfold wpE at h
  split at h
  · rename_i xs e0
    obtain ⟨a, vs, ea0, eh, rl⟩ := own_lst s e0
    split at h
    · rename_i y ey
      have ey' : xs[xs.length - 1]? = some y := by rw [List.getLast?_eq_getElem?] at ey; exact ey
      obtain ⟨v, ev, rv⟩ := rl.get ey'
      have x3 := Ex.writeL (F := nw H) s e0 ea0 rl.dropLast
      refine ew_of (pe_bm0 PySem.F.plainAttrs_list PySem.F.slot_list_pop PySem.F.type_list_pop mt_pop pe_ew base_name hl) (ew_nm ok hN hv hn ea0 ⟨.inl ⟨rfl, vs, .of eh⟩, ?_⟩)
      exact ⟨a, vs, v, rfl, rfl, eh, by rw [rl.length]; exact ev, hK _ _ _ _ _ h x3 (show Rep W g _ v y from rv.keep (Ex.keeps s x3))⟩
    · exact h.elim
  · exact h.elim
theorem se_popAt {p : Pos} (hN : sc.N[i]? = some x) (hv : visB sc x = true) (hn : plainName x = true) (hp : plainE e = true) (hl : (apos.endLine == cpos.line) = true) (ha : SE nm sc e ea) : SE nm sc (.Call (.Attribute (.Name x p) "pop" apos) [e] [] cpos) (.popAt i ea) := by
  intro X W B k c Wx ok g ρ σ H K X' Q s h hX hK
  unfold wpE at h
  split at h
  · rename_i xs e0
    obtain ⟨a, vs, ea0, eh, rl⟩ := own_lst s e0
    refine ew_bm1 PySem.F.plainAttrs_list PySem.F.slot_list_pop PySem.F.type_list_pop base_name hp hl (ew_nm ok hN hv hn ea0 ⟨.inl ⟨rfl, vs, .of eh⟩, ?_⟩)
    refine ha ok s h hX fun o ρ1 w g1 H1 k1 x1 r1 => ?_
    obtain ⟨t, et, k1⟩ := one_elim k1
    have rb := r1.rd x1.st et
    split at k1
    · cases rb.int
      split at k1
      · rename_i z _ xs2 e2
        obtain ⟨a2, vs2, ea2, eh2, rl2⟩ := own_lst x1.st e2
        rw [ea0] at ea2; cases ea2
        obtain ⟨j, y, ej, ey, q⟩ := k1
        obtain ⟨v, ev, rv⟩ := rl2.get ey
        obtain ⟨sj, jl, z1, z2⟩ := ixN_seq ej
        have x3 := Ex.writeL (F := nw H1) x1.st e2 ea0 (rl2.eraseIdx j)
        have hz : vs2.length ≤ sizeLine → True := fun _ => trivial
        intro pins s2 σ2 u us I rv' rus
        have hsz := (I.lstM eh2).1
        have l63 := line63
        rw [rl2.length] at hsz
        exact mt_popAt pins s2 σ2 H1 _ _ _ _ _ I rv' rus ⟨a, vs2, z, j, v, rfl, rfl, eh2, by omega, by omega, by rw [rl2.length]; exact sj, ev, hK _ _ _ _ _ q (x1.trans x3) (show Rep W g1 _ v y from rv.keep (Ex.keeps x1.st x3))⟩
      · exact k1.elim
    · exact k1.elim
  · exact h.elim
/-! ### list(range(a, b)), tuple(range(a, b)) -/
theorem rng_rep {W : Wd} {g : Gh} {H : Hp} (lo hi : Int) : RepL W g H (rgV lo hi) (rngT lo hi) := by
  unfold rgV rngT
  generalize List.range (hi - lo).toNat = l
  induction l with
  | nil => exact .nil
  | cons a l ih => exact .cons (.int _) ih
/-- the bounds of a range, as they are written -/
def RgX (nm : Nm) (sc : Sc) (py : Expr) (ea eb : E) : Prop := (∃ p pos b, py = .Call (.Name ("range" : Str) p) [b] [] pos ∧ ea = .int 0 ∧ SE nm sc b eb ∧ plainE b = true) ∨
  ∃ p pos a b, py = .Call (.Name ("range" : Str) p) [a, b] [] pos ∧ SE nm sc a ea ∧ SE nm sc b eb ∧ plainE a = true ∧ plainE b = true
def RW (X : Cx) (e : Expr) (σ : L2.St) (H : Hp) (Q : Int → Int → Hp → Prop) : Prop := ∃ t, PRg X e t ∧ t σ H Q
theorem se_lrng {tp : Bool} {py : Expr} {p : Pos} {ea eb : E} (hr : ("range" : Str) ∈ nm.blts) (hgr : glB sc ("range" : Str) = true) (ht : (if tp then ("tuple" : Str) else "list") ∈ nm.blts) (hgt : glB sc (if tp then ("tuple" : Str) else "list") = true) (h0 : RgX nm sc py ea eb) :
    SE nm sc (.Call (.Name (if tp then ("tuple" : Str) else "list") p) [py] [] pos) (.lrng tp ea eb) := by
  intro X W B k c Wx ok g ρ σ H K X' Q s h hX hK
  unfold wpE at h
  have fin : ∀ x y v w g2 ρ2 H2, (match x, y with
      | .int lo, .int hi => (-(2 ^ 62) ≤ lo ∧ lo < 2 ^ 62 ∧ -(2 ^ 62) ≤ hi ∧ hi < 2 ^ 62 ∧ (hi - lo).toNat ≤ 2 ^ 24) ∧ K (.val (if tp then .tup (rngT lo hi) else .lst (rngT lo hi)) (!tp)) ρ2
      | _, _ => False) → Ex W B σ (nw H) g ρ H g2 ρ2 H2 → RepB W g2 H2 v x → RepB W g2 H2 w y → ∃ lo hi, v = .int lo ∧ w = .int hi ∧ RgOk lo hi ∧ ∀ q, H2 q = none → Q (.ref q) (upd H2 q (if tp then .tup (rgV lo hi) else .lst (rgV lo hi))) := by
    intro x y v w g2 ρ2 H2 q x2 r1 r2
    split at q
    · rename_i lo hi
      cases r1.int; cases r2.int
      refine ⟨lo, hi, rfl, rfl, q.1, fun a ha => ?_⟩
      cases tp with
      | true => exact fin_new hK x2 (.tup ha (rng_rep lo hi)) q.2
      | false => exact fin_new hK x2 (.lst ha (rng_rep lo hi)) q.2
    · exact q.elim
  have pyp : plainE py = true := by rcases h0 with ⟨p, pos, b, rfl, _⟩ | ⟨p, pos, a, b, rfl, _⟩ <;> rfl
  have key : ∃ t, PRg X py t ∧ t σ H fun lo hi H1 => RgOk lo hi ∧ ∀ q, H1 q = none → Q (.ref q) (upd H1 q (if tp then .tup (rgV lo hi) else .lst (rgV lo hi))) := by
    rcases h0 with ⟨p, pos, b, rfl, rfl, hb, pb⟩ | ⟨p, pos, a, b, rfl, ha, hb, pa, pb⟩
    · refine ⟨_, prg_1 (ok.gl hgr) (ok.pf.blt _ hr) pe_ew (star_cons pb), ?_⟩
      unfold wpE at h
      refine hb ok s h hX fun o ρ1 v g1 H1 k1 x1 r1 => ?_
      obtain ⟨t1, t2, e1, e2, q⟩ := two_elim k1
      have et : t1 = .int 0 := by have e1' : some (T.int 0) = some t1 := e1; cases e1'; rfl
      subst et
      obtain ⟨lo, hi, e1', e2', q1, q2⟩ := fin _ _ (.int 0) v g1 ρ1 H1 q x1 (.inl (.int 0)) (r1.rd x1.st e2)
      cases e1'
      exact ⟨hi, e2', q1, q2⟩
    · refine ⟨_, prg_2 (ok.gl hgr) (ok.pf.blt _ hr) pe_ew pe_ew (by rw [star_cons pa]) (star_cons pb) (hp := by rw [star_cons pb]; rfl), ?_⟩
      refine se_2v (R := fun x y ρ2 => match x, y with
        | .int lo, .int hi => (-(2 ^ 62) ≤ lo ∧ lo < 2 ^ 62 ∧ -(2 ^ 62) ≤ hi ∧ hi < 2 ^ 62 ∧ (hi - lo).toNat ≤ 2 ^ 24) ∧ K (.val (if tp then .tup (rngT lo hi) else .lst (rngT lo hi)) (!tp)) ρ2
        | _, _ => False) ha hb ok s h hX fun x y v w g2 ρ2 H2 q x2 r1 r2 => ?_
      obtain ⟨lo, hi, e1', e2', q1, q2⟩ := fin _ _ v w g2 ρ2 H2 q x2 r1 r2
      exact ⟨lo, hi, e1', e2', q1, q2⟩
  obtain ⟨t, ht', q⟩ := key
  cases tp with
  | true => exact ew_of (pe_tupRg ok.calm (ok.gl hgt) (ok.pf.blt _ ht) ht' (star_cons pyp)) q
  | false => exact ew_of (pe_listRg ok.calm (ok.gl hgt) (ok.pf.blt _ ht) ht' (star_cons pyp)) q
end
end Zl

set_option Elab.async false
set_option linter.all false
set_option maxRecDepth 100000
set_option maxHeartbeats 4000000
/-! Z18: what is walked; targets. -/
namespace Zl
open PySem PySem.Spec PyProof.Rows L2
/-! ### lists are within the line -/
def HB (H : Hp) : Prop := ∀ a xs, Rd H a (.lst xs) → xs.length ≤ sizeLine
def TB (K : PySem.W.Frag) (H : Hp) : Prop := ∀ a xs, SqT K H a xs → xs.length ≤ sizeLine
section
variable {X : Cx} {σ : L2.St} {H : Hp} {e : Expr} {es : List Expr}
theorem inv_hb {pins : List (Addr × Obj)} {s : Shared} (I : Inv X pins σ H s) : HB H ∧ TB X.K H := ⟨fun a xs h => by
  obtain ⟨_, _, _, hz⟩ := I.list (X := X) (.inl h)
  exact hz, fun a xs h => by
  obtain ⟨_, _, _, hz⟩ := I.tuple h
  exact hz⟩
theorem ew_inv {Q : VK} (h : EW X e σ H fun v H' => HB H' → TB X.K H' → Q v H') : EW X e σ H Q := fun pins s I =>
  thn (h pins s I) fun u s' ⟨v, H', I', r, q⟩ => ⟨v, H', I', r, q (inv_hb I').1 (inv_hb I').2⟩
theorem aw_inv {Q : List V → Hp → Prop} (h : AW X es σ H fun v H' => HB H' → TB X.K H' → Q v H') : AW X es σ H Q := fun pos pins s I =>
  thn (h pos pins s I) fun u s' ⟨v, H', I', r, q⟩ => ⟨v, H', I', r, q (inv_hb I').1 (inv_hb I').2⟩
/-! ### what is walked -/
def IW (X : Cx) (tg iter : Expr) (σ : L2.St) (H : Hp) (R : L2.It → Hp → Prop) : Prop := ∀ pins s, Inv X pins σ H s →
  wpAny (model X.prog X.w) X.A (eval iter X.env) (fun v s1 => wpAny (model X.prog X.w) X.A (pyIter v) (PIE X pins σ tg R) X.xe s1) X.xe s
theorem pi_iw {tg iter : Expr} : PI X tg iter (IW X tg iter) := ⟨fun pins s σ H R I h => h pins s I⟩
theorem iw_of {tg iter : Expr} {wi : TI} {R : L2.It → Hp → Prop} (h : PI X tg iter wi) (q : wi σ H R) : IW X tg iter σ H R := fun pins s I => h.run pins s σ H R I q
theorem iter_l {tg : Expr} {pins : List (Addr × Obj)} {s : Shared} {R : L2.It → Hp → Prop} {E : Value → Shared → Prop} {a : Addr} {xs : List V} (I : Inv X pins σ H s) (h : SqL X.K H a xs) (q : R (Itl X.K a) H) : wpAny (model X.prog X.w) X.A (pyIter (.ref a)) (PIE X pins σ tg R) E s := by
  obtain ⟨its, _, p, _⟩ := I.list h
  exact wpAny_pyIter_list p.isList (pi_one (tk := s.toks) I _ (turn_list a _) ⟨_, Heap.get?_push_size _ rfl, rfl, rfl⟩ q)
theorem iter_t {tg : Expr} {pins : List (Addr × Obj)} {s : Shared} {R : L2.It → Hp → Prop} {E : Value → Shared → Prop} {a : Addr} {xs : List V} (I : Inv X pins σ H s) (h : SqT X.K H a xs) (q : R (Itt X.K a) H) : wpAny (model X.prog X.w) X.A (pyIter (.ref a)) (PIE X pins σ tg R) E s := by
  obtain ⟨its, _, p, _⟩ := I.tuple h
  exact wpAny_pyIter_tuple (show s.heap.IsTuple a its.toArray from p) (pi_one (tk := s.toks) I _ (turn_tuple a _) ⟨_, Heap.get?_push_size _ rfl, rfl, rfl⟩ q)
end
/-- the turns of J give the trees ts -/
def WkT (W : Wd) (g : Gh) (H : Hp) (J : L2.It) (ts : List T) : Prop := ∃ (G : Hp → Prop) (Y : Nat → Hp → V → Hp → Prop), Walk J ts.length G Y ∧ (∀ g' H', Keep g H g' H' → G H') ∧
  ∀ (i : Nat) t g' H' x H'', ts[i]? = some t → Keep g H g' H' → Y i H' x H'' → (H'' = H' ∧ Rep W g' H' x t) ∨ ∃ p vs, H' p = none ∧ H'' = upd H' p (.tup vs) ∧ x = .ref p ∧ Rep W g' H'' x t
def SI (nm : Nm) (sc : Sc) (tg py : Expr) (e : It) : Prop := ∀ {X : Cx} {W : Wd} {B : Fb} {k : Nat} {c : Pr} {Wx : WX}, Cok nm sc X W B k c Wx → ∀ {g : Gh} {ρ : Env} {σ : L2.St} {H : Hp} {K : List T → Env → Prop} {X' : KX} {R : L2.It → Hp → Prop},
  Sr W B g ρ σ H → wpIt c e ρ K X' → (∀ n fs, X' n fs → XT W B g σ Wx n fs) → (∀ ts ρ1 J g1 H1, K ts ρ1 → ts.length ≤ sizeLine → Ex W B σ (nw H) g ρ H g1 ρ1 H1 → WkT W g1 H1 J ts → R J H1) → IW X tg py σ H R
section
variable {W : Wd} {g : Gh} {H : Hp} {K : PySem.W.Frag}
theorem wk_list {a : Addr} {vs : List V} {ts : List T} (h : ∀ g' H', Keep g H g' H' → SqL K H' a vs) (r : RepL W g H vs ts) : WkT W g H (Itl K a) ts := by
  refine ⟨_, YAt vs, by rw [← r.length]; exact walk_list (xs := vs), h, fun i t g' H' x H'' et k y => .inl ⟨y.1, ?_⟩⟩
  obtain ⟨e, ex⟩ := y
  obtain ⟨v, ev, rv⟩ := r.get et
  rw [ex] at ev; cases ev
  exact rv.keep k
theorem wk_tup {a : Addr} {vs : List V} {ts : List T} (h : ∀ g' H', Keep g H g' H' → SqT K H' a vs) (r : RepL W g H vs ts) : WkT W g H (Itt K a) ts := by
  refine ⟨_, YAt vs, by rw [← r.length]; exact walk_tup (xs := vs), h, fun i t g' H' x H'' et k y => .inl ⟨y.1, ?_⟩⟩
  obtain ⟨e, ex⟩ := y
  obtain ⟨v, ev, rv⟩ := r.get et
  rw [ex] at ev; cases ev
  exact rv.keep k
theorem wk_range {lo hi : Int} : WkT W g H (Itr lo (hi - lo).toNat) (rngT lo hi) := by
  refine ⟨_, YFn (fun i => .int (lo + i)), by rw [show (rngT lo hi).length = (hi - lo).toNat by simp [rngT]]; exact walk_range, fun _ _ _ => trivial, fun i t g' H' x H'' et k y => .inl ⟨y.1, ?_⟩⟩
  obtain ⟨e, ex⟩ := y
  subst ex
  have : t = .int (lo + i) := by
    unfold rngT at et
    rw [List.getElem?_map, Option.map_eq_some_iff] at et
    obtain ⟨j, ej, rfl⟩ := et
    rw [List.getElem?_eq_some_iff] at ej
    obtain ⟨_, ej⟩ := ej
    simp at ej
    rw [ej]
  subst this
  exact .int _
theorem pair_rep {g' : Gh} {H' : Hp} {p : Addr} {x y : V} {t u : T} (hp : H' p = none) (rx : Rep W g' H' x t) (ry : Rep W g' H' y u) : Rep W g' (upd H' p (.tup [x, y])) (.ref p) (.tup [t, u]) :=
  .tup (.inl upd_same) (.cons (rx.keep (.alloc hp)) (.cons (ry.keep (.alloc hp)) .nil))
theorem wk_enum {a : Addr} {vs : List V} {ts : List T} (h : ∀ g' H', Keep g H g' H' → SqL K H' a vs) (r : RepL W g H vs ts) : WkT W g H (Ite K a) (enumT ts) := by
  have hl : (enumT ts).length = vs.length := by rw [r.length]; simp [enumT]
  refine ⟨_, _, by rw [hl]; exact walk_enum (xs := vs), h, fun i t g' H' x H'' et k yy => ?_⟩
  obtain ⟨p, y, z, e1, e2, e3, e4, e5⟩ := yy
  refine .inr ⟨p, [y, z], e2, e3, e1, ?_⟩
  dsimp only at e4 e5
  unfold enumT at et
  rw [List.getElem?_zipWith] at et
  split at et
  · rename_i j u ej eu
    cases et
    rw [List.getElem?_eq_some_iff] at ej
    obtain ⟨_, ej⟩ := ej
    simp at ej
    subst ej
    obtain ⟨v, ev, rv⟩ := r.get eu
    rw [e5] at ev; cases ev
    cases e4
    rw [e1, e3]
    exact pair_rep e2 (.int _) (rv.keep k)
  · cases et
theorem wk_zip {a b : Addr} {vs ws : List V} {ts us : List T} (h : ∀ g' H', Keep g H g' H' → SqL K H' a vs ∧ SqL K H' b ws) (r : RepL W g H vs ts) (r2 : RepL W g H ws us) : WkT W g H (Itz K a b) (zipT ts us) := by
  have hl : (zipT ts us).length = min vs.length ws.length := by rw [r.length, r2.length]; simp [zipT]
  refine ⟨_, _, walk_zip (xs := vs) (ys := ws) hl, h, fun i t g' H' x H'' et k yy => ?_⟩
  obtain ⟨p, y, z, e1, e2, e3, e4, e5⟩ := yy
  refine .inr ⟨p, [y, z], e2, e3, e1, ?_⟩
  dsimp only at e4 e5
  unfold zipT at et
  rw [List.getElem?_zipWith] at et
  split at et
  · rename_i t1 t2 ej eu
    cases et
    obtain ⟨v1, ev1, rv1⟩ := r.get ej
    obtain ⟨v2, ev2, rv2⟩ := r2.get eu
    rw [e4] at ev1; cases ev1
    rw [e5] at ev2; cases ev2
    rw [e1, e3]
    exact pair_rep e2 (rv1.keep k) (rv2.keep k)
  · cases et
end
section
variable {nm : Nm} {sc : Sc} {tg a b : Expr} {ea eb : E} {p pos : Pos}
/-- a list that nobody writes any more -/
theorem lst_stays {W : Wd} {g : Gh} {H : Hp} {K : PySem.W.Frag} {v : V} {xs : List T} (r : Rep W g H v (.lst xs)) : ∃ a vs, v = .ref a ∧ Rd H a (.lst vs) ∧ RepL W g H vs xs ∧ ∀ g' H', Keep g H g' H' → SqL K H' a vs := by
  cases r with
  | lst h e rl => exact ⟨_, _, rfl, .of e, rl, fun g' H' k => .of (k.obj _ _ e (.inl h))⟩
theorem scr_stays {W : Wd} {g : Gh} {H : Hp} {K : PySem.W.Frag} {v : V} {xs : List T} (r : Rep W g H v (.scr xs)) : ∃ a vs, v = .ref a ∧ (Rd H a (.lst vs) ∨ vs.length ≤ sizeLine) ∧ RepL W g H vs xs ∧ ∀ g' H', Keep g H g' H' → SqL W.K H' a vs := by
  cases r with
  | scr e rl =>
    refine ⟨_, _, rfl, ?_, rl, fun g' H' k => (e.keep k).sq⟩
    rcases e with ⟨_, e⟩ | ⟨o, e⟩ | ⟨o, its, n, _, _, _, _, hz, r⟩
    · exact .inl (.inl e)
    · exact .inl (.inr ⟨o, e⟩)
    · refine .inr ?_
      have := Paired.length r
      rw [this]
      exact hz
theorem si_val (ha : SE nm sc a ea) : SI nm sc tg a (.val ea) := by
  intro X W B k c Wx ok g ρ σ H K X' R s h hX hK
  unfold wpIt at h
  have w : EW X a σ H fun v H1 => ∃ b xs, v = .ref b ∧ ((SqL X.K H1 b xs ∧ R (Itl X.K b) H1) ∨ (SqT X.K H1 b xs ∧ R (Itt X.K b) H1)) := by
    refine ew_inv (ha ok s h hX fun o ρ1 v g1 H1 k1 x1 r1 hb tb => ?_)
    split at k1
    · rename_i t ρ2 ef
      obtain ⟨g2, x2, rt⟩ := r1.fz x1.st ef
      have x : Ex W B σ (nw H) g ρ H g2 ρ2 H1 := x1.trans' x2 (fun _ h => h) fun b hb => by
        obtain ⟨_, _, _, _, _, _, _, z⟩ := fresh_some r1 hb
        exact .inl z
      unfold itemsR at k1
      split at k1
      · obtain ⟨b, vs, rfl, rd, rl, st⟩ := lst_stays (K := X.K) rt
        exact ⟨b, vs, rfl, .inl ⟨.inl rd, hK _ _ _ _ _ k1 (by rw [← rl.length]; exact hb _ _ rd) x (wk_list st rl)⟩⟩
      · cases rt with
        | tup te rl =>
          have st : ∀ g' H', Keep g2 H1 g' H' → SqT X.K H' _ _ := fun g' H' k => by rw [ok.K]; exact (te.keep k).sq
          exact ⟨_, _, rfl, .inr ⟨st _ _ (.refl _ _), hK _ _ _ _ _ k1 (by rw [← rl.length]; exact tb _ _ (st _ _ (.refl _ _))) x (wk_tup st rl)⟩⟩
      · obtain ⟨b, vs, rfl, rd, rl, st⟩ := scr_stays (K := X.K) rt
        rw [← ok.K] at st
        exact ⟨b, vs, rfl, .inl ⟨st _ _ (.refl _ _), hK _ _ _ _ _ k1 (by rw [← rl.length]; exact rd.elim (hb _ _) fun z => z) x (wk_list st rl)⟩⟩
      · exact k1.elim
    · exact k1.elim
  intro pins s2 I
  refine thn (w pins s2 I) fun v s1 ⟨x, H1, I1, r1, b, xs, e, q⟩ => ?_
  subst e
  cases r1
  rcases q with ⟨h1, q⟩ | ⟨h1, q⟩
  · exact iter_l I1 h1 q
  · exact iter_t I1 h1 q
theorem si_rng1 (hr : ("range" : Str) ∈ nm.blts) (hg : glB sc ("range" : Str) = true) (pb : plainE b = true) (hb : SE nm sc b eb) : SI nm sc tg (.Call (.Name ("range" : Str) p) [b] [] pos) (.rng (.int 0) eb) := by
  intro X W B k c Wx ok g ρ σ H K X' R s h hX hK
  unfold wpIt at h
  unfold wpE at h
  refine iw_of (pi_range1 (ok.gl hg) (ok.pf.blt _ hr) (pa_cons pe_ew pa_nil (star_cons pb)) (star_cons pb)) (hb ok s h hX fun o ρ1 v g1 H1 k1 x1 r1 => ?_)
  obtain ⟨t1, t2, e1, e2, q⟩ := two_elim k1
  have et : some (T.int 0) = some t1 := e1
  cases et
  have rb := r1.rd x1.st e2
  cases t2 <;> first | exact q.elim | skip
  rename_i hi
  cases rb.int
  obtain ⟨⟨a1, a2, a3, a4, a5⟩, q⟩ := q
  have := wk_range (W := W) (g := g1) (H := H1) (lo := 0) (hi := hi)
  refine ⟨_, rfl, a3, a4, ?_⟩
  have r := hK _ _ _ _ _ q (by rw [show (rngT 0 hi).length = (hi - 0).toNat by simp [rngT]]; exact a5) x1 this
  rw [show hi - 0 = hi by omega] at r
  exact r
theorem si_rng2 (hr : ("range" : Str) ∈ nm.blts) (hg : glB sc ("range" : Str) = true) (pa : plainE a = true) (pb : plainE b = true) (ha : SE nm sc a ea) (hb : SE nm sc b eb) : SI nm sc tg (.Call (.Name ("range" : Str) p) [a, b] [] pos) (.rng ea eb) := by
  intro X W B k c Wx ok g ρ σ H K X' R s h hX hK
  unfold wpIt at h
  refine iw_of (pi_range2 (ok.gl hg) (ok.pf.blt _ hr) (pa_cons pe_ew (pa_cons pe_ew pa_nil (star_cons pb)) (star_cons pa)) (by rw [star_cons pa, star_cons pb]; rfl) (star_cons pb)) ?_
  refine se_2v (R := fun x y ρ2 => match x, y with
    | .int lo, .int hi => (-(2 ^ 62) ≤ lo ∧ lo < 2 ^ 62 ∧ -(2 ^ 62) ≤ hi ∧ hi < 2 ^ 62 ∧ (hi - lo).toNat ≤ sizeLine) ∧ K (rngT lo hi) ρ2
    | _, _ => False) ha hb ok s h hX fun x y v w g2 ρ2 H2 q x2 r1 r2 => ?_
  split at q
  · rename_i lo hi
    cases r1.int; cases r2.int
    obtain ⟨⟨a1, a2, a3, a4, a5⟩, q⟩ := q
    exact ⟨_, _, rfl, ⟨a1, a2, a3, a4⟩, hK _ _ _ _ _ q (by rw [show (rngT lo hi).length = (hi - lo).toNat by simp [rngT]]; exact a5) x2 wk_range⟩
  · exact q.elim
theorem si_enum {es : List Expr} {kk : Nat} {tp : Pos} (hr : ("enumerate" : Str) ∈ nm.blts) (hg : glB sc ("enumerate" : Str) = true) (pa : plainE a = true) (ha : SE nm sc a ea) : SI nm sc (.Tuple es kk tp) (.Call (.Name ("enumerate" : Str) p) [a] [] pos) (.enum ea) := by
  intro X W B k c Wx ok g ρ σ H K X' R s h hX hK
  unfold wpIt at h
  refine iw_of (pi_enum (ok.gl hg) (ok.pf.blt _ hr) (pa_cons (te := fun σ H Q => EW X a σ H fun v H' => HB H' → TB X.K H' → Q v H') ⟨fun pins s σ H Q I h => ew_inv h pins s I⟩ pa_nil (star_cons pa)) (star_cons pa)) (ha ok s h hX fun o ρ1 v g1 H1 k1 x1 r1 hb tb => ?_)
  split at k1
  · rename_i xs ρ2 ef
    obtain ⟨g2, x2, rt⟩ := r1.fz x1.st ef
    have x : Ex W B σ (nw H) g ρ H g2 ρ2 H1 := x1.trans' x2 (fun _ h => h) fun b hb => by
      obtain ⟨_, _, _, _, _, _, _, z⟩ := fresh_some r1 hb
      exact .inl z
    obtain ⟨b, vs, rfl, rd, rl, st⟩ := lst_stays (K := X.K) rt
    exact ⟨b, vs, rfl, .inl rd, hK _ _ _ _ _ k1 (by rw [show (enumT xs).length = xs.length by simp [enumT], ← rl.length]; exact hb _ _ rd) x (wk_enum st rl)⟩
  · exact k1.elim
theorem si_zip {es : List Expr} {kk : Nat} {tp : Pos} (hr : ("zip" : Str) ∈ nm.blts) (hg : glB sc ("zip" : Str) = true) (pa : plainE a = true) (pb : plainE b = true) (ha : SE nm sc a ea) (hb : SE nm sc b eb) : SI nm sc (.Tuple es kk tp) (.Call (.Name ("zip" : Str) p) [a, b] [] pos) (.zip ea eb) := by
  intro X W B k c Wx ok g ρ σ H K X' R s h hX hK
  unfold wpIt at h
  refine iw_of (pi_zip (ok.gl hg) (ok.pf.blt _ hr) (pa_cons pe_ew (pa_cons (te := fun σ H Q => EW X b σ H fun v H' => HB H' → TB X.K H' → Q v H') ⟨fun pins s σ H Q I h => ew_inv h pins s I⟩ pa_nil (star_cons pb)) (star_cons pa)) (by rw [star_cons pa]) (by rw [star_cons pb]; rfl)) ?_
  refine se_2 (Q := fun v w H2 => HB H2 → TB X.K H2 → _) (R := fun o1 o2 ρ2 => match fzs ρ2 [o1, o2] with
    | some ([.lst xs, .lst ys], ρ3) => K (zipT xs ys) ρ3
    | _ => False) ha hb ok s h hX fun o1 o2 v w g2 ρ2 H2 q x2 ro hb tb => ?_
  split at q
  · rename_i xs ys ρ3 ef
    obtain ⟨g3, x3, rl⟩ := ORepL.fzs x2.st ro ef
    have x : Ex W B σ (nw H) g ρ H g3 ρ3 H2 := x2.trans' x3 (fun _ h => h) fun b hb => .inl (fresh_nw ro b hb)
    cases rl with
    | cons q1 rl => cases rl with
      | cons q2 _ =>
        obtain ⟨b1, vs1, rfl, rd1, rl1, st1⟩ := lst_stays (K := X.K) q1
        obtain ⟨b2, vs2, rfl, rd2, rl2, st2⟩ := lst_stays (K := X.K) q2
        exact ⟨b1, b2, vs1, vs2, rfl, .inl rd1, .inl rd2, hK _ _ _ _ _ q (by
          have := hb _ _ rd1
          rw [rl1.length] at this
          have e : (zipT xs ys).length = min xs.length ys.length := by simp [zipT]
          omega) x (wk_zip (fun g' H' k => ⟨st1 g' H' k, st2 g' H' k⟩) rl1 rl2)⟩
  · exact q.elim
end
end Zl

set_option Elab.async false
set_option linter.all false
set_option maxRecDepth 100000
set_option maxHeartbeats 4000000
/-! Z19: targets, comprehensions. -/
namespace Zl
open PySem PySem.Spec PyProof.Rows L2
/-! ### targets -/
mutual
def gT (K : PySem.W.Frag) : Tg → TG
  | .nm i => gName i
  | .tp ts => gTup K ts.len (gTs K ts)
def gTs (K : PySem.W.Frag) : Tgs → TGs
  | .nil => gNil
  | .cons t ts => gCons (gT K t) (gTs K ts)
def Tgs.len : Tgs → Nat
  | .nil => 0
  | .cons _ ts => ts.len + 1
end
mutual
inductive TgX (sc : Sc) : Expr → Tg → Prop
  | nm {x : Str} {i : Nat} {p : Pos} (hN : sc.N[i]? = some x) (hl : locB sc x = true) : TgX sc (.Name x p) (.nm i)
  | tp {es : List Expr} {ts : Tgs} {kk : Nat} {p : Pos} (h : TgsX sc es ts) : TgX sc (.Tuple es kk p) (.tp ts)
inductive TgsX (sc : Sc) : List Expr → Tgs → Prop
  | nil : TgsX sc [] .nil
  | cons {e : Expr} {t : Tg} {es : List Expr} {ts : Tgs} (h : TgX sc e t) (hs : TgsX sc es ts) : TgsX sc (e :: es) (.cons t ts)
end
section
variable {sc : Sc}
theorem TgX.each {e : Expr} {t : Tg} (h : TgX sc e t) (es : List Expr) (env : PySem.Env) : assignEach (e :: es) env = (false, assign e env) :: assignEach es env := by
  cases h <;> rfl
theorem TgsX.len : ∀ {es : List Expr} {ts : Tgs} (env : PySem.Env), TgsX sc es ts → (assignEach es env).length = ts.len ∧ (assignEach es env).findIdx? (·.1) = none
  | _, _, env, .nil => ⟨rfl, rfl⟩
  | _, _, env, .cons h hs => by
    obtain ⟨a, b⟩ := hs.len env
    rw [h.each]
    refine ⟨by show _ + 1 = _; rw [a]; rfl, ?_⟩
    rw [List.findIdx?_cons, b]; rfl
/-- what the storing leans on -/
structure StX (sc : Sc) (X : Cx) : Prop where
  calm : X.calm = true
  N : X.N = sc.N
  nd : X.N.Nodup
  loc : ∀ x, locB sc x = true → L2.Loc X.env.scope x ∧ (X.fn x = true ∨ X.env.scope.names.lookup x = some .local)
variable {X : Cx} (sx : StX sc X)
include sx
mutual
theorem TgX.pg : ∀ {e : Expr} {t : Tg}, TgX sc e t → PG X e (gT X.K t)
  | _, _, .nm hN hl => by
    unfold gT
    exact pg_name sx.nd (by rw [sx.N]; exact hN) (sx.loc _ hl).1 (sx.loc _ hl).2
  | _, _, .tp h => by
    unfold gT
    exact pg_tup sx.calm h.pgs (h.len X.env).1 (h.len X.env).2
theorem TgsX.pgs : ∀ {es : List Expr} {ts : Tgs}, TgsX sc es ts → PGs X es (gTs X.K ts)
  | _, _, .nil => by unfold gTs; exact pgs_nil
  | _, _, .cons h hs => by
    unfold gTs
    exact pgs_cons h.pg hs.pgs (by rw [h.each]; rfl)
end
end
theorem Cok.stx {nm : Nm} {sc : Sc} {X : Cx} {W : Wd} {B : Fb} {k : Nat} {c : Pr} {Wx : WX} (ok : Cok nm sc X W B k c Wx) : StX sc X := ⟨ok.calm, ok.N, ok.nd, fun x h => ok.loc h⟩
/-! ### what a target stores -/
mutual
def Tg.slots : Tg → List Nat
  | .nm i => [i]
  | .tp ts => ts.slots
def Tgs.slots : Tgs → List Nat
  | .nil => []
  | .cons t ts => t.slots ++ ts.slots
end
/-- only the slots of is differ; none of them is held -/
structure Sto (is : List Nat) (ρ : Env) (σ : L2.St) (ρ' : Env) (σ' : L2.St) : Prop where
  e : ∀ i, i ∉ is → ρ'[i]? = ρ[i]?
  s : ∀ i, i ∉ is → σ'[i]? = σ[i]?
  h : ∀ i, i ∈ is → ∀ u, ρ'[i]? = some u → u.held = false ∧ (∀ t, u ≠ .lk t) ∨ ρ[i]? = some u
  l : ρ'.length = ρ.length ∧ σ'.length = σ.length
theorem Sto.refl {is : List Nat} {ρ : Env} {σ : L2.St} : Sto is ρ σ ρ σ := ⟨fun _ _ => rfl, fun _ _ => rfl, fun _ _ u h => .inr h, rfl, rfl⟩
theorem Sto.trans {is js : List Nat} {ρ ρ1 ρ2 : Env} {σ σ1 σ2 : L2.St} (a : Sto is ρ σ ρ1 σ1) (b : Sto js ρ1 σ1 ρ2 σ2) : Sto (is ++ js) ρ σ ρ2 σ2 where
  e := fun i h => by
    rw [List.mem_append, not_or] at h
    rw [b.e i h.2, a.e i h.1]
  s := fun i h => by
    rw [List.mem_append, not_or] at h
    rw [b.s i h.2, a.s i h.1]
  h := fun i h u hu => by
    by_cases hj : i ∈ js
    · rcases b.h i hj u hu with q | q
      · exact .inl q
      · by_cases hi : i ∈ is
        · exact a.h i hi u q
        · exact .inr (by rw [← a.e i hi]; exact q)
    · rw [b.e i hj] at hu
      have hi : i ∈ is := (List.mem_append.mp h).resolve_right hj
      exact a.h i hi u hu
  l := ⟨b.l.1.trans a.l.1, b.l.2.trans a.l.2⟩
section
variable {W : Wd} {B : Fb} {g : Gh}
mutual
theorem stT_ok : ∀ {tg : Tg} {v : V} {t : T} {ρ ρ1 : Env} {σ : L2.St} {H : Hp} {K : PySem.W.Frag} {Q : L2.St → Hp → Prop}, K = W.K → Sr W B g ρ σ H → Rep W g H v t → stT t ρ tg = some ρ1 → (∀ σ1, Sr W B g ρ1 σ1 H → Sto tg.slots ρ σ ρ1 σ1 → Q σ1 H) → gT K tg v σ H Q
  | .nm i, v, t, ρ, ρ1, σ, H, K, Q, hK, s, r, e, q => by
    unfold stT at e
    split at e
    · rename_i hf
      cases e
      unfold gT
      refine q _ (s.store hf (s1 := .sh t) ⟨v, rfl, r⟩ (fun z => by cases z)) ⟨fun j hj => ?_, fun j hj => ?_, fun j hj u hu => ?_, by rw [List.length_set], by rw [List.length_set]⟩
      · exact get_set_ne (by simpa [Tg.slots] using hj)
      · exact get_set_ne (by simpa [Tg.slots] using hj)
      · rcases get_set_some hu with ⟨_, e2, _⟩ | ⟨_, h⟩
        · subst e2; exact .inl ⟨rfl, fun _ z => by cases z⟩
        · exact .inr h
    · cases e
  | .tp ts, v, t, ρ, ρ1, σ, H, K, Q, hK, s, r, e, q => by
    unfold stT at e
    split at e
    · rename_i xs
      cases r with
      | tup te rl =>
        have hl : xs.length = ts.len := stTs_len e
        unfold gT
        exact ⟨_, _, rfl, by rw [hK]; exact te.sq, by rw [rl.length, hl], stTs_ok hK s rl e fun σ1 s1 st => q σ1 s1 (by unfold Tg.slots; exact st)⟩
    · cases e
theorem stTs_ok : ∀ {tg : Tgs} {v : List V} {t : List T} {ρ ρ1 : Env} {σ : L2.St} {H : Hp} {K : PySem.W.Frag} {Q : L2.St → Hp → Prop}, K = W.K → Sr W B g ρ σ H → RepL W g H v t → stTs t ρ tg = some ρ1 → (∀ σ1, Sr W B g ρ1 σ1 H → Sto tg.slots ρ σ ρ1 σ1 → Q σ1 H) → gTs K tg v σ H Q
  | .nil, v, t, ρ, ρ1, σ, H, K, Q, hK, s, r, e, q => by
    unfold stTs at e
    split at e
    · cases e; cases r
      unfold gTs
      exact ⟨rfl, q σ s .refl⟩
    · cases e
  | .cons a ts, v, t, ρ, ρ1, σ, H, K, Q, hK, s, r, e, q => by
    unfold stTs at e
    split at e
    · cases e
    · split at e
      · rename_i ρ2 e1
        cases r with
        | cons q1 rl =>
          unfold gTs
          refine ⟨_, _, rfl, stT_ok hK s q1 e1 fun σ1 s1 st1 => stTs_ok hK s1 rl e fun σ2 s2 st2 => q σ2 s2 (by unfold Tgs.slots; exact st1.trans st2)⟩
      · cases e
theorem stTs_len : ∀ {tg : Tgs} {t : List T} {ρ ρ1 : Env}, stTs t ρ tg = some ρ1 → t.length = tg.len
  | .nil, t, ρ, ρ1, e => by
    unfold stTs at e
    split at e
    · rfl
    · cases e
  | .cons a ts, t, ρ, ρ1, e => by
    unfold stTs at e
    split at e
    · cases e
    · split at e
      · rw [List.length_cons, stTs_len e]; rfl
      · cases e
end
end
end Zl

set_option Elab.async false
set_option linter.all false
set_option maxRecDepth 100000
set_option maxHeartbeats 4000000
/-! Z20: names wiped for a block. -/
namespace Zl
open PySem PySem.Spec PyProof.Rows L2
theorem wipeR_len (ρ : Env) : ∀ vs : List Nat, (wipeR ρ vs).length = ρ.length
  | [] => rfl
  | v :: vs => by unfold wipeR; rw [List.length_set, wipeR_len ρ vs]
theorem wipeR_out {ρ : Env} {i : Nat} : ∀ {vs : List Nat}, i ∉ vs → (wipeR ρ vs)[i]? = ρ[i]?
  | [], _ => rfl
  | v :: vs, h => by
    unfold wipeR
    rw [get_set_ne (fun e => h (by rw [e]; exact List.mem_cons_self)), wipeR_out fun z => h (List.mem_cons_of_mem _ z)]
theorem wipeR_in {ρ : Env} {i : Nat} {s : Slot} : ∀ {vs : List Nat}, i ∈ vs → (wipeR ρ vs)[i]? = some s → s = .no
  | v :: vs, h, e => by
    unfold wipeR at e
    rcases get_set_some e with ⟨_, z, _⟩ | ⟨n, z⟩
    · exact z
    · exact wipeR_in (List.mem_of_ne_of_mem n h) z
theorem wipe_out {σ : L2.St} {i : Nat} : ∀ {vs : List Nat}, i ∉ vs → (wipe σ vs)[i]? = σ[i]?
  | [], _ => rfl
  | v :: vs, h => by
    unfold wipe
    rw [get_set_ne (fun e => h (by rw [e]; exact List.mem_cons_self)), wipe_out fun z => h (List.mem_cons_of_mem _ z)]
theorem list_ext {α : Type} {a b : List α} (h : ∀ i : Nat, a[i]? = b[i]?) : a = b := List.ext_getElem? h
theorem wipeR_lt {ρ : Env} {i : Nat} {vs : List Nat} (h : i ∈ vs) : (wipeR ρ vs)[i]? = if i < ρ.length then some .no else none := by
  by_cases l : i < ρ.length
  · rw [if_pos l]
    have : i < (wipeR ρ vs).length := by rw [wipeR_len]; exact l
    rw [List.getElem?_eq_getElem this]
    congr 1
    exact wipeR_in h (List.getElem?_eq_getElem this)
  · rw [if_neg l, List.getElem?_eq_none]
    rw [wipeR_len]; omega
theorem wipe_lt {σ : L2.St} {i : Nat} : ∀ {vs : List Nat}, i ∈ vs → (wipe σ vs)[i]? = if i < σ.length then some none else none
  | v :: vs, h => by
    unfold wipe
    by_cases e : i = v
    · subst e
      by_cases l : i < σ.length
      · rw [if_pos l, List.getElem?_set_self (by rw [wipe_length]; exact l)]
      · rw [if_neg l, List.getElem?_eq_none]
        rw [List.length_set, wipe_length]; omega
    · rw [get_set_ne e]
      exact wipe_lt (List.mem_of_ne_of_mem e h)
/-- only slots among vs differ: wiped, they are one -/
theorem Sto.wipe {is vs : List Nat} {ρ ρ' : Env} {σ σ' : L2.St} (st : Sto is ρ σ ρ' σ') (h : ∀ i ∈ is, i ∈ vs) : wipeR ρ' vs = wipeR ρ vs ∧ L2.wipe σ' vs = L2.wipe σ vs := by
  constructor
  · refine list_ext fun i => ?_
    by_cases m : i ∈ vs
    · rw [wipeR_lt m, wipeR_lt m, st.l.1]
    · rw [wipeR_out m, wipeR_out m, st.e i fun z => m (h i z)]
  · refine list_ext fun i => ?_
    by_cases m : i ∈ vs
    · rw [wipe_lt m, wipe_lt m, st.l.2]
    · rw [wipe_out m, wipe_out m, st.s i fun z => m (h i z)]
theorem wipeR_idem (ρ : Env) (vs : List Nat) : wipeR (wipeR ρ vs) vs = wipeR ρ vs := by
  refine list_ext fun i => ?_
  by_cases m : i ∈ vs
  · rw [wipeR_lt m, wipeR_lt m, wipeR_len]
  · rw [wipeR_out m, wipeR_out m]
theorem wipe_idem (σ : L2.St) (vs : List Nat) : wipe (wipe σ vs) vs = wipe σ vs := by
  refine list_ext fun i => ?_
  by_cases m : i ∈ vs
  · rw [wipe_lt m, wipe_lt m, wipe_length]
  · rw [wipe_out m, wipe_out m]
section
variable {W : Wd} {B : Fb} {g g' g1 g2 : Gh} {ρ ρ' ρ1 ρ2 : Env} {σ : L2.St} {H H' H1 H2 : Hp} {F : Addr → Prop} {vs : List Nat}
theorem owi_wipe {i : Nat} {a : Addr} : OwI (wipeR ρ vs) (wipe σ vs) i a ↔ i ∉ vs ∧ OwI ρ σ i a := by
  constructor
  · rintro ⟨⟨s, h1, h2⟩, h3⟩
    have m : i ∉ vs := fun m => by
      rw [wipeR_in m h1] at h2; cases h2
    rw [wipeR_out m] at h1
    rw [wipe_out m] at h3
    exact ⟨m, ⟨s, h1, h2⟩, h3⟩
  · rintro ⟨m, ⟨s, h1, h2⟩, h3⟩
    exact ⟨⟨s, by rw [wipeR_out m]; exact h1, h2⟩, by rw [wipe_out m]; exact h3⟩
theorem Sr.wipe (s : Sr W B g ρ σ H) (hc : ∀ p ∈ g.Γ, p ∈ B.Γ0) : Sr W B g (wipeR ρ vs) (L2.wipe σ vs) H where
  len := by rw [wipeR_len, wipe_length]; exact s.len
  sh := s.sh
  sl := fun i u h => by
    by_cases m : i ∈ vs
    · rw [wipeR_in m h]; trivial
    · rw [wipeR_out m] at h
      rw [wipe_out m]
      exact s.sl i u h
  ds := fun i j a n x y => s.ds i j a n (owi_wipe.mp x).2 (owi_wipe.mp y).2
  cg := fun p hp => .inl (hc p hp)
theorem Ex.wipe (x : Ex W B σ F g ρ H g' ρ' H') (hn : ∀ i ∈ vs, ∀ s, ρ[i]? = some s → s.held = false) (hc : ∀ p ∈ g'.Γ, p ∈ B.Γ0) : Ex W B (L2.wipe σ vs) F g (wipeR ρ vs) H g' (wipeR ρ' vs) H' := by
  have o1 : ∀ {a}, OwAt ρ σ a → OwAt (wipeR ρ vs) (L2.wipe σ vs) a := fun {a} ⟨i, w⟩ => ⟨i, owi_wipe.mpr ⟨(fun m => by
    obtain ⟨⟨s, h1, h2⟩, _⟩ := w
    rw [hn i m s h1] at h2
    exact Bool.noConfusion h2), w⟩⟩
  have o2 : ∀ {ρ : Env} {a}, OwAt (wipeR ρ vs) (L2.wipe σ vs) a → OwAt ρ σ a := fun {ρ a} ⟨i, w⟩ => ⟨i, (owi_wipe.mp w).2⟩
  refine ⟨x.st.wipe hc, x.le, fun a h => ?_, fun a o h n t => x.keep a o h (fun z => n (o1 z)) t, fun a h => o1 (x.owk a (o2 h)), fun i t h => ?_, x.tbk, fun a h => x.hk a (o2 h)⟩
  · rcases x.news a h with q | q | q
    · exact .inl q
    · exact .inr (.inl q)
    · exact .inr (.inr (o1 q))
  · have m : i ∉ vs := fun m => by have z := wipeR_in m h; cases z
    rw [wipeR_out m] at h ⊢
    exact x.lkk i t h
/-- another frame with the same entry, no name of it seen by a lambda -/
def Fb.blk (B : Fb) : Fb := { B with lam := false, cells := [] }
theorem Sr.toBlk (s : Sr W B g ρ σ H) (hc : ∀ p ∈ g.Γ, p ∈ B.Γ0) : Sr W B.blk g ρ σ H := ⟨s.len, ⟨s.sh.fr, s.sh.sd, s.sh.ns, s.sh.tb, s.sh.tk, s.sh.io⟩, fun i u h => by
    have q := s.sl i u h
    cases u <;> exact q, s.ds, fun p hp => .inl (hc p hp)⟩
theorem blk_slot {o : Option (Option V)} {u : Slot} (h : SlotR W B.blk g H o u) : SlotR W B g H o u := by cases u <;> exact h
theorem Sr.ofBlk (s : Sr W B.blk g ρ σ H) : Sr W B g ρ σ H := ⟨s.len, ⟨s.sh.fr, s.sh.sd, s.sh.ns, s.sh.tb, s.sh.tk, s.sh.io⟩, fun i u h => blk_slot (s.sl i u h), s.ds, fun p hp => by
  rcases s.cg p hp with q | ⟨q, _⟩
  · exact .inl q
  · cases q⟩
theorem Ex.ofBlk (x : Ex W B.blk σ F g ρ H g' ρ' H') : Ex W B σ F g ρ H g' ρ' H' := ⟨x.st.ofBlk, x.le, x.news, x.keep, x.owk, x.lkk, x.tbk, x.hk⟩
theorem Sr.blkG (s : Sr W B.blk g ρ σ H) : ∀ p ∈ g.Γ, p ∈ B.Γ0 := fun p hp => by
  rcases s.cg p hp with q | ⟨q, _⟩
  · exact q
  · cases q
theorem noLk_G (s : Sr W B g ρ σ H) (h : noLk ρ = true) : ∀ p ∈ g.Γ, p ∈ B.Γ0 := fun p hp => by
  rcases s.cg p hp with q | ⟨_, i, x, t, _, _, _, h4⟩
  · exact q
  · exfalso
    unfold noLk at h
    rw [List.all_eq_true] at h
    have := h (.lk t) (List.mem_of_getElem? h4)
    cases this
/-! ### the names that a comprehension takes for itself -/
theorem ownFz_stay : ∀ {own : List Nat} {ρ ρ' : Env}, ownFz ρ own = some ρ' → ∀ j : Nat, (ρ[j]? = some Slot.no → ρ'[j]? = some Slot.no) ∧ ∀ t, ρ[j]? = some (Slot.sh t) → ρ'[j]? = some (Slot.sh t)
  | [], ρ, ρ', e, j => by unfold ownFz at e; cases e; exact ⟨fun h => h, fun t h => h⟩
  | i :: is, ρ, ρ', e, j => by
    unfold ownFz at e
    split at e
    · exact ownFz_stay e j
    · exact ownFz_stay e j
    · rename_i t e0
      obtain ⟨a, b⟩ := ownFz_stay e j
      refine ⟨fun h => a ?_, fun u h => b u ?_⟩
      · rw [get_set_ne (fun z => by subst z; rw [e0] at h; cases h)]; exact h
      · rw [get_set_ne (fun z => by subst z; rw [e0] at h; cases h)]; exact h
    · cases e
theorem ownFz_ok : ∀ {own : List Nat} {ρ ρ' : Env} {g : Gh}, Sr W B g ρ σ H → ownFz ρ own = some ρ' → ∃ g', Ex W B σ (fun _ => False) g ρ H g' ρ' H ∧ (∀ i ∈ own, ρ'[i]? = some Slot.no ∨ ∃ t, ρ'[i]? = some (Slot.sh t))
  | [], ρ, ρ', g, s, e => by unfold ownFz at e; cases e; exact ⟨g, .refl s, fun i h => by cases h⟩
  | i :: is, ρ, ρ', g, s, e => by
    unfold ownFz at e
    have stay : ∀ {ρ1 : Env} {g1 : Gh}, Sr W B g1 ρ1 σ H → ownFz ρ1 is = some ρ' → ∀ j : Nat, (ρ1[j]? = some Slot.no → ρ'[j]? = some Slot.no) ∧ ∀ t, ρ1[j]? = some (Slot.sh t) → ρ'[j]? = some (Slot.sh t) := by
      intro ρ1 g1 s1 e1 j
      exact ownFz_stay e1 j
    split at e
    · rename_i e0
      obtain ⟨g', x, h⟩ := ownFz_ok s e
      refine ⟨g', x, fun j hj => ?_⟩
      rcases List.mem_cons.mp hj with z | z
      · subst z; exact .inl ((stay s e j).1 e0)
      · exact h j z
    · rename_i t e0
      obtain ⟨g', x, h⟩ := ownFz_ok s e
      refine ⟨g', x, fun j hj => ?_⟩
      rcases List.mem_cons.mp hj with z | z
      · subst z; exact .inr ⟨t, (stay s e j).2 t e0⟩
      · exact h j z
    · rename_i t e0
      obtain ⟨v, hv, _⟩ := s.sl i _ e0
      obtain ⟨g1, x1, r1⟩ := ORep.fz (Hs := H) (v := .ref v) (o := .slot i) s hv (by dsimp only [fz]; rw [e0])
      obtain ⟨g', x, h⟩ := ownFz_ok x1.st e
      refine ⟨g', x1.trans' x (fun a ha => by simp [freshA] at ha) (fun a ha => .inl ha), fun j hj => ?_⟩
      rcases List.mem_cons.mp hj with z | z
      · subst z; exact .inr ⟨t, (stay x1.st e j).2 t (get_set_eq e0)⟩
      · exact h j z
    · cases e
end
end Zl

set_option Elab.async false
set_option linter.all false
set_option maxRecDepth 100000
set_option maxHeartbeats 4000000
/-! Z21: comprehensions. -/
namespace Zl
open PySem PySem.Spec PyProof.Rows L2
def relN (ns names : List (Str × NameKind)) : List (Str × NameKind) := names.map fun (n, k) => if (k == NameKind.free && ns.lookup n == some .cell) then (n, .cell) else (n, k)
def blkSc (sc : Sc) (scope : Scope) (own : List (Str × Nat)) : Sc := ⟨sc.N, relN sc.names scope.names, own.map (·.1), false, false⟩
theorem Keep.trans {g g1 g2 : Gh} {H H1 H2 : Hp} (a : Keep g H g1 H1) (b : Keep g1 H1 g2 H2) : Keep g H g2 H2 := ⟨a.le.trans b.le, fun x o e h => b.obj x o (a.obj x o e h) (h.imp (a.le.s x) _root_.id)⟩
theorem WkT.keep {W : Wd} {g g' : Gh} {H H' : Hp} {J : L2.It} {ts : List T} (k : Keep g H g' H') (w : WkT W g H J ts) : WkT W g' H' J ts := by
  obtain ⟨G, Y, wk, h1, h2⟩ := w
  exact ⟨G, Y, wk, fun g'' H'' k' => h1 g'' H'' (k.trans k'), fun i t g'' H'' x H3 e k' y => h2 i t g'' H'' x H3 e (k.trans k') y⟩
section
variable {W : Wd} {B : Fb} {g g' g1 g2 : Gh} {ρ ρ' ρ1 ρ2 : Env} {σ : L2.St} {H H' H1 H2 : Hp} {F : Addr → Prop} {vs : List Nat}
/-- a new object, not yet handed to anybody, is written -/
theorem Ex.anew (s0 : Sr W B g ρ σ H) (x : Ex W B σ F g ρ H g' ρ' H') {D : Addr} {u o : HO} (hD : H D = none) (nS : ¬ g'.S D) (e : H' D = some u) (ni : ¬ imm u) (tu : notTbl u) (to : notTbl o) : Ex W B σ F g ρ H g' ρ' (upd H' D o) ∧ Keep g' H' g' (upd H' D o) := by
  have k : Keep g' H' g' (upd H' D o) := ⟨.refl g', fun a v ha h => by
    rw [upd_ne (fun z => by subst z; rw [e] at ha; cases ha; exact h.elim nS ni)]
    exact ha⟩
  have nO : ¬ OwAt ρ' σ D := fun z => by
    obtain ⟨v, hv⟩ := s0.some_at (x.owk D z)
    rw [hD] at hv; cases hv
  have h0 := s0.h0none hD
  have st := x.st
  refine ⟨⟨⟨st.len, ⟨fun a v ha n t => ?_, fun a ha => ?_, st.sh.ns, ?_, fun a ps ha => ?_, fun a ha => ?_⟩, fun i t h => ?_, st.ds, st.cg⟩, x.le, x.news, fun a v ha n t => ?_, x.owk, x.lkk, fun a ps ha => ?_, fun a ha => ?_⟩, k⟩
  · rw [upd_ne (fun z => by subst z; rw [h0] at ha; cases ha)]
    exact st.sh.fr a v ha n t
  · by_cases z : a = D
    · subst z; exact absurd ha nS
    · rw [upd_ne z]; exact st.sh.sd a ha
  · intro p hp
    obtain ⟨ps, h1, h2, h3⟩ := st.sh.tb p hp
    refine ⟨ps, ?_, h2, fun pos cv hc => ?_⟩
    · rw [upd_ne (fun z => by rw [z, e] at h1; cases h1; exact tu _ rfl)]; exact h1
    · obtain ⟨cc, e1, e2⟩ := h3 pos cv hc
      refine ⟨cc, e1, ?_⟩
      rw [upd_ne (fun z => by rw [z, e] at e2; cases e2; exact ni trivial)]; exact e2
  · obtain ⟨ps', h'⟩ := st.sh.tk a ps ha
    refine ⟨ps', ?_⟩
    rw [upd_ne (fun z => by subst z; rw [h0] at ha; cases ha)]; exact h'
  · by_cases z : a = D
    · subst z; exact ⟨o, upd_same⟩
    · rw [upd_ne z]; exact st.sh.io a ha
  · refine (st.sl i t h).keep k fun a ea hd => ?_
    have ow : OwI ρ' σ i a := ⟨⟨t, h, hd⟩, ea⟩
    refine ⟨(st.owi ow).1, fun v hv => ?_⟩
    rw [upd_ne (fun z => by subst z; exact nO ⟨i, ow⟩)]; exact hv
  · rw [upd_ne (fun z => by subst z; rw [hD] at ha; cases ha)]
    exact x.keep a v ha n t
  · obtain ⟨ps', h'⟩ := x.tbk a ps ha
    refine ⟨ps', ?_⟩
    rw [upd_ne (fun z => by subst z; rw [hD] at ha; cases ha)]; exact h'
  · by_cases z : a = D
    · subst z; exact ⟨o, upd_same⟩
    · rw [upd_ne z]; exact x.hk a ha
theorem restore_out {ρ0 ρ : Env} {i : Nat} : ∀ {own : List Nat}, i ∉ own → (restore ρ0 ρ own)[i]? = ρ[i]?
  | [], _ => rfl
  | v :: vs, h => by
    have h1 : i ≠ v := fun e => h (by rw [e]; exact List.mem_cons_self)
    have h2 : i ∉ vs := fun z => h (List.mem_cons_of_mem _ z)
    unfold restore
    split
    · rw [get_set_ne h1, restore_out h2]
    · exact restore_out h2
theorem restore_len {ρ0 ρ : Env} : ∀ {own : List Nat}, (restore ρ0 ρ own).length = ρ.length
  | [] => rfl
  | v :: vs => by
    unfold restore
    split
    · rw [List.length_set, restore_len]
    · exact restore_len
theorem restore_in {ρ0 ρ : Env} {i : Nat} {u s : Slot} (e0 : ρ0[i]? = some s) : ∀ {own : List Nat}, i ∈ own → (restore ρ0 ρ own)[i]? = some u → u = s
  | v :: vs, h, e => by
    unfold restore at e
    split at e
    · rename_i s' es
      rcases get_set_some e with ⟨z, z2, _⟩ | ⟨n, z⟩
      · subst z; rw [e0] at es; cases es; exact z2
      · exact restore_in e0 (List.mem_of_ne_of_mem n h) z
    · rename_i es
      have n : i ≠ v := fun z => by subst z; rw [e0] at es; cases es
      exact restore_in e0 (List.mem_of_ne_of_mem n h) e
theorem Ex.restore (s2 : Sr W B g ρ σ H) (nl : noLk ρ = true) (ho : ∀ i ∈ vs, ρ[i]? = some Slot.no ∨ ∃ t, ρ[i]? = some (Slot.sh t)) (y : Ex W B.blk (L2.wipe σ vs) (nw H) g (wipeR ρ vs) H g' (wipeR ρ' vs) H') : Ex W B σ (nw H) g ρ H g' (Zl.restore ρ ρ' vs) H' := by
  have kp : Keep g H g' H' := Ex.keeps (s2.wipe (noLk_G s2 nl)) y.ofBlk
  have slot : ∀ {i : Nat} {u : Slot}, (Zl.restore ρ ρ' vs)[i]? = some u → (i ∈ vs ∧ (u = .no ∨ ∃ t, u = .sh t) ∧ ρ[i]? = some u) ∨ (i ∉ vs ∧ (wipeR ρ' vs)[i]? = some u) := fun {i u} h => by
    by_cases m : i ∈ vs
    · rcases ho i m with e | ⟨t, e⟩
      · have := restore_in e m h
        subst this
        exact .inl ⟨m, .inl rfl, e⟩
      · have := restore_in e m h
        subst this
        exact .inl ⟨m, .inr ⟨t, rfl⟩, e⟩
    · rw [restore_out m] at h
      exact .inr ⟨m, by rw [wipeR_out m]; exact h⟩
  have ow : ∀ {i : Nat} {a : Addr}, OwI (Zl.restore ρ ρ' vs) σ i a → OwI (wipeR ρ' vs) (L2.wipe σ vs) i a := fun {i a} ⟨⟨u, h1, h2⟩, h3⟩ => by
    rcases slot h1 with ⟨_, q | ⟨t, q⟩, _⟩ | ⟨m, q⟩
    · subst q; cases h2
    · subst q; cases h2
    · exact ⟨⟨u, q, h2⟩, by rw [wipe_out m]; exact h3⟩
  have ow2 : ∀ {a : Addr}, OwAt ρ σ a → OwAt (wipeR ρ vs) (L2.wipe σ vs) a := fun {a} ⟨i, ⟨u, h1, h2⟩, h3⟩ => by
    have m : i ∉ vs := fun m => by
      rcases ho i m with e | ⟨t, e⟩ <;> (rw [e] at h1; cases h1; cases h2)
    exact ⟨i, owi_wipe.mpr ⟨m, ⟨u, h1, h2⟩, h3⟩⟩
  have ow3 : ∀ {a : Addr}, OwAt (wipeR ρ vs) (L2.wipe σ vs) a → OwAt ρ σ a := fun {a} ⟨i, w⟩ => ⟨i, (owi_wipe.mp w).2⟩
  have sh := y.ofBlk.st.sh
  refine ⟨⟨?_, sh, fun i u h => ?_, fun i j a n p q => y.st.ds i j a n (ow p) (ow q), fun p hp => .inl (y.st.blkG p hp)⟩, y.le, fun a h => ?_, fun a o h n t => y.keep a o h (fun z => n (ow3 z)) t, fun a ⟨i, w⟩ => ow3 (y.owk a ⟨i, ow w⟩), fun i t h => ?_, y.tbk, fun a h => y.hk a (ow2 h)⟩
  · have := y.st.len
    rw [wipeR_len, wipe_length] at this
    rw [restore_len]; exact this
  · rcases slot h with ⟨m, q | ⟨t, q⟩, e⟩ | ⟨m, q⟩
    · subst q; trivial
    · subst q
      obtain ⟨v, ev, rv⟩ := s2.sl i _ e
      exact ⟨v, ev, rv.keep kp⟩
    · have := y.ofBlk.st.sl i u q
      rw [wipe_out m] at this
      exact this
  · rcases y.news a h with q | q | q
    · exact .inl q
    · exact .inr (.inl q)
    · exact .inr (.inr (ow3 q))
  · exfalso
    unfold noLk at nl
    rw [List.all_eq_true] at nl
    have := nl (.lk t) (List.mem_of_getElem? h)
    cases this
end
/-! ### a clause's tests -/
def CW (X : Cx) (ifs : List Expr) (σ : L2.St) (H : Hp) (Q : Bool → Hp → Prop) : Prop := ∀ pins s, Inv X pins σ H s →
    wpAny (model X.prog X.w) X.A (forIn ifs true fun c r => if r = true then do let ok ← isTrue c X.env (eval c X.env); pure (ForInStep.yield ok) else pure (ForInStep.yield r)) (TP X pins σ Q) X.xe s
theorem pts_cw {X : Cx} {ifs : List Expr} : PTs X ifs (CW X ifs) := ⟨fun pins s σ H Q I h => h pins s I⟩
def SC (nm : Nm) (sc : Sc) (py : List Expr) (e : Eo) : Prop := (py = [] ∧ e = .none) ∨ ∃ p q, py = [p] ∧ e = .some q ∧ SB nm sc p q
theorem sc_ok {nm : Nm} {sc : Sc} {py : List Expr} {e : Eo} (h : SC nm sc py e) {X : Cx} {W : Wd} {B : Fb} {k : Nat} {c : Pr} {Wx : WX} (ok : Cok nm sc X W B k c Wx) {g : Gh} {ρ : Env} {σ : L2.St} {H : Hp} {K : Bool → Env → Prop} {X' : KX} {Q : Bool → Hp → Prop} (s : Sr W B g ρ σ H)
    (w : wpC c e ρ K X') (hX : ∀ n fs, X' n fs → XT W B g σ Wx n fs) (hK : ∀ b ρ1 g1 H1, K b ρ1 → Ex W B σ (nw H) g ρ H g1 ρ1 H1 → Q b H1) : CW X py σ H Q := by
  rcases h with ⟨rfl, rfl⟩ | ⟨p, q, rfl, rfl, hq⟩
  · unfold wpC at w
    exact fun pins s2 I => pts_nil.run pins s2 σ H Q I (hK _ _ _ _ w (.refl s))
  · unfold wpC at w
    exact fun pins s2 I => (pts_one pt_tw).run pins s2 σ H Q I (hq ok s w hX hK)
/-! ### the block -/
theorem ok_blk {nm : Nm} {sc : Sc} {X : Cx} {W : Wd} {B : Fb} {k : Nat} {c : Pr} {Wx : WX} (ok : Cok nm sc X W B k c Wx) {scope : Scope} {own : List (Str × Nat)} (hk : scope.kind = .function) (hst : ∀ x ∈ own.map (·.1), scope.names.lookup x = some .cell ∨ scope.names.lookup x = some .local)
    (s : Shared) (H : Hp) (C : Addr) (cl : List (Str × Addr)) (fp : List Addr) : Cok nm (blkSc sc scope own) (X.blk s H scope (compEnvC scope cl C X.env) fp) W B.blk k c (fun _ _ _ _ => False) := by
  have en : (relabel scope X.env).names = relN sc.names scope.names := by
    unfold relabel relN
    have e1 : (X.env.scope.kind == ScopeKind.function) = true := by rw [ok.knd]; rfl
    have e2 : ∀ n, X.env.kindOf n = sc.names.lookup n := fun n => by rw [← ok.scp]; rfl
    simp only [e1, e2, Bool.and_true]
  refine ⟨ok.K, ok.calm, ok.N, ok.nd, ok.room, ok.gd, ok.pf, en, hk, fun x hx => ?_, ok.bo, ok.c0, ok.bN, (fun z => by cases z), (fun z => by cases z), (fun z => by cases z), ?_, (fun z => by cases z), (fun z => by cases z)⟩
  · rcases hst x hx with e | e
    · refine .inl ?_
      show (scope.names.lookup x == some .cell) = true
      rw [e]; rfl
    · refine .inr ?_
      show (relabel scope X.env).names.lookup x = some .local
      exact lookup_relabel_local e
  · intro u s' ⟨_, _, _, _, _, _, _, _, _, _, _, _, _, _, _, _, z⟩
    exact z.elim
end Zl

set_option Elab.async false
set_option linter.all false
set_option maxRecDepth 100000
set_option maxHeartbeats 4000000
/-! Z22: comprehensions, the rule. -/
namespace Zl
open PySem PySem.Spec PyProof.Rows L2
def noXT {W : Wd} {B : Fb} {g : Gh} {σ : L2.St} {Wx : WX} : ∀ n fs, noX n fs → XT W B g σ Wx n fs := fun _ _ h => h.elim
def teB (X : Cx) (scope : Scope) (elt : Expr) : TE := fun σ2 H3 Q3 => ∀ (s : Shared) (H : Hp) (C : Addr) (cl : List (Str × Addr)) (fp : List Addr), EW (X.blk s H scope (compEnvC scope cl C X.env) fp) elt σ2 H3 Q3
def ttB (X : Cx) (scope : Scope) (ifs : List Expr) : TT := fun σ2 H3 Q3 => ∀ (s : Shared) (H : Hp) (C : Addr) (cl : List (Str × Addr)) (fp : List Addr), CW (X.blk s H scope (compEnvC scope cl C X.env) fp) ifs σ2 H3 Q3
/-- what a comprehension asks of the text -/
structure CompX (nm : Nm) (sc : Sc) (elt tg iter : Expr) (ifs : List Expr) (scope : Scope) (own : List (Str × Nat)) (eit : It) (etg : Tg) (cd : Eo) (ee : E) : Prop where
  hi : SI nm sc tg iter eit
  hb : ∀ S : Scope, S.names = sc.names → BlkOk sc.N S scope own
  hst : ∀ x ∈ own.map (·.1), scope.names.lookup x = some .cell ∨ scope.names.lookup x = some .local
  ht : TgX (blkSc sc scope own) tg etg
  hsl : ∀ i ∈ etg.slots, i ∈ own.map (·.2)
  hc : SC nm (blkSc sc scope own) ifs cd
  he : SE nm (blkSc sc scope own) elt ee
  hf : ∀ env x, foldedSetIterable iter env x = pure x
theorem comp_tlc {nm : Nm} {sc : Sc} {elt tg iter : Expr} {ifs : List Expr} {scope : Scope} {own : List (Str × Nat)} {eit : It} {etg : Tg} {cd : Eo} {ee : E} (cx : CompX nm sc elt tg iter ifs scope own eit etg cd ee)
    {X : Cx} {W : Wd} {B : Fb} {k : Nat} {c : Pr} {Wx : WX} (ok : Cok nm sc X W B k c Wx) {g : Gh} {ρ : Env} {σ : L2.St} {H : Hp} {K : KE'} {X' : KX} {Q : VK} (s : Sr W B g ρ σ H) (h : wpE c (.comp (own.map (·.2)) etg eit cd ee) ρ K X') (hX : ∀ n fs, X' n fs → XT W B g σ Wx n fs)
    (hK : ∀ o ρ1 v g1 H1, K o ρ1 → Ex W B σ (nw H) g ρ H g1 ρ1 H1 → ORep W B g1 ρ1 σ H1 H v o → Q v H1) : tLc (IW X tg iter) (gT X.K etg) (ttB X scope ifs) (teB X scope elt) (own.map (·.2)) σ H Q := by
  obtain ⟨hi, hb, hst, ht, hsl, hc, he, hf⟩ := cx
  unfold wpE at h
  have hb' : BlkOk X.N X.env.scope scope own := by rw [ok.N]; exact hb _ ok.scp
  have okb := ok_blk ok (scope := scope) (own := own) hb'.kind hst
  generalize hvs : own.map (·.2) = vs at h hsl ⊢
  refine hi ok s h hX fun ts ρ1 J g1 H1 k1 hlen x1 wk => ?_
  split at k1
  rotate_left
  · exact k1.elim
  rename_i ρ2 eo
  obtain ⟨nl, kc⟩ := k1
  intro D hD
  obtain ⟨g2, x2, hown⟩ := ownFz_ok x1.st eo
  have x12 : Ex W B σ (nw H) g ρ H g2 ρ2 H1 := x1.trans' x2 (fun _ h => h) fun a z => z.elim
  have hG := noLk_G x12.st nl
  have s0 : Sr W B.blk g2 (wipeR ρ2 vs) (wipe σ vs) H1 := (x12.st.wipe hG).toBlk (fun p hp => hG p hp)
  obtain ⟨G, Y, w, hGG, hY⟩ := wk.keep (Ex.keeps x1.st x2)
  have tl : ∀ xs : List V, notTbl (.lst xs) := fun xs ps z => by cases z
  have xa : Ex W B.blk (wipe σ vs) (nw H1) g2 (wipeR ρ2 vs) H1 g2 (wipeR ρ2 vs) (upd H1 D (.lst [])) := .alloc s0 hD
  have nD : ¬ g2.S D := fun z => by
    obtain ⟨o, e, _⟩ := s0.sh.sd D z
    rw [hD] at e; cases e
  have noD : ¬ OwAt (wipeR ρ2 vs) (wipe σ vs) D := fun z => by
    obtain ⟨o, e⟩ := s0.some_at z
    rw [hD] at e; cases e
  let step : T → Env → (Option T → Env → Prop) → Prop := fun t ρ3 K => match stT t ρ3 etg with
        | some ρ4 => wpC c cd ρ4 (fun k ρ5 => (k = true → wpE c ee ρ5 (fun o ρ6 => match fz ρ6 o with
            | some (x, ρ7) => K (some x) ρ7
            | none => False) noX) ∧ (k = false → K none ρ5)) noX
        | none => False
  let Qc : List T → Env → Prop := fun acc ρ8 => K (.val (.lst acc) true) (restore ρ2 ρ8 vs)
  have kc' : compL vs step ts [] (wipeR ρ2 vs) Qc := kc
  refine lc_it w (g := gT X.K etg) (tt := ttB X scope ifs)
    (te := teB X scope elt) (vs := vs) (σ := σ) (H1 := H1) (D := D) (Qd := fun H' => Q (.ref D) H') (fun i H' => ∃ (g' : Gh) (ρ' : Env) (acc : List V) (accT : List T), Ex W B.blk (wipe σ vs) (nw H1) g2 (wipeR ρ2 vs) H1 g' (wipeR ρ' vs) H' ∧ ¬ g'.S D ∧ H' D = some (.lst acc) ∧ RepL W g' H' acc accT ∧ acc.length ≤ i ∧ compL vs step (ts.drop i) accT ρ' Qc) ?_ ?_ ?_ ?_
  · exact ⟨g2, wipeR ρ2 vs, [], [], by rw [wipeR_idem]; exact xa, nD, upd_same, .nil, Nat.le_refl _, kc'⟩
  · rintro i H' hi' ⟨g', ρ', acc, accT, x, -, -, -, -, -⟩
    exact hGG g' H' (Ex.keeps s0 x)
  · rintro i x H' H'' hi' ⟨g', ρ', acc, accT, ex, nS, eD, rl, hl, kk⟩ hy
    have et : ts[i]? = some ts[i] := List.getElem?_eq_getElem hi'
    generalize ts[i] = t at et
    have ed : ts.drop i = t :: ts.drop (i + 1) := by
      rw [List.getElem?_eq_some_iff] at et
      obtain ⟨_, et⟩ := et
      rw [← et]; exact List.drop_eq_getElem_cons hi'
    rw [ed] at kk
    have kp := Ex.keeps s0 ex
    have xb : Ex W B.blk (wipe σ vs) (nw H') g' (wipeR ρ' vs) H' g' (wipeR ρ' vs) H'' ∧ Rep W g' H'' x t ∧ H'' D = some (.lst acc) := by
      rcases hY i t g' H' x H'' et kp hy with ⟨rfl, r⟩ | ⟨p, ws, hp, rfl, rfl, r⟩
      · exact ⟨.refl ex.st, r, eD⟩
      · exact ⟨.alloc ex.st hp, r, by rw [upd_ne (fun z => by subst z; rw [hp] at eD; cases eD)]; exact eD⟩
    obtain ⟨xb, rx, eD2⟩ := xb
    have rl2 := rl.keep (Ex.keeps ex.st xb)
    unfold compL at kk
    dsimp only [step] at kk
    split at kk
    rotate_left
    · exact kk.elim
    rename_i ρ4 e4
    refine stT_ok ok.K xb.st rx e4 fun σ2 s4 sto => ?_
    have wz := sto.wipe hsl
    rw [wipeR_idem, wipe_idem] at wz
    have noD4 : ¬ OwAt ρ4 σ2 D := by
      rintro ⟨j, ⟨u, h1, h2⟩, h3⟩
      by_cases m : j ∈ vs
      · by_cases m2 : j ∈ etg.slots
        · rcases sto.h j m2 u h1 with q | q
          · rw [q.1] at h2; cases h2
          · rw [wipeR_in m q] at h2; cases h2
        · rw [sto.e j m2] at h1
          rw [wipeR_in m h1] at h2; cases h2
      · have m2 : j ∉ etg.slots := fun z => m (hsl j z)
        rw [sto.e j m2] at h1
        rw [sto.s j m2] at h3
        exact noD (ex.owk D ⟨j, ⟨u, h1, h2⟩, h3⟩)
    have hn4 : ∀ i ∈ vs, ∀ s, ρ4[i]? = some s → s.held = false := fun j m u h1 => by
      by_cases m2 : j ∈ etg.slots
      · rcases sto.h j m2 u h1 with q | q
        · exact q.1
        · rw [wipeR_in m q]; rfl
      · rw [sto.e j m2] at h1
        rw [wipeR_in m h1]; rfl
    -- the turn's end, from what was done at the block's slots
    have fin : ∀ {g7 : Gh} {ρ7 : Env} {H6 : Hp}, Ex W B.blk σ2 (nw H'') g' ρ4 H'' g7 ρ7 H6 → Ex W B.blk (wipe σ vs) (nw H1) g2 (wipeR ρ2 vs) H1 g7 (wipeR ρ7 vs) H6 ∧ ¬ g7.S D ∧ H6 D = some (.lst acc) ∧ RepL W g7 H6 acc accT := fun {g7 ρ7 H6} x7 => by
      have xw := x7.wipe (vs := vs) hn4 (fun p hp => x7.st.blkG p hp)
      rw [wz.1, wz.2] at xw
      refine ⟨(ex.trans xb).trans xw, fun z => ?_, x7.keep D _ eD2 noD4 (tl _), rl2.keep (Ex.keeps s4 x7)⟩
      rcases x7.news D z with q | q | q
      · exact nS q
      · have q' : H'' D = none := q
        rw [eD2] at q'; cases q'
      · exact noD4 q
    refine ⟨by rw [wz.2], fun sb Hb C cl fp => ?_⟩
    refine sc_ok hc (okb sb Hb C cl fp) s4 kk noXT fun b ρ5 g5 H5 k5 x5 => ?_
    cases b with
    | false =>
      obtain ⟨y1, y2, y3, y4⟩ := fin x5
      exact ⟨g5, ρ5, acc, accT, y1, y2, y3, y4, Nat.le_succ_of_le hl, k5.2 rfl⟩
    | true =>
      intro sb2 Hb2 C2 cl2 fp2
      refine he (okb sb2 Hb2 C2 cl2 fp2) x5.st (k5.1 rfl) noXT fun o ρ6 y g6 H6 k6 x6 r6 => ?_
      split at k6
      rotate_left
      · exact k6.elim
      rename_i ty ρ7 ef
      obtain ⟨g7, x7, ry⟩ := ORep.fz x6.st r6 ef
      have x57 : Ex W B.blk σ2 (nw H'') g' ρ4 H'' g7 ρ7 H6 := (x5.trans x6).trans' x7 (fun _ h => h) fun a ha => by
        obtain ⟨_, _, _, _, _, _, _, z⟩ := fresh_some r6 ha
        exact .inl (x5.none_back z)
      obtain ⟨y1, y2, y3, y4⟩ := fin x57
      obtain ⟨z1, z2⟩ := Ex.anew s0 y1 (o := .lst (acc ++ [y])) hD y2 y3 (fun z => z) (tl _) (tl _)
      have lt : acc.length < sizeLine := by omega
      exact ⟨acc, y3, lt, g7, ρ7, acc ++ [y], accT ++ [ty], z1, y2, upd_same, (y4.append (.cons ry .nil)).keep z2, by rw [List.length_append]; exact Nat.succ_le_succ hl, k6⟩
  · rintro H' ⟨g', ρ', acc, accT, ex, nS, eD, rl, hl, kk⟩
    rw [List.drop_length] at kk
    have xr := Ex.restore x12.st nl hown ex
    refine hK (.val (.lst accT) true) _ (.ref D) g' H' kk (x12.trans xr) ⟨D, rfl, nS, ⟨acc, eD, rl⟩, x12.st.h0none hD, fun z => ?_, x12.none_back hD⟩
    obtain ⟨o, e⟩ := x12.st.some_at (xr.owk D z)
    rw [hD] at e; cases e
section
variable {nm : Nm} {sc : Sc} {elt tg iter : Expr} {ifs : List Expr} {scope : Scope} {own : List (Str × Nat)} {pos : Pos} {eit : It} {etg : Tg} {cd : Eo} {ee : E}
theorem CompX.blk (cx : CompX nm sc elt tg iter ifs scope own eit etg cd ee) {X : Cx} {W : Wd} {B : Fb} {k : Nat} {c : Pr} {Wx : WX} (ok : Cok nm sc X W B k c Wx) : BlkOk X.N X.env.scope scope own := by rw [ok.N]; exact cx.hb _ ok.scp
theorem se_comp (cx : CompX nm sc elt tg iter ifs scope own eit etg cd ee) : SE nm sc (.ListComp elt [⟨tg, iter, ifs, 0⟩] scope pos) (.comp (own.map (·.2)) etg eit cd ee) := by
  intro X W B k c Wx ok g ρ σ H K X' Q s h hX hK
  have okb := ok_blk ok (scope := scope) (own := own) (cx.blk ok).kind cx.hst
  exact ew_of (pe_lc (te := teB X scope elt) (tt := ttB X scope ifs) (g := gT X.K etg) ok.calm ok.nd pi_iw (cx.blk ok)
    (fun s H C cl fp => TgX.pg (okb s H C cl fp).stx cx.ht) (fun s H C cl fp => ⟨fun pins s' σ H' Q I h => h s H C cl fp pins s' I⟩) (fun s H C cl fp => ⟨fun pins s' σ H' Q I h => h s H C cl fp pins s' I⟩) (cx.hf X.env)) (comp_tlc cx ok s h hX hK)
end
end Zl

set_option Elab.async false
set_option linter.all false
set_option maxRecDepth 100000
set_option maxHeartbeats 4000000
/-! Z23: statements. -/
namespace Zl
open PySem PySem.Spec PyProof.Rows L2
/-- what is wanted behind a statement, over trees and over the heap -/
structure DE (W : Wd) (B : Fb) (g : Gh) (H0 : Hp) (D : Dn) (En : Ends) : Prop where
  nx : ∀ ρ σ H g', D.nx ρ → Keep g H0 g' H → Sr W B g' ρ σ H → En.nx σ H
  bk : ∀ ρ σ H g', D.bk ρ → Keep g H0 g' H → Sr W B g' ρ σ H → En.bk σ H
  ct : ∀ ρ σ H g', D.ct ρ → Keep g H0 g' H → Sr W B g' ρ σ H → En.ct σ H
  rt : ∀ o ρ σ H g' v, D.rt o ρ → Keep g H0 g' H → Sr W B g' ρ σ H → ORep W B g' ρ σ H B.H0 v o → En.rt v H
theorem DE.up {W : Wd} {B : Fb} {g g1 : Gh} {H H1 : Hp} {D : Dn} {En : Ends} (k : Keep g H g1 H1) (d : DE W B g H D En) : DE W B g1 H1 D En :=
  ⟨fun ρ σ H g' h l => d.nx ρ σ H g' h (k.trans l), fun ρ σ H g' h l => d.bk ρ σ H g' h (k.trans l), fun ρ σ H g' h l => d.ct ρ σ H g' h (k.trans l), fun o ρ σ H g' v h l => d.rt o ρ σ H g' v h (k.trans l)⟩
theorem Keep.of {g g' : Gh} {H : Hp} (le : g.Le g') : Keep g H g' H := ⟨le, fun _ _ e _ => e⟩
def SW (X : Cx) (st : Stmt) (En : Ends) (σ : L2.St) (H : Hp) : Prop := ∀ pins s, Inv X pins σ H s → wpAny (model X.prog X.w) X.A (exec st X.env) (SP X pins En) X.xe s
def SSW (X : Cx) (st : List Stmt) (En : Ends) (σ : L2.St) (H : Hp) : Prop := ∀ pins s, Inv X pins σ H s → wpAny (model X.prog X.w) X.A (execs st X.env) (SP X pins En) X.xe s
theorem ps_sw {X : Cx} {st : Stmt} : PS X st (SW X st) := ⟨fun pins s σ H D I h => h pins s I⟩
theorem pss_sw {X : Cx} {st : List Stmt} : PSs X st (SSW X st) := ⟨fun pins s σ H D I h => h pins s I⟩
theorem sw_of {X : Cx} {st : Stmt} {t : TS} {En : Ends} {σ : L2.St} {H : Hp} (h : PS X st t) (q : t En σ H) : SW X st En σ H := fun pins s I => h.run pins s σ H En I q
theorem ssw_of {X : Cx} {st : List Stmt} {t : TS} {En : Ends} {σ : L2.St} {H : Hp} (h : PSs X st t) (q : t En σ H) : SSW X st En σ H := fun pins s I => h.run pins s σ H En I q
/-- s means the statement py -/
def SS (nm : Nm) (sc : Sc) (py : Stmt) (e : S) : Prop := ∀ {X : Cx} {W : Wd} {B : Fb} {k : Nat} {c : Pr} {Wx : WX}, Cok nm sc X W B k c Wx → PassesOwn (model X.prog X.w) X.A X.env X.xe → ∀ {g : Gh} {ρ : Env} {σ : L2.St} {H : Hp} {D : Dn} {En : Ends},
  Sr W B g ρ σ H → wpS c e ρ D → DE W B g H D En → (∀ n fs, D.xx n fs → ∀ σ, XT W B g σ Wx n fs) → SW X py En σ H
def SSs (nm : Nm) (sc : Sc) (py : List Stmt) (e : Ss) : Prop := ∀ {X : Cx} {W : Wd} {B : Fb} {k : Nat} {c : Pr} {Wx : WX}, Cok nm sc X W B k c Wx → PassesOwn (model X.prog X.w) X.A X.env X.xe → ∀ {g : Gh} {ρ : Env} {σ : L2.St} {H : Hp} {D : Dn} {En : Ends},
  Sr W B g ρ σ H → wpSs c e ρ D → DE W B g H D En → (∀ n fs, D.xx n fs → ∀ σ, XT W B g σ Wx n fs) → SSW X py En σ H
section
variable {nm : Nm} {sc : Sc} {py : Stmt} {pys : List Stmt} {s1 : S} {ss : Ss} {e e2 : Expr} {ea eb : E} {pos p : Pos} {x : Str} {i : Nat}
theorem sss_nil : SSs nm sc [] .nil := by
  intro X W B k c Wx ok po g ρ σ H D En s h d hX
  unfold wpSs at h
  exact ssw_of pss_nil (d.nx ρ σ H g h (.refl g H) s)
theorem sss_cons (h1 : SS nm sc py s1) (h2 : SSs nm sc pys ss) : SSs nm sc (py :: pys) (.cons s1 ss) := by
  intro X W B k c Wx ok po g ρ σ H D En s h d hX
  unfold wpSs at h
  refine ssw_of (pss_cons ps_sw pss_sw) (h1 ok po (D := { D with nx := fun ρ1 => wpSs c ss ρ1 D }) s h ⟨fun ρ1 σ1 H1 g1 q k1 s1 => ?_, d.bk, d.ct, d.rt⟩ hX)
  exact h2 ok po s1 q (d.up k1) fun n fs y σ => (hX n fs y σ).up k1.le
theorem ss_pass : SS nm sc (.Pass pos) .pass := by
  intro X W B k c Wx ok po g ρ σ H D En s h d hX
  unfold wpS at h
  exact sw_of ps_pass (d.nx ρ σ H g h (.refl g H) s)
theorem ss_brk : SS nm sc (.Break pos) .brk := by
  intro X W B k c Wx ok po g ρ σ H D En s h d hX
  unfold wpS at h
  exact sw_of ps_break (d.bk ρ σ H g h (.refl g H) s)
theorem ss_cnt : SS nm sc (.Continue pos) .cnt := by
  intro X W B k c Wx ok po g ρ σ H D En s h d hX
  unfold wpS at h
  exact sw_of ps_continue (d.ct ρ σ H g h (.refl g H) s)
theorem ORep.h0 {W : Wd} {B : Fb} {g : Gh} {ρ : Env} {σ : L2.St} {H Hs : Hp} {v : V} {o : Opd} (r : ORep W B g ρ σ H Hs v o) : ORep W B g ρ σ H B.H0 v o := by
  cases o with
  | slot i => exact r
  | val t f =>
    cases f with
    | false => exact r
    | true => obtain ⟨a, e, n, w, h0, na, z⟩ := r; exact ⟨a, e, n, w, h0, na, h0⟩
theorem ss_ret (ha : SE nm sc e ea) : SS nm sc (.Return (some e) pos) (.ret ea) := by
  intro X W B k c Wx ok po g ρ σ H D En s h d hX
  unfold wpS at h
  exact sw_of (ps_ret pe_ew) (ha ok s h (fun n fs y => hX n fs y σ) fun o ρ1 v g1 H1 q x1 r => d.rt o ρ1 σ H1 g1 v q (Ex.keeps s x1) x1.st (ORep.h0 r))
theorem ss_retn : SS nm sc (.Return none pos) .retn := by
  intro X W B k c Wx ok po g ρ σ H D En s h d hX
  unfold wpS at h
  exact sw_of ps_retN (d.rt _ ρ σ H g (.non) h (.refl g H) s (show Rep W g H .non .non from .non))
/-- a value dropped: no comprehension -/
def noLc : Expr → Bool
  | .ListComp _ _ _ _ => false
  | .SetComp _ _ _ _ => false
  | .DictComp _ _ _ _ _ => false
  | _ => true
theorem swaps_no {t : Option Expr} {l : Nat} {env : PySem.Env} (h : noLc e = true) : swapsWith e t l env = pure false := by
  cases e <;> first | rfl | cases h
theorem ss_ex (hl : noLc e = true) (ha : SE nm sc e ea) : SS nm sc (.Expr e pos) (.ex ea) := by
  intro X W B k c Wx ok po g ρ σ H D En s h d hX
  unfold wpS at h
  exact sw_of (ps_expr pe_ew (swaps_no hl)) (ha ok s h (fun n fs y => hX n fs y σ) fun o ρ1 v g1 H1 q x1 r => d.nx ρ1 σ H1 g1 q (Ex.keeps s x1) x1.st)
theorem ss_doc {kk : Nat} {z : Str} {p2 : Pos} : SS nm sc (.Expr (.Constant (.str z) kk p2) pos) .pass := by
  intro X W B k c Wx ok po g ρ σ H D En s h d hX
  unfold wpS at h
  exact sw_of ps_doc (d.nx ρ σ H g h (.refl g H) s)
theorem ss_if {a b : List Stmt} {sa sb : Ss} (ht : SB nm sc e ea) (ha : SSs nm sc a sa) (hb : SSs nm sc b sb) : SS nm sc (.If e a b pos) (.if_ ea sa sb) := by
  intro X W B k c Wx ok po g ρ σ H D En s h d hX
  unfold wpS at h
  refine sw_of (ps_if pt_tw pss_sw pss_sw) (ht ok s h (fun n fs y => hX n fs y σ) fun kk ρ1 g1 H1 q x1 => ?_)
  cases kk with
  | true => exact ha ok po x1.st (q.1 rfl) (d.up (Ex.keeps s x1)) fun n fs y σ => (hX n fs y σ).up x1.le
  | false => exact hb ok po x1.st (q.2 rfl) (d.up (Ex.keeps s x1)) fun n fs y σ => (hX n fs y σ).up x1.le
/-! ### stores to names -/
/-- [..] on the line of its name, which is a local -/
def swB (sc : Sc) (e : Expr) (x : Str) (p : Pos) : Bool := match e with
  | .ListComp _ _ scope q => decide (sc.names.lookup x = some .local) && p.line == q.line && !(scope.names.any fun (n, k) => n == x && (k == .local || k == .cell))
  | .SetComp _ _ _ _ => true
  | .DictComp _ _ _ _ _ => true
  | _ => false
theorem swaps_by {X : Cx} {W : Wd} {B : Fb} {k : Nat} {c : Pr} {Wx : WX} (ok : Cok nm sc X W B k c Wx) {l : Nat} (h : swB sc e x p = false) : swapsWith e (some (.Name x p)) l X.env = pure false := by
  cases e with
  | ListComp elt gs scope q =>
    have e1 : (X.env.blockKind == ScopeKind.function) = true := by
      unfold Env.blockKind
      rw [ok.knd]; rfl
    have e2 : (X.env.kindOf x == some NameKind.local) = decide (sc.names.lookup x = some .local) := by
      rw [← ok.scp]
      show (X.env.scope.names.lookup x == some NameKind.local) = _
      by_cases z : X.env.scope.names.lookup x = some .local
      · rw [z]; simp
      · rw [decide_eq_false z]; exact beq_eq_false_iff_ne.mpr z
    show pure (X.env.blockKind == .function && X.env.kindOf x == some .local && p.line == q.line && !(scope.names.any fun (n, k) => n == x && (k == .local || k == .cell))) = pure false
    rw [e1, e2, Bool.true_and]
    exact congrArg pure h
  | SetComp a b c d => exact absurd h (by simp [swB])
  | DictComp a b c d e => exact absurd h (by simp [swB])
  | _ => rfl
theorem ss_set (hs : swB sc e x p = false) (hN : sc.N[i]? = some x) (hl : locB sc x = true) (ha : SE nm sc e ea) : SS nm sc (.Assign [.Name x p] e pos) (.asg (.tg (.nm i)) ea) := by
  intro X W B k c Wx ok po g ρ σ H D En s h d hX
  unfold wpS at h
  refine sw_of (ps_set ok.nd (by rw [ok.N]; exact hN) (ok.loc hl).1 pe_ew (swaps_by ok hs) (ok.loc hl).2) (ha ok s h (fun n fs y => hX n fs y σ) fun o ρ1 v g1 H1 q x1 r => ?_)
  unfold wpX at q
  dsimp only at q
  split at q
  · rename_i ρ2 ep
    obtain ⟨g2, s2, le, _⟩ := Sr.put x1.st r ep
    exact d.nx ρ2 _ H1 g2 q ((Ex.keeps s x1).trans (.of le)) s2
  · exact q.elim
end
end Zl

set_option Elab.async false
set_option linter.all false
set_option maxRecDepth 100000
set_option maxHeartbeats 4000000
/-! Z24: stores, loops. -/
namespace Zl
open PySem PySem.Spec PyProof.Rows L2
section
variable {nm : Nm} {sc : Sc} {py : Stmt} {pys : List Stmt} {s1 : S} {ss : Ss} {e e2 : Expr} {ea eb : E} {pos p : Pos} {x : Str} {i : Nat}
theorem set_nx {W : Wd} {B : Fb} {g : Gh} {D : Dn} {En : Ends} {ρ1 : Env} {σ : L2.St} {H H1 : Hp} {g1 : Gh} {v : V} {o : Opd} {c : Pr} {X' : KX} (d : DE W B g H D En) (kp : Keep g H g1 H1) (s1 : Sr W B g1 ρ1 σ H1) (r : ORep W B g1 ρ1 σ H1 H v o) (q : wpX c (.tg (.nm i)) o ρ1 D.nx X') : En.nx (σ.set i (some v)) H1 := by
  unfold wpX at q
  dsimp only at q
  split at q
  · rename_i ρ2 ep
    obtain ⟨g2, s2, le, _⟩ := Sr.put s1 r ep
    exact d.nx ρ2 _ H1 g2 q (kp.trans (.of le)) s2
  · exact q.elim
/-- name = [..] on one line -/
theorem ss_setLc {elt tg iter : Expr} {ifs : List Expr} {scope : Scope} {own : List (Str × Nat)} {lpos : Pos} {eit : It} {etg : Tg} {cd : Eo} {ee : E} (cx : CompX nm sc elt tg iter ifs scope own eit etg cd ee) (hs : swB sc (.ListComp elt [⟨tg, iter, ifs, 0⟩] scope lpos) x p = true) (hN : sc.N[i]? = some x) :
    SS nm sc (.Assign [.Name x p] (.ListComp elt [⟨tg, iter, ifs, 0⟩] scope lpos) pos) (.asg (.tg (.nm i)) (.comp (own.map (·.2)) etg eit cd ee)) := by
  intro X W B k c Wx ok po g ρ σ H D En s h d hX
  unfold wpS at h
  have okb := ok_blk ok (scope := scope) (own := own) (cx.blk ok).kind cx.hst
  have hl : sc.names.lookup x = some .local := by
    unfold swB at hs
    simp only [Bool.and_eq_true] at hs
    exact of_decide_eq_true hs.1.1
  have hs' : swapsWith (.ListComp elt [⟨tg, iter, ifs, 0⟩] scope lpos) (some (.Name x p)) pos.line X.env = pure true := by
    unfold swB at hs
    simp only [Bool.and_eq_true] at hs
    refine sw_true ok.knd (by rw [ok.scp]; exact hl) hs.1.2 ?_
    have := hs.2
    rw [Bool.not_eq_true'] at this
    exact this
  refine sw_of (ps_setLc (te := teB X scope elt) (tt := ttB X scope ifs) (g := gT X.K etg) ok.calm ok.nd (by rw [ok.N]; exact hN) (by rw [ok.scp]; exact hl) hs' pi_iw (cx.blk ok)
    (fun s H C cl fp => TgX.pg (okb s H C cl fp).stx cx.ht) (fun s H C cl fp => ⟨fun pins s' σ H' Q I h => h s H C cl fp pins s' I⟩) (fun s H C cl fp => ⟨fun pins s' σ H' Q I h => h s H C cl fp pins s' I⟩) (cx.hf X.env)) ?_
  exact comp_tlc cx ok s h (fun n fs y => hX n fs y σ) fun o ρ1 v g1 H1 q x1 r => set_nx d (Ex.keeps s x1) x1.st r q
/-! ### a, b = e -/
theorem sole {t v : Expr} {l : Nat} {env : PySem.Env} : swapsWithSole [t] v l env = swapsWith v (some t) l env := by
  unfold swapsWithSole; rfl
/-- nothing is swapped -/
def noSwap (sc : Sc) (e : Expr) : Bool := match e with
  | .Tuple _ _ _ => false
  | _ => noLc e
theorem ss_unp {es : List Expr} {ts : Tgs} {kk : Nat} (hn : noSwap sc e = true) (ht : TgsX sc es ts) (ha : SE nm sc e ea) : SS nm sc (.Assign [.Tuple es kk p] e pos) (.asg (.tg (.tp ts)) ea) := by
  intro X W B k c Wx ok po g ρ σ H D En s h d hX
  unfold wpS at h
  have hl : noLc e = true := by
    cases e <;> first | exact hn | rfl
  have hw : swappedStores [.Tuple es kk p] e X.env = pure none := by
    cases e <;> first | rfl | cases hn
  refine sw_of (ps_asg pe_ew (TgX.pg ok.stx (.tp ht)) (sole.trans (swaps_no hl)) hw rfl) (ha ok s h (fun n fs y => hX n fs y σ) fun o ρ1 v g1 H1 q x1 r => ?_)
  unfold wpX at q
  dsimp only at q
  split at q
  · rename_i t ρ2 ef
    obtain ⟨g2, x2, rt⟩ := ORep.fz x1.st r ef
    split at q
    · rename_i ρ3 es'
      exact stT_ok ok.K x2.st rt es' fun σ1 s1 _ => d.nx ρ3 σ1 H1 g2 q ((Ex.keeps s x1).trans (.of x2.le)) s1
    · exact q.elim
  · exact q.elim
/-! ### a, b = x, y -/
theorem putAll_len : ∀ {is : List Nat} {os : List Opd} {ρ ρ' : Env}, putAll ρ is os = some ρ' → is.length = os.length
  | [], [], _, _, _ => rfl
  | i :: is, o :: os, ρ, ρ', e => by
    unfold putAll at e
    split at e
    · rw [List.length_cons, List.length_cons, putAll_len e]
    · cases e
  | [], _ :: _, _, _, e => by unfold putAll at e; cases e
  | _ :: _, [], _, _, e => by unfold putAll at e; cases e
theorem paired_length {α β : Type} {P : α → β → Prop} : ∀ {a : List α} {b : List β}, Paired P a b → a.length = b.length
  | _, _, .nil => rfl
  | _, _, .cons _ r => by rw [List.length_cons, List.length_cons, paired_length r]
theorem par2 {y : Str} {j : Nat} {a b : Expr} {ess : Es} {px py' pt : Pos} {kt k2 : Nat} {pt2 : Pos} (hi : sc.N[i]? = some x) (hj : sc.N[j]? = some y) (hij : i ≠ j) (hx : sc.names.lookup x = some .local) (hy : sc.names.lookup y = some .local) (ha : SEs nm sc [a, b] ess)
    (hw : ∀ env : PySem.Env, env.scope.names = sc.names → env.scope.kind = .function → swappedStores [.Tuple [.Name x px, .Name y py'] kt pt] (.Tuple [a, b] k2 pt2) env = pure (some [x, y])) :
    SS nm sc (.Assign [.Tuple [.Name x px, .Name y py'] kt pt] (.Tuple [a, b] k2 pt2) pos) (.par [i, j] ess) := by
  intro X W B k c Wx ok po g ρ σ H D En s h d hX
  unfold wpS at h
  refine sw_of (ps_par ok.calm ok.nd (by rw [ok.N]; exact hi) (by rw [ok.N]; exact hj) hij (by rw [ok.scp]; exact hx) (by rw [ok.scp]; exact hy) pa_aw (hw _ ok.scp ok.knd) rfl) (ha ok s (wpEs_len ok.mono _ _ _ _ h) (fun n fs y => hX n fs y σ) fun os ρ1 vs g1 H1 ⟨hl, q⟩ x1 r => ?_)
  split at q
  · rename_i os' ρ2 ef
    obtain ⟨g2, x2, r2, _, hns⟩ := ORepL.fzo x1.st r ef
    split at q
    · rename_i ρ3 ep
      obtain ⟨g3, s3, le⟩ := Sr.putAll x2.st r2 hns ep
      have hv : vs.length = 2 := by rw [paired_length r2.all, ← putAll_len ep]; rfl
      match vs, hv with
      | [v, w], _ => exact ⟨v, w, rfl, d.nx ρ3 _ H1 g3 q ((Ex.keeps s x1).trans (.of (x2.le.trans le))) s3⟩
    · exact q.elim
  · exact q.elim
theorem par3 {y z : Str} {j l : Nat} {a b b3 : Expr} {ess : Es} {px py' pz pt : Pos} {kt k2 : Nat} {pt2 : Pos} (hi : sc.N[i]? = some x) (hj : sc.N[j]? = some y) (hl : sc.N[l]? = some z) (hij : i ≠ j) (hil : i ≠ l) (hjl : j ≠ l) (hx : sc.names.lookup x = some .local) (hy : sc.names.lookup y = some .local) (hz : sc.names.lookup z = some .local) (ha : SEs nm sc [a, b, b3] ess)
    (hw : ∀ env : PySem.Env, env.scope.names = sc.names → env.scope.kind = .function → swappedStores [.Tuple [.Name x px, .Name y py', .Name z pz] kt pt] (.Tuple [a, b, b3] k2 pt2) env = pure (some [x, y, z])) :
    SS nm sc (.Assign [.Tuple [.Name x px, .Name y py', .Name z pz] kt pt] (.Tuple [a, b, b3] k2 pt2) pos) (.par [i, j, l] ess) := by
  intro X W B k c Wx ok po g ρ σ H D En s h d hX
  unfold wpS at h
  refine sw_of (ps_par3 ok.calm ok.nd (by rw [ok.N]; exact hi) (by rw [ok.N]; exact hj) (by rw [ok.N]; exact hl) hij hil hjl (by rw [ok.scp]; exact hx) (by rw [ok.scp]; exact hy) (by rw [ok.scp]; exact hz) pa_aw (hw _ ok.scp ok.knd) rfl) (ha ok s (wpEs_len ok.mono _ _ _ _ h) (fun n fs y => hX n fs y σ) fun os ρ1 vs g1 H1 ⟨hl, q⟩ x1 r => ?_)
  split at q
  · rename_i os' ρ2 ef
    obtain ⟨g2, x2, r2, _, hns⟩ := ORepL.fzo x1.st r ef
    split at q
    · rename_i ρ3 ep
      obtain ⟨g3, s3, le⟩ := Sr.putAll x2.st r2 hns ep
      have hl3 := putAll_len ep
      have hv : vs.length = 3 := by rw [paired_length r2.all, ← hl3]; rfl
      match vs, hv with
      | [u, v, w], _ => exact ⟨u, v, w, rfl, d.nx ρ3 _ H1 g3 q ((Ex.keeps s x1).trans (.of (x2.le.trans le))) s3⟩
    · exact q.elim
  · exact q.elim
end
end Zl

set_option Elab.async false
set_option linter.all false
set_option maxRecDepth 100000
set_option maxHeartbeats 4000000
/-! Z25: more stores, loops. -/
namespace Zl
open PySem PySem.Spec PyProof.Rows L2
def sA (X : Cx) : TSet := fun o i v H Q => ∀ (pins : List (Addr × Obj)) (s : Shared) (σ : L2.St) (ov iv u : Value), Inv X pins σ H s → RelV o ov → RelV i iv → RelV v u → wpAny (model X.prog X.w) X.A (setItem ov iv u) (fun _ s' => ∃ H', Inv X pins σ H' s' ∧ Q H') X.xe s
theorem sA_ok {X : Cx} : PSet X (sA X) := fun pins s σ H o i v ov iv u Q I r1 r2 r3 h => h pins s σ ov iv u I r1 r2 r3
theorem RepK.any {W : Wd} {g : Gh} {H : Hp} {k : Key} : ∀ {vs : List (Key × V)} {ts : List (Key × T)}, RepK W g H vs ts → (vs.any fun kv => decide (kv.1 = k)) = (ts.any fun kv => decide (kv.1 = k))
  | _, _, .nil => rfl
  | _, _, .cons r rs => by rw [List.any_cons, List.any_cons, rs.any]
theorem RepK.map {W : Wd} {g : Gh} {H : Hp} {k : Key} {v : V} {t : T} (q : Rep W g H v t) : ∀ {vs : List (Key × V)} {ts : List (Key × T)}, RepK W g H vs ts → RepK W g H (vs.map fun kv => if kv.1 = k then (kv.1, v) else kv) (ts.map fun kv => if kv.1 = k then (kv.1, t) else kv)
  | _, _, .nil => .nil
  | _, _, .cons (k := h) r rs => by
    rw [List.map_cons, List.map_cons]
    by_cases e : h = k
    · rw [if_pos e, if_pos e]; exact .cons q (rs.map q)
    · rw [if_neg e, if_neg e]; exact .cons r (rs.map q)
theorem RepK.app {W : Wd} {g : Gh} {H : Hp} {k : Key} {v : V} {t : T} (q : Rep W g H v t) : ∀ {vs : List (Key × V)} {ts : List (Key × T)}, RepK W g H vs ts → RepK W g H (vs ++ [(k, v)]) (ts ++ [(k, t)])
  | _, _, .nil => .cons q .nil
  | _, _, .cons r rs => .cons r (rs.app q)
theorem dput_rep {W : Wd} {g : Gh} {H : Hp} {k : Key} {v : V} {t : T} (q : Rep W g H v t) {vs : List (Key × V)} {ts : List (Key × T)} (r : RepK W g H vs ts) : RepK W g H (putK vs k v) (dput ts k t) := by
  unfold putK dput
  rw [r.any]
  split
  · exact r.map q
  · exact r.app q
section
variable {W : Wd} {B : Fb} {g : Gh} {ρ : Env} {σ : L2.St} {H : Hp}
theorem own_dct {xs : List (Key × T)} {i : Nat} (s : Sr W B g ρ σ H) (h : ρ[i]? = some (.ow (.dct xs))) : ∃ a vs, σ[i]? = some (some (.ref a)) ∧ H a = some (.dK vs) ∧ RepK W g H vs xs := by
  obtain ⟨a, e, _, ⟨vs, eh, rl⟩, _⟩ := s.sl i _ h
  exact ⟨a, vs, e, eh, rl⟩
theorem io_dct {xs : List (Key × T)} {i : Nat} (s : Sr W B g ρ σ H) (h : ρ[i]? = some (.io (.dct xs))) : ∃ a vs, σ[i]? = some (some (.ref a)) ∧ H a = some (.dK vs) ∧ RepK W g H vs xs := by
  obtain ⟨a, e, _, ⟨vs, eh, rl⟩, _⟩ := s.sl i _ h
  exact ⟨a, vs, e, eh, rl⟩
theorem holds_at {i : Nat} (s : Sr W B g ρ σ H) (h : holdsC ρ i = true) : ∃ a, σ[i]? = some (some (.ref a)) := by
  unfold holdsC at h
  split at h
  · rename_i t e; obtain ⟨a, e, _⟩ := s.sl i _ e; exact ⟨a, e⟩
  · rename_i t e; obtain ⟨a, e, _⟩ := s.sl i _ e; exact ⟨a, e⟩
  · cases h
end
section
variable {nm : Nm} {sc : Sc} {e kx : Expr} {ea ek : E} {pos p tp : Pos} {x : Str} {i : Nat}
theorem asg_sub {X : Cx} {o : Expr} (hp : plainIx kx = true) (v : Value) : assign (.Subscript o kx tp) X.env v = (do
      let ov ← holding [v] (eval o X.env)
      let iv ← holding [v, ov] (eval kx X.env)
      standAt tp
      holding [v, ov, iv] (setItem ov iv v)
      release [v, ov, iv] []) := by
  cases kx <;> first | rfl | cases hp
/-- x[k] = e -/
theorem ss_sub (hs : noSwap sc e = true ∨ ∃ es k2 q, e = .Tuple es k2 q) (hp : plainIx kx = true) (hN : sc.N[i]? = some x) (hv : visB sc x = true) (hn : plainName x = true) (ha : SE nm sc e ea) (hk : SE nm sc kx ek) : SS nm sc (.Assign [.Subscript (.Name x p) kx tp] e pos) (.asg (.ix i ek) ea) := by
  intro X W B k c Wx ok po g ρ σ H D En s h d hX
  unfold wpS at h
  have hl : noLc e = true := by
    rcases hs with hs | ⟨es, k2, q, rfl⟩
    · cases e <;> first | exact hs | rfl
    · rfl
  have hw : swappedStores [.Subscript (.Name x p) kx tp] e X.env = pure none := by
    cases e <;> rfl
  refine sw_of (ps_asg pe_ew (pg_sub pe_ew pe_ew sA_ok (asg_sub hp)) (sole.trans (swaps_no hl)) hw rfl) (ha ok s h (fun n fs y => hX n fs y σ) fun o ρ1 v g1 H1 q x1 r => ?_)
  unfold wpX at q
  dsimp only at q
  split at q
  · rename_i t ρ2 ef
    obtain ⟨g2, x2, rt⟩ := ORep.fz x1.st r ef
    obtain ⟨hc, q⟩ := q
    obtain ⟨a, ea0⟩ := holds_at x2.st hc
    have le12 := x1.le.trans x2.le
    refine ew_nm ok hN hv hn ea0 (hk ok x2.st q (fun n fs y => (hX n fs y σ).up le12) fun o2 ρ3 kv g3 H3 q3 x3 r3 => ?_)
    obtain ⟨tk, et, q3⟩ := one_elim q3
    have rb := r3.rd x3.st et
    have k3 : Keep g H g3 H3 := ((Ex.keeps s x1).trans (.of x2.le)).trans (Ex.keeps x2.st x3)
    have rt3 := rt.keep (Ex.keeps x2.st x3)
    intro pins s2 σ2 ov iv u I r1 r2 r4
    split at q3
    · rename_i xs z e0
      obtain ⟨a2, vs, e1, eh, rl⟩ := own_lst x3.st e0
      rw [ea0] at e1; cases e1
      cases rb.int
      obtain ⟨j, ej, q3⟩ := q3
      have x4 := Ex.writeL (F := nw H3) x3.st e0 ea0 (rl.set rt3 j)
      exact set_list pins s2 σ2 H3 _ _ _ _ _ _ _ I r1 r2 r4 ⟨a, vs, z, j, rfl, rfl, eh, by rw [rl.length]; exact ej, d.nx _ _ _ g3 q3 (k3.trans (Ex.keeps x3.st x4)) x4.st⟩
    · rename_i kvs kk e0
      obtain ⟨a2, vs, e1, eh, rl⟩ := own_dct x3.st e0
      rw [ea0] at e1; cases e1
      split at q3
      · rename_i ky eky
        have x4 := Ex.writeD (F := nw H3) x3.st e0 ea0 (dput_rep (k := ky) rt3 rl)
        refine set_dict ok.un pins s2 σ2 H3 _ _ _ _ _ _ _ I r1 r2 r4 ⟨a, _, rfl, ?_, d.nx _ _ _ g3 q3.2 (k3.trans (Ex.keeps x3.st x4)) x4.st⟩
        rw [key_rel eky rb]
        exact .k eh (by rw [rl.length]; exact q3.1)
      · exact q3.elim
    · rename_i kvs kk e0
      obtain ⟨a2, vs, e1, eh, rl⟩ := io_dct x3.st e0
      rw [ea0] at e1; cases e1
      split at q3
      · rename_i ky eky
        have x4 := Ex.writeDI (F := nw H3) x3.st e0 ea0 (dput_rep (k := ky) rt3 rl)
        refine set_dict ok.un pins s2 σ2 H3 _ _ _ _ _ _ _ I r1 r2 r4 ⟨a, _, rfl, ?_, d.nx _ _ _ g3 q3.2 (k3.trans (Ex.keeps x3.st x4)) x4.st⟩
        rw [key_rel eky rb]
        exact .k eh (by rw [rl.length]; exact q3.1)
      · exact q3.elim
    · exact q3.elim
  · exact q.elim
/-! ### name op= e -/
def ipA (X : Cx) (op : Operator) : TIp := fun x y H Q => ∀ (pins : List (Addr × Obj)) (s : Shared) (σ : L2.St) (v u : Value), Inv X pins σ H s → RelV x v → RelV y u → wpAny (model X.prog X.w) X.A (inplaceOp op v u) (EP X pins σ Q) X.xe s
theorem ipA_ok {X : Cx} {op : Operator} : PIp X op (ipA X op) := fun pins s σ H x y v u Q I r1 r2 h => h pins s σ v u I r1 r2
/-- ints -/
def augO : Bop → Bool
  | .add => true
  | .sub => true
  | _ => false
theorem add_int {a b : T} {Kv : T → Prop} (h : opR .add a b fun t _ => Kv t) (hi : ∀ t, Kv t → ∃ z, t = .int z) : ∃ i j, a = .int i ∧ b = .int j ∧ Kv (.int (i + j)) := by
  cases a <;> cases b <;> first | exact ⟨_, _, rfl, rfl, h⟩ | exact (show False from h).elim | (obtain ⟨z, e⟩ := hi _ (show _ ∧ _ from h).2; cases e)
theorem sub_int {a b : T} {Kv : T → Prop} (h : opR .sub a b fun t _ => Kv t) : ∃ i j, a = .int i ∧ b = .int j ∧ Kv (.int (i - j)) := by
  cases a <;> cases b <;> first | exact ⟨_, _, rfl, rfl, h⟩ | exact (show False from h).elim
theorem ip_ok {X : Cx} {op : Bop} (ho : augO op = true) {a b : T} {W : Wd} {g : Gh} {H : Hp} {v w : V} {Kv : T → Prop} {Q : VK} (ra : RepB W g H v a) (rb : RepB W g H w b) (h : opR op a b fun t _ => Kv t) (hi : ∀ t, Kv t → ∃ z, t = .int z) (hq : ∀ z, Kv (.int z) → Q (.int z) H) : ipA X (bopP op) v w H Q := by
  intro pins s σ u z I r1 r2
  cases op <;> first | cases ho | skip
  · obtain ⟨i, j, rfl, rfl, q⟩ := add_int h hi
    cases ra.int; cases rb.int
    exact ip_add pins s σ H _ _ _ _ Q I r1 r2 ⟨i, j, rfl, rfl, hq _ q⟩
  · obtain ⟨i, j, rfl, rfl, q⟩ := sub_int h
    cases ra.int; cases rb.int
    exact ip_sub pins s σ H _ _ _ _ Q I r1 r2 ⟨i, j, rfl, rfl, hq _ q⟩
theorem ss_aug {op : Bop} (ho : augO op = true) (hN : sc.N[i]? = some x) (hl : locB sc x = true) (ha : SE nm sc e ea) : SS nm sc (.AugAssign (.Name x p) (bopP op) e pos) (.aug op i ea) := by
  intro X W B k c Wx ok po g ρ σ H D En s h d hX
  unfold wpS at h
  unfold wpE at h
  have main : ∀ v, σ[i]? = some (some v) → wpE c ea ρ (fun o2 ρ2 => two ρ2 (.slot i) o2 fun x y => opR op x y fun t f => (match Opd.val t f with
      | .val (.int z) _ => (match put ρ2 i (.val (.int z) false) with
        | some ρ3 => D.nx ρ3
        | none => False)
      | _ => False)) D.xx → SW X (.AugAssign (.Name x p) (bopP op) e pos) En σ H := by
    intro v hv h
    refine sw_of (ps_aug ok.nd (by rw [ok.N]; exact hN) (ok.loc hl).1 pe_ew ipA_ok (ok.loc hl).2) ⟨v, hv, ?_⟩
    refine ha ok s h (fun n fs y => hX n fs y σ) fun o ρ1 w g1 H1 q x1 r => ?_
    obtain ⟨t1, t2, e1, e2, q⟩ := two_elim q
    have r1 : RepB W g1 H1 v t1 := ORep.rd (Hs := H) (o := .slot i) x1.st hv e1
    have r2 := r.rd x1.st e2
    refine ip_ok (Kv := fun t => match t with
      | .int z => (match put ρ1 i (.val (.int z) false) with
        | some ρ3 => D.nx ρ3
        | none => False)
      | _ => False) ho r1 r2 (opR_mono (fun t f y => ?_) q) (fun t y => ?_) fun z y => ?_
    · cases t <;> first | exact (show False from y).elim | skip
      exact y
    · cases t <;> first | exact (show False from y).elim | exact ⟨_, rfl⟩
    · dsimp only at y
      split at y
      · rename_i ρ3 ep
        obtain ⟨g2, s2, le, _⟩ := Sr.put (Hs := H) (v := .int z) x1.st (show ORep W B g1 ρ1 σ H1 H (.int z) (.val (.int z) false) from .int z) ep
        exact d.nx ρ3 _ H1 g2 y ((Ex.keeps s x1).trans (.of le)) s2
      · exact y.elim
  unfold wpE at h
  split at h
  · rename_i t e; obtain ⟨v, q, _⟩ := s.sl i _ e; exact main v q h
  · rename_i t e; obtain ⟨v, q, _⟩ := s.sl i _ e; exact main v q h
  · rename_i t e; obtain ⟨v, q, _⟩ := s.sl i _ e; exact main _ q h
  · rename_i t e; obtain ⟨v, q, _⟩ := s.sl i _ e; exact main _ q h
  · exact h.elim
end
end Zl

set_option Elab.async false
set_option linter.all false
set_option maxRecDepth 100000
set_option maxHeartbeats 4000000
/-! Z26: loops, fields. -/
namespace Zl
open PySem PySem.Spec PyProof.Rows L2
section
variable {nm : Nm} {sc : Sc} {e : Expr} {ea : E} {pos p tp : Pos} {x : Str} {i : Nat} {body : List Stmt} {sb : Ss}
theorem ss_while (ht : SB nm sc e ea) (hb : SSs nm sc body sb) : SS nm sc (.While e body [] pos) (.while_ ea sb) := by
  intro X W B k c Wx ok po g ρ σ H D En s h d hX
  unfold wpS whileL at h
  obtain ⟨Wm, ⟨m0, w0⟩, hw⟩ := h
  refine sw_of (ps_while po pt_tw pss_sw) ?_
  refine ⟨fun m σ' H' => ∃ g' ρ', Sr W B g' ρ' σ' H' ∧ Keep g H g' H' ∧ Wm m ρ', ⟨m0, g, ρ, s, .refl g H, w0⟩, ?_⟩
  rintro m σ' H' ⟨g', ρ', s', k', w'⟩
  refine ht ok s' (hw m ρ' w') (fun n fs y => (hX n fs y σ').up k'.le) fun b ρ1 g1 H1 q x1 => ?_
  have k1 := k'.trans (Ex.keeps s' x1)
  cases b with
  | false => exact d.nx ρ1 σ' H1 g1 (q.2 rfl) k1 x1.st
  | true =>
    refine ⟨fun σ2 H2 => ∃ m', m' < m ∧ ∃ g2 ρ2, Sr W B g2 ρ2 σ2 H2 ∧ Keep g H g2 H2 ∧ Wm m' ρ2, fun σ2 H2 ⟨m', lt, z⟩ => ⟨m', lt, z⟩, ?_⟩
    refine hb ok po x1.st (q.1 rfl) ⟨fun ρ2 σ2 H2 g2 ⟨m', lt, w2⟩ k2 s2 => ⟨m', lt, g2, ρ2, s2, k1.trans k2, w2⟩, fun ρ2 σ2 H2 g2 q2 k2 s2 => d.nx ρ2 σ2 H2 g2 q2 (k1.trans k2) s2,
      fun ρ2 σ2 H2 g2 ⟨m', lt, w2⟩ k2 s2 => ⟨m', lt, g2, ρ2, s2, k1.trans k2, w2⟩, fun o ρ2 σ2 H2 g2 v q2 k2 s2 r2 => d.rt o ρ2 σ2 H2 g2 v q2 (k1.trans k2) s2 r2⟩ fun n fs y σ2 => (hX n fs y σ2).up k1.le
theorem ss_for {tg iter : Expr} {etg : Tg} {eit : It} (hi : SI nm sc tg iter eit) (ht : TgX sc tg etg) (hf : ∀ env x, foldedSetIterable iter env x = pure x) (hb : SSs nm sc body sb) : SS nm sc (.For tg iter body [] pos) (.for_ etg eit sb) := by
  intro X W B k c Wx ok po g ρ σ H D En s h d hX
  unfold wpS at h
  refine sw_of (ps_for (g := gT X.K etg) po ok.calm pi_iw (TgX.pg ok.stx ht) pss_sw (hf X.env)) ?_
  refine hi ok s h (fun n fs y => hX n fs y σ) fun ts ρ1 J g1 H1 q hlen x1 wk => ?_
  have k1 := Ex.keeps s x1
  obtain ⟨G, Y, w, hG, hY⟩ := wk
  let step : T → Env → Dn → Prop := fun x ρ2 D2 => match stT x ρ2 etg with
      | some ρ3 => wpSs c sb ρ3 D2
      | none => False
  have q' : forL step ts ρ1 D := q
  refine for_it w (fun i σ' H' => ∃ g' ρ', Sr W B g' ρ' σ' H' ∧ Keep g1 H1 g' H' ∧ forL step (ts.drop i) ρ' D) ⟨g1, ρ1, x1.st, .refl g1 H1, q'⟩ ?_ ?_ ?_
  · rintro i σ' H' _ ⟨g', ρ', _, k', _⟩
    exact hG g' H' k'
  · rintro i x σ' H' H'' hi' ⟨g', ρ', s', k', f⟩ hy
    have et : ts[i]? = some ts[i] := List.getElem?_eq_getElem hi'
    generalize ts[i] = t at et
    have ed : ts.drop i = t :: ts.drop (i + 1) := by
      rw [List.getElem?_eq_some_iff] at et
      obtain ⟨_, et⟩ := et
      rw [← et]; exact List.drop_eq_getElem_cons hi'
    rw [ed] at f
    have xb : Ex W B σ' (nw H') g' ρ' H' g' ρ' H'' ∧ Rep W g' H'' x t := by
      rcases hY i t g' H' x H'' et k' hy with ⟨rfl, r⟩ | ⟨pp, ws, hp, rfl, rfl, r⟩
      · exact ⟨.refl s', r⟩
      · exact ⟨.alloc s' hp, r⟩
    obtain ⟨xb, rx⟩ := xb
    have k2 := k'.trans (Ex.keeps s' xb)
    unfold forL at f
    dsimp only [step] at f
    split at f
    · rename_i ρ3 e3
      refine stT_ok ok.K xb.st rx e3 fun σ2 s2 _ => ?_
      have k02 := k1.trans k2
      refine hb ok po s2 f ⟨fun ρ4 σ4 H4 g4 q4 k4 s4 => ⟨g4, ρ4, s4, k2.trans k4, q4⟩, fun ρ4 σ4 H4 g4 q4 k4 s4 => d.nx ρ4 σ4 H4 g4 q4 (k02.trans k4) s4,
        fun ρ4 σ4 H4 g4 q4 k4 s4 => ⟨g4, ρ4, s4, k2.trans k4, q4⟩, fun o ρ4 σ4 H4 g4 v q4 k4 s4 r4 => d.rt o ρ4 σ4 H4 g4 v q4 (k02.trans k4) s4 r4⟩ fun n fs y σ4 => (hX n fs y σ4).up k02.le
    · exact f.elim
  · rintro σ' H' ⟨g', ρ', s', k', f⟩
    rw [List.drop_length] at f
    exact d.nx ρ' σ' H' g' f (k1.trans k') s'
/-- self.f = e, within the making -/
theorem ss_fld {f : Str} (hf : f ∈ nm.flds) (hl : noLc e = true) (hN : sc.N[i]? = some x) (hv : visB sc x = true) (hn : plainName x = true) (ha : SE nm sc e ea) : SS nm sc (.Assign [.Attribute (.Name x p) f tp] e pos) (.asg (.fld i f) ea) := by
  intro X W B k c Wx ok po g ρ σ H D En s h d hX
  unfold wpS at h
  refine sw_of (ps_fld pe_ew pe_ew (swaps_no hl)) (ha ok s h (fun n fs y => hX n fs y σ) fun o ρ1 v g1 H1 q x1 r => ?_)
  unfold wpX at q
  dsimp only at q
  split at q
  · rename_i t ρ2 ef
    obtain ⟨g2, x2, rt⟩ := ORep.fz x1.st r ef
    split at q
    · rename_i n fs e0
      obtain ⟨a, dx, vs, ea0, nS, eh, rf, io, m⟩ := x2.st.sl i _ e0
      have F := ok.pf.okc n m
      have x3 := Ex.write (F := nw H1) x2.st e0 rfl ea0 (s1 := .nw n (setF fs f t)) (o := .ins (W.CA n) dx (putF f v vs)) rfl (fun _ z => by cases z) fun k => ⟨a, dx, _, ea0, nS, upd_same, (rf.setF rt).keep k, io, m⟩
      exact ew_nm ok hN hv hn ea0 ⟨a, W.CA n, dx, vs, rfl, eh, by rw [ok.K]; exact F.cls, by rw [ok.K]; exact F.nat f hf, by rw [rf.length]; omega, d.nx _ _ _ g2 q.2 (((Ex.keeps s x1).trans (.of x2.le)).trans (Ex.keeps x2.st x3)) x3.st⟩
    · exact q.elim
  · exact q.elim
/-- code that is never come to -/
theorem ss_never {py : Stmt} {s0 : S} (h : ∀ c ρ D, wpS c s0 ρ D → False) : SS nm sc py s0 := by
  intro X W B k c Wx ok po g ρ σ H D En s w d hX
  exact (h c ρ D w).elim
end
end Zl

set_option Elab.async false
set_option linter.all false
set_option maxRecDepth 100000
set_option maxHeartbeats 4000000
/-! Z27: a def keeps its promise. -/
namespace Zl
open PySem PySem.Spec PyProof.Rows L2
theorem paired_get {α β : Type} {P : α → β → Prop} : ∀ {a : List α} {b : List β}, Paired P a b → ∀ {i : Nat} {y : β}, b[i]? = some y → ∃ x, a[i]? = some x ∧ P x y
  | _, _, .nil, _, _, h => by simp at h
  | _, _, .cons p r, 0, y, h => by simp at h; subst h; exact ⟨_, rfl, p⟩
  | _, _, .cons p r, i + 1, y, h => by
    obtain ⟨x, e, q⟩ := paired_get r (i := i) (y := y) (by simpa using h)
    exact ⟨x, by simpa using e, q⟩
section
variable {W : Wd} {B : Fb} {g g' : Gh} {ρ : Env} {σ : L2.St} {H H' : Hp}
theorem bk_of (le : g.Le g') (sh : Sh B g' H') (h0 : B.S0 = g.S) : Bk B.tab g.S B.IO B.H0 g'.S H' :=
  ⟨le.s, fun a h => by have := sh.ns a h; rw [h0] at this; exact this, sh.sd, sh.fr, sh.tk, sh.tb, sh.io⟩
end
section
variable {nm : Nm} {P : Program} {w : World} {W : Wd} {mg : Str → Option Value} {tab : List (Addr × Str)} {k : Nat} {c : Pr} {f : Addr} {name qual : Str} {params : Arguments} {body : List Stmt} {scope : Scope} {dV kV doc pm cdv ct oc : Value} {an od : Option Addr} {osl : Array (Option Value)} {N ps : List Str} {fn : Fn}
theorem start_get {vs : List V} {i : Nat} {v : V} (h : vs[i]? = some v) : (L2.start N vs)[i]? = some (some v) := by
  unfold L2.start
  have l : i < vs.length := (List.getElem?_eq_some_iff.mp h).1
  rw [List.getElem?_append_left (by rw [List.length_map]; exact l), List.getElem?_map, h]; rfl
theorem fn_g (pf : Pf nm P w W mg tab k c) (lk : W.K.lookup f = some ⟨oc, od, .func (PySem.W.fnOf name qual params body scope dV kV doc pm an cdv ct), osl⟩) (hcd : PySem.W.codeIn W.K cdv qual = true) (S : FnScope N ps scope) (hps : fn.ps = ps.length) (hn : fn.n = N.length) (hle : ps.length ≤ N.length)
    (hb : SSs nm ⟨N, scope.names, N, false, true⟩ body fn.body) : FnG P w W.K mg W.tbs (k + 2) f (PySem.W.fnOf name qual params body scope dV kV doc pm an cdv ct) ps (spT W tab (wpFn c fn)) := by
  have hlen : ∀ Γ vs H Q E, spT W tab (wpFn c fn) Γ vs H Q E → vs.length = ps.length := by
    rintro Γ vs H Q E ⟨S', IO, sl, ha, _, _, _, _, hw⟩
    rw [paired_length ha, hw.1, hps]
  refine ⟨hlen, fun base A outer s H args us vs Q E Γ hr hg e0 bo ci hb' rv hsp => ?_⟩
  have hl := hlen _ _ _ _ _ hsp
  obtain ⟨S', IO, sl, ha, h0, hIO, hS, hT, hlw, hw⟩ := hsp
  refine LamX.run_ofS (CX := L2.CX P w) lk hcd S hr e0 hb' rv hl fun hr2 => ⟨_, pss_sw, ?_⟩
  let X : Cx := cxOf (L2.CX P w) P w W.K mg base N qual scope f cdv A outer s H E
  let B : Fb := ⟨H, S', false, IO, Γ, N, [], tab⟩
  have hsl : sl.length = ps.length := by rw [hlw, hps]
  have hvl : vs.length = sl.length := paired_length ha
  have ioS : ∀ a, IO a → ∃ o, H a = some o := fun a h => by
    obtain ⟨s0, e1, e2, e3⟩ := hIO a h
    obtain ⟨v, ev, r⟩ := paired_get ha e1
    rw [e3] at ev; cases ev
    cases s0 <;> first | cases e2 | skip
    · exact r.elim
    · obtain ⟨b, eb, _, ow, _⟩ := r
      cases eb
      obtain ⟨o, ho, _⟩ := ow.some
      exact ⟨o, ho⟩
    · obtain ⟨b, dx, ws, eb, _, eh, _⟩ := r
      cases eb
      exact ⟨_, eh⟩
  have slot0 : ∀ (i : Nat) u, (sl ++ List.replicate (fn.n - fn.ps) Slot.no)[i]? = some u → (sl[i]? = some u) ∨ u = .no := fun i u h => by
    rcases Nat.lt_or_ge i sl.length with l | l
    · rw [List.getElem?_append_left l] at h; exact .inl h
    · rw [List.getElem?_append_right l] at h
      exact .inr (List.eq_of_mem_replicate (List.mem_of_getElem? h))
  have st : Sr W B ⟨S', Γ⟩ (sl ++ List.replicate (fn.n - fn.ps) .no) (L2.start N vs) H := by
    refine ⟨?_, ⟨fun a o h _ _ => h, hS, fun a h => .inl h, hT, fun a ps h => ⟨ps, h⟩, ioS⟩, fun i u h => ?_, fun i j a n x y => ?_, fun p hp => .inl hp⟩
    · unfold L2.start
      rw [List.length_append, List.length_append, List.length_replicate, List.length_replicate, List.length_map, hn, hps]
      omega
    · rcases slot0 i u h with q | q
      · obtain ⟨v, ev, r⟩ := paired_get ha q
        have es := start_get (N := N) ev
        cases u with
        | no => exact r.elim
        | sh t => exact ⟨v, es, r⟩
        | lk t => exact r.elim
        | ow t => exact r.elim
        | io t => obtain ⟨a, e, n, ow, io⟩ := r; subst e; exact ⟨a, es, n, ow, io⟩
        | nw d fs => obtain ⟨a, dx, ws, e, n, eh, rf, io⟩ := r; subst e; exact ⟨a, dx, ws, es, n, eh, rf, io⟩
      · subst q; trivial
    · obtain ⟨⟨u, h1, h2⟩, _⟩ := x
      obtain ⟨⟨u2, h3, h4⟩, _⟩ := y
      have z1 : i = 0 := by
        rcases slot0 i u h1 with q | q
        · exact h0 i u q h2
        · subst q; cases h2
      have z2 : j = 0 := by
        rcases slot0 j u2 h3 with q | q
        · exact h0 j u2 q h4
        · subst q; cases h4
      exact n (z1.trans z2.symm)
  have ok : Cok nm ⟨N, scope.names, N, false, true⟩ X W B k c (fun cls d _ H => E cls d H) := by
    refine ⟨rfl, rfl, rfl, S.nd, hr2, hg, pf, rfl, S.kind, fun x _ => .inl rfl, bo, ci, rfl, (fun z => by cases z), (fun z => by cases z), (fun z => by cases z), ?_, (fun z => by cases z), fun _ => ⟨rfl, rfl⟩⟩
    exact takes_of (X := X) rfl rfl rfl rfl
  have po : PassesOwn (model X.prog X.w) X.A X.env X.xe := passes_of (X := X) rfl
  have sub : ∀ {g' : Gh} {ρ' : Env} {σ' : L2.St} {H' : Hp}, Sr W B g' ρ' σ' H' → Keep g' H' ⟨g'.S, Γ⟩ H' := fun {g' ρ' σ' H'} s' => ⟨⟨fun _ h => h, fun p hp => by
    rcases s'.cg p hp with z | ⟨z, _⟩
    · exact z
    · cases z⟩, fun _ _ e _ => e⟩
  have ioR : ∀ {g' : Gh} {ρ' : Env} {σ' : L2.St} {H' : Hp}, Sr W B g' ρ' σ' H' → IoR W ⟨g'.S, Γ⟩ H' vs[0]? sl[0]? (ioOf sl ρ') := fun {g' ρ' σ' H'} s' => by
    unfold IoR
    split
    · rename_i t0 e0
      intro t et
      unfold ioOf at et
      rw [e0] at et
      split at et
      · rename_i t1 e1 e2
        cases et
        obtain ⟨a, ea, n, ow, io⟩ := s'.sl 0 _ e2
        obtain ⟨_, _, _, ev⟩ := hIO a io
        exact ⟨a, ev, n, ow.keep (sub s') fun o h => h⟩
      · rename_i e1 _; cases e1
      · cases et
    · rename_i d fs0 e0
      intro t et
      unfold ioOf at et
      rw [e0] at et
      split at et
      · rename_i e1 _; cases e1
      · rename_i d' fs' d2 fs2 e1 e2
        cases e1
        split at et
        · rename_i hd
          subst hd
          cases et
          obtain ⟨a, dx, ws, ea, n, eh, rf, io, _⟩ := s'.sl 0 _ e2
          obtain ⟨_, _, _, ev⟩ := hIO a io
          exact ⟨a, dx, ws, _, ev, n, rfl, eh, rf.keep (sub s')⟩
        · cases et
      · cases et
    · trivial
  have notIO : ∀ {a}, H a = none → ¬ IO a := fun h z => by
    obtain ⟨o, e⟩ := ioS _ z
    rw [h] at e; cases e
  refine hb ok po st hw ⟨fun ρ' σ' H' g' q k' s' => ?_, fun _ _ _ _ q => q.elim, fun _ _ _ _ q => q.elim, fun o ρ' σ' H' g' v q k' s' r => ?_⟩ fun n fs q σ' g' H' d xs sh le lm ed rx => ?_
  · exact q .non g'.S H' (bk_of (B := B) (g := ⟨S', Γ⟩) k'.le s'.sh rfl) (show Rep W _ H' .non .non from .non) (ioR s')
  · dsimp only at q
    split at q
    · rename_i t fr er
      refine q v g'.S H' (bk_of (B := B) (g := ⟨S', Γ⟩) k'.le s'.sh rfl) ?_ (ioR s')
      unfold retv at er
      split at er
      · cases er
        cases fr with
        | false =>
          have r' : Rep W g' H' v t := r
          exact r'.keep (sub s')
        | true =>
          obtain ⟨a, e, nS, ow, h00, _, _⟩ := r
          exact ⟨a, e, nS, ow.keep (sub s') fun o h => h, h00, notIO h00⟩
      · rename_i i
        have ri : σ'[i]? = some (some v) := r
        split at er
        · rename_i t' e0
          cases er
          obtain ⟨v', ev, rr⟩ := s'.sl i _ e0
          rw [ri] at ev; cases ev
          exact rr.keep (sub s')
        · rename_i t' e0
          cases er
          obtain ⟨v', ev, rr⟩ := s'.sl i _ e0
          rw [ri] at ev; cases ev
          exact rr.keep (sub s')
        · rename_i t' e0
          cases er
          obtain ⟨a, ev, nS, ow, h00⟩ := s'.sl i _ e0
          rw [ri] at ev; cases ev
          exact ⟨a, rfl, nS, ow.keep (sub s') fun o h => h, h00, notIO h00⟩
        · cases er
    · exact q.elim
  · have kp : Keep g' H' ⟨g'.S, Γ⟩ H' := ⟨⟨fun _ h => h, lm rfl⟩, fun _ _ e _ => e⟩
    exact q g'.S H' d xs (bk_of (B := B) (g := ⟨S', Γ⟩) le sh rfl) ed fun fl t e => by
      obtain ⟨v, ev, rv⟩ := rx fl t e
      exact ⟨v, ev, rv.keep kp⟩
end
end Zl

set_option Elab.async false
set_option linter.all false
set_option maxRecDepth 100000
set_option maxHeartbeats 4000000
/-! Z28: dict displays. -/
namespace Zl
open PySem PySem.Spec PyProof.Rows L2
theorem merge_nodup : ∀ {more acc : List (Key × V)}, ((acc ++ more).map (·.1)).Nodup → mergeK acc more = acc ++ more
  | [], acc, _ => by simp [mergeK]
  | (k, v) :: r, acc, h => by
    have e : putK acc k v = acc ++ [(k, v)] := by
      unfold putK
      rw [if_neg]
      intro z
      rw [List.any_eq_true] at z
      obtain ⟨kv, hm, he⟩ := z
      have he := of_decide_eq_true he
      rw [List.map_append, List.nodup_append] at h
      exact h.2.2 kv.1 (List.mem_map.mpr ⟨kv, hm, rfl⟩) k (by simp) he
    show mergeK (putK acc k v) r = _
    rw [e, merge_nodup (by rw [List.append_assoc]; exact h), List.append_assoc]; rfl
/-- the keys of a display: written texts -/
inductive KeyL : List (Option Expr) → List Str → Prop
  | nil : KeyL [] []
  | cons {k : Str} {j : Nat} {p : Pos} {ks : List (Option Expr)} {xs : List Str} (h : KeyL ks xs) : KeyL (some (.Constant (.str k) j p) :: ks) (k :: xs)
theorem KeyL.len : ∀ {ks : List (Option Expr)} {xs : List Str}, KeyL ks xs → ks.length = xs.length ∧ ks.all (·.isSome) = true
  | _, _, .nil => ⟨rfl, rfl⟩
  | _, _, .cons h => ⟨by rw [List.length_cons, List.length_cons, h.len.1], by rw [List.all_cons, h.len.2]; rfl⟩
inductive SEl (nm : Nm) (sc : Sc) : List Expr → Es → Prop
  | nil : SEl nm sc [] .nil
  | cons {e : Expr} {ee : E} {es : List Expr} {ess : Es} (hp : plainE e = true) (h : SE nm sc e ee) (hs : SEl nm sc es ess) : SEl nm sc (e :: es) (.cons ee ess)
theorem SEl.ses {nm : Nm} {sc : Sc} : ∀ {es : List Expr} {ess : Es}, SEl nm sc es ess → SEs nm sc es ess
  | _, _, .nil => ses_nil
  | _, _, .cons hp h hs => ses_cons hp h hs.ses
theorem SEl.len {nm : Nm} {sc : Sc} : ∀ {es : List Expr} {ess : Es}, SEl nm sc es ess → es.length = ess.len
  | _, _, .nil => rfl
  | _, _, .cons hp h hs => by rw [List.length_cons, hs.len]; rfl
theorem SEl.plain {nm : Nm} {sc : Sc} : ∀ {es : List Expr} {ess : Es}, SEl nm sc es ess → es.all plainE = true
  | _, _, .nil => rfl
  | _, _, .cons hp h hs => by rw [List.all_cons, hp, hs.plain]; rfl
def trs (X : Cx) : List Str → List Expr → List (TE × TE)
  | k :: ks, e :: es => (tC (.str k), EW X e) :: trs X ks es
  | _, _ => []
theorem pps_ok {X : Cx} {pos : Pos} : ∀ {ks : List (Option Expr)} {xs : List Str} {es : List Expr}, KeyL ks xs → xs.length = es.length → PPs X pos ks es (trs X xs es)
  | _, _, [], .nil, _ => pps_nil
  | _, _, e :: es, .cons h, hl => pps_cons pe_str pe_ew (pps_ok h (by simpa using hl))
  | _, _, _ :: _, .nil, hl => by simp at hl
  | _, _, [], .cons _, hl => by simp at hl
section
variable {nm : Nm} {sc : Sc} {X : Cx} {W : Wd} {B : Fb} {k : Nat} {c : Pr} {Wx : WX}
theorem pairs_ok (ok : Cok nm sc X W B k c Wx) : ∀ {es : List Expr} {ess : Es} {xs : List Str} {g : Gh} {ρ : Env} {σ : L2.St} {H : Hp} {K : List Opd → Env → Prop} {X' : KX} {Q : List (V × V) → Hp → Prop}, SEl nm sc es ess → xs.length = es.length → Sr W B g ρ σ H → wpEs c ess ρ K X' → (∀ n fs, X' n fs → XT W B g σ Wx n fs) →
    (∀ os ρ1 vs g1 H1, K os ρ1 → vs.length = xs.length → Ex W B σ (nw H) g ρ H g1 ρ1 H1 → ORepL W B g1 ρ1 σ H1 H vs os → Q ((xs.map V.str).zip vs) H1) → tPairs (trs X xs es) σ H Q
  | _, _, [], g, ρ, σ, H, K, X', Q, .nil, _, s, w, hX, hK => by
    unfold wpEs at w
    exact hK _ _ [] g H w rfl (.refl s) .nil
  | _, _, x :: xs, g, ρ, σ, H, K, X', Q, .cons hp h hs, hl, s, w, hX, hK => by
    unfold wpEs at w
    show EW X _ σ H _
    refine h ok s w hX fun o ρ1 v g1 H1 k1 x1 r1 => ?_
    refine pairs_ok ok hs (by simpa using hl) x1.st k1 (fun n fs y => (hX n fs y).up x1.le) fun os ρ2 vs g2 H2 k2 l2 x2 r2 => ?_
    refine hK _ _ (v :: vs) g2 H2 k2 (by rw [List.length_cons, List.length_cons, l2]) (x1.trans x2) ?_
    exact ORepL.cons (H1 := H1) (r1.keep x1.st x2 r1.nwF) (fun a ha hn => r1.nwF a ha hn) r2 fun a ha hm => x1.none_back ha
  | _, _, [], g, ρ, σ, H, K, X', Q, .cons _ _ _, hl, _, _, _, _ => by simp at hl
  | _, _, _ :: _, g, ρ, σ, H, K, X', Q, .nil, hl, _, _, _, _ => by simp at hl
theorem zip_rep {W : Wd} {g : Gh} {H : Hp} : ∀ {xs : List Str} {vs : List V} {ts : List T}, RepL W g H vs ts → RepK W g H ((xs.map (Sum.inr : Str → Key)).zip vs) ((xs.map Sum.inr).zip ts)
  | [], _, _, _ => .nil
  | x :: xs, _, _, .nil => .nil
  | x :: xs, _, _, .cons r rs => .cons r (zip_rep rs)
theorem zip_kv : ∀ {xs : List Str} {vs : List V}, (xs.map V.str).zip vs = ((xs.map (Sum.inr : Str → Key)).zip vs).map fun kv => (kV kv.1, kv.2)
  | [], _ => rfl
  | x :: xs, [] => rfl
  | x :: xs, v :: vs => by
    show (V.str x, v) :: (xs.map V.str).zip vs = (V.str x, v) :: List.map (fun kv => (kV kv.1, kv.2)) ((List.map (Sum.inr : Str → Key) xs).zip vs)
    rw [zip_kv]
theorem zip_keys : ∀ {xs : List Str} {vs : List V}, vs.length = xs.length → (((xs.map (Sum.inr : Str → Key)).zip vs).map (·.1)) = xs.map Sum.inr
  | [], [], _ => rfl
  | x :: xs, v :: vs, h => by
    show (Sum.inr x : Key) :: List.map (·.1) ((List.map (Sum.inr : Str → Key) xs).zip vs) = Sum.inr x :: xs.map Sum.inr
    rw [zip_keys (by simpa using h)]
  | [], _ :: _, h => by simp at h
  | _ :: _, [], h => by simp at h
end
theorem se_dsp {nm : Nm} {sc : Sc} {ks : List (Option Expr)} {xs : List Str} {es : List Expr} {ess : Es} {pos : Pos} (hk : KeyL ks xs) (hl : xs.length = es.length) (h0 : xs ≠ []) (h15 : xs.length ≤ 15) (nd : xs.Nodup) (he : SEl nm sc es ess) : SE nm sc (.Dict ks es pos) (.dsp xs ess) := by
  intro X W B k c Wx ok g ρ σ H K X' Q s h hX hK
  unfold wpE at h
  refine ew_of (pe_disp (pps_ok hk hl) hk.len.2 (by rw [hk.len.1, hl]) (fun z => by rw [z] at hk; cases hk; exact h0 rfl) (by rw [hk.len.1]; exact h15)) ?_
  intro p hp
  have xa : Ex W B σ (nw H) g ρ H g ρ (upd H p (.dK [])) := .alloc s hp
  refine pairs_ok ok he hl xa.st h hX fun os ρ1 vs g1 H1 k1 lv x1 r1 => ?_
  split at k1
  · rename_i ts ρ2 ef
    obtain ⟨g2, x2, rl⟩ := ORepL.fzs x1.st r1 ef
    have ed : ∀ {b : Prop}, True := fun {b} => trivial
    have x12 : Ex W B σ (nw (upd H p (.dK []))) g ρ (upd H p (.dK [])) g2 ρ2 H1 := x1.trans' x2 (fun _ h => h) fun a ha => .inl (fresh_nw r1 a ha)
    have nO : ¬ OwAt ρ σ p := fun z => by
      obtain ⟨o, e⟩ := s.some_at z
      rw [hp] at e; cases e
    have tl : ∀ kvs : List (Key × V), notTbl (.dK kvs) := fun kvs ps z => by cases z
    have eD : H1 p = some (.dK []) := x12.keep p _ upd_same nO (tl _)
    have nS : ¬ g2.S p := fun z => by
      rcases x12.news p z with q | q | q
      · obtain ⟨o, e, _⟩ := s.sh.sd p q
        rw [hp] at e; cases e
      · have q' : upd H p (.dK []) p = none := q
        rw [upd_same] at q'; cases q'
      · exact nO q
    have xall := xa.trans x12
    obtain ⟨z1, z2⟩ := Ex.anew s xall (o := .dK ((xs.map (Sum.inr : Str → Key)).zip vs)) hp nS eD (fun z => z) (tl _) (tl _)
    refine ⟨eD, (xs.map (Sum.inr : Str → Key)).zip vs, zip_kv, ?_, ?_⟩
    · rw [List.length_zip, List.length_map]; omega
    · rw [merge_nodup (by
        rw [List.nil_append, zip_keys lv]
        exact List.Pairwise.map _ (fun a b n z => n (by cases z; rfl)) nd), List.nil_append]
      have nO2 : ¬ OwAt ρ2 σ p := fun z => by
        obtain ⟨o, e⟩ := s.some_at (xall.owk p z)
        rw [hp] at e; cases e
      exact hK (.val _ true) ρ2 (.ref p) g2 _ k1.2 z1 ⟨p, rfl, nS, ⟨_, upd_same, (zip_rep rl).keep z2⟩, s.h0none hp, nO2, hp⟩
  · exact k1.elim
end Zl

set_option Elab.async false
set_option linter.all false
set_option maxRecDepth 100000
set_option maxHeartbeats 4000000
/-! Z29: sorted(set(xs)) of a list of ints. -/
namespace Zl
open PySem PySem.Spec PyProof.Rows L2
/-- the set as it is made -/
def so0 (w : World) : Obj := { cls := .type "set", dict := none, data := .set #[] 0 (.fresh 0 0 (!w.params.followText "set-order")) }
section
variable {P : Program} {w : World} {A : Around} {E : Value → Shared → Prop} {s : Shared}
theorem new_set0 (a : Value) {Z : Value → Shared → Prop} (q : Z (.ref s.heap.objs.size) { s with heap := s.heap.push (so0 w) }) : codeAny (model P w) A (.call (.builtin "set.__new__") ⟨[.type "set", a], []⟩) (wants Z E) s := code_set_led1 a q
set_option maxHeartbeats 8000000 in
theorem set_ofL {l : Addr} {its : Array Value} (ns : List Int) {Q : Value → Shared → Prop} (h0 : A.handled = none) (lst : s.heap.IsList l its) (hit : IntsAre its.toList ns) (small : ns.length + 1 < scanBound)
    (fin : ∀ (h' : Heap) (tk c : Nat), SetR w h' s.heap.objs.size (fun j => decide (j ∈ ns)) c → c ≤ ns.length → (∀ b o, s.heap.get? b = some o → h'.get? b = some o) → Q (.ref s.heap.objs.size) { s with heap := h', toks := tk }) :
    wpAny (model P w) A (call (.type "set") [.ref l]) Q E s := by
  have sz : its.size = ns.length := (Array.length_toList (xs := its)).symm.trans hit.length
  obtain ⟨cc, tt, m1⟩ := F.called_set.mro
  have m2 := F.called_set.made
  have m3 := F.called_set.sub
  refine wpAny_call (codeAny_of_tree ?_)
  show wpAny _ _ (callAny (.type "set") _) _ _ _
  refine wpAny_pure ⟨Code.quiet_builtin _ (by decide +kernel), codeAny_builtin F.entry_type_call ?_⟩
  rw [Around.under_plain (weight_type_call_type "set" [.ref l] []) rfl]
  have m4 := F.called_set.notType
  have m5 := F.called_set.canCreate
  have m6 := F.typeCall_set_1 (.ref l)
  repeat (any_goals (first | assumption | wp_step))
  refine codeAny_mono (new_set0 (.ref l) (E := E) (Z := fun u z => u = .ref s.heap.objs.size ∧ z = { s with heap := s.heap.push (so0 w) }) ⟨rfl, rfl⟩) fun r z hr => ?_
  cases r with
  | error e => exact hr
  | ok fl =>
    cases fl <;> first | exact hr.elim | skip
    rename_i u
    obtain ⟨rfl, rfl⟩ := hr
    have gS : (s.heap.push (so0 w)).get? s.heap.objs.size = some (so0 w) := Heap.get?_push_size _ rfl
    have tS : Shared.TypeIs { s with heap := s.heap.push (so0 w) } (.ref s.heap.objs.size) "set" := ⟨_, gS, rfl⟩
    have i1 := F.called_set.init.lookup
    have i2 := F.called_set.init.bind (.ref s.heap.objs.size)
    repeat (any_goals (first | assumption | wp_step))
    let End : Value → Shared → Prop := fun r z => r = .none ∧ ∃ h' tk c, z = { s with heap := h', toks := tk } ∧ SetR w h' s.heap.objs.size (fun j => decide (j ∈ ns)) c ∧ c ≤ ns.length ∧ ∀ b o, s.heap.get? b = some o → h'.get? b = some o
    refine codeAny_mono (codeAny_call_builtin (R := wants End E) F.called_set.init.plain F.entry_set_init (check_set_init_1 tS ?_)) fun r2 z2 hr2 => ?_
    · obtain ⟨⟨oc, od, odt, osl⟩, gl, e1, nl, e2⟩ := lst
      simp only at e1 e2
      subst e1; subst e2
      have gl' : (s.heap.push (so0 w)).get? l = some { cls := .type "list", dict := od, data := .seq its nl, slots := osl } := Heap.get?_push_of_some _ gl
      have f1 := F.sub_list_set
      have f2 := F.sub_list_frozenset
      have f3 : (Value.type "list" == Value.type "dict") = false := by decide
      have ll : (s.heap.push (so0 w)).IsList l its := ⟨_, gl', rfl, nl, rfl⟩
      unfold Builtin.«set.__init__» noKeywords Builtin.Frozenset.updateFrom
      generalize hit0 : pyIter = it0
      wp_walk
      subst hit0
      refine wpAny_pyIter_list ll ?_
      refine wpAny_bind (wpAny_runValue ?_)
      have lS : l < s.heap.objs.size := Heap.lt_size gl
      have z3 : A.in1.in1.in1.handled = none := by simp [h0]
      have sz1 : (s.heap.push (so0 w)).objs.size = s.heap.objs.size + 1 := Heap.size_push ..
      have nI : l ≠ (s.heap.push (so0 w)).objs.size := by rw [sz1]; exact Nat.ne_of_lt (Nat.lt_succ_of_lt lS)
      have nf : s.heap.objs.size ∉ [(s.heap.push (so0 w)).objs.size, l] := by
        rw [sz1]
        intro m
        rcases List.mem_cons.mp m with m | m
        · exact Nat.succ_ne_self _ m.symm
        · exact Nat.ne_of_gt lS (List.mem_singleton.mp m)
      have val : ∀ (i : Nat) (v : Value), its[i]? = some v → ∃ k t, ns[i]? = some k ∧ v = .int k t := fun i v hv => by
        have lt : i < ns.length := by rw [← sz]; exact (Array.getElem?_eq_some_iff.mp hv).1
        obtain ⟨t, e⟩ := PyProof.Rows.IntsAre.int_at hit i v (by rw [Array.getElem?_toList]; exact hv)
        exact ⟨ns[i], t, List.getElem?_eq_getElem lt, by rw [e, List.getD_eq_getElem?_getD, List.getElem?_eq_getElem lt]; rfl⟩
      refine set_update_ints ((Walks.list z3 _ l nI its).toS) s.heap.objs.size nf ns sz small val (its.size - 0) 0 _ (by omega) (Nat.zero_le _) ⟨⟨_, Heap.get?_push_size _ rfl, rfl, rfl⟩, ll.push _⟩ ?start ?over
      case start =>
        exact ⟨0, Nat.le_refl 0, setR_new_at (Heap.get?_push_of_some _ gS)⟩
      case over =>
        rintro ⟨h', g2, d', tk', os'⟩ c' hm hc' hS'
        have eg : g2 = s.gens := hm.gens
        have ed : d' = s.drawn := hm.drawn
        have eo : os' = s.os := hm.os
        subst eg; subst ed; subst eo
        show wpAny _ _ _ _ _ _
        refine wpAny_pure ?_
        show wpAny _ _ (ret Value.none) _ _ _
        refine wpAny_pure ⟨rfl, h', tk', c', rfl, hS', by rw [← sz]; exact hc', fun b o e => ?_⟩
        have lb : b < s.heap.objs.size := Heap.lt_size e
        refine hm.heap b o (fun m => ?_) (Heap.get?_push_of_some _ (Heap.get?_push_of_some _ e))
        rcases List.mem_cons.mp m with m | m
        · exact Nat.ne_of_lt lb m
        · have e' := List.mem_singleton.mp m
          rw [sz1] at e'
          exact Nat.ne_of_lt (Nat.lt_succ_of_lt lb) e'
    · cases r2 with
      | error e => exact hr2
      | ok f2 =>
        cases f2 <;> first | exact hr2.elim | skip
        obtain ⟨rfl, h', tk, c', rfl, hS', hc', hk'⟩ := hr2
        repeat (any_goals (first | assumption | wp_step))
        exact fin _ _ _ hS' hc' hk'
end
end Zl

set_option Elab.async false
set_option linter.all false
set_option maxRecDepth 100000
set_option maxHeartbeats 4000000
/-! Z30: sorted(set(xs)), the rule. -/
namespace Zl
open PySem PySem.Spec PyProof.Rows L2
theorem insI_mem (x k : Int) : ∀ l : List Int, k ∈ insI x l ↔ k = x ∨ k ∈ l
  | [] => by simp [insI]
  | y :: r => by
    unfold insI
    split
    · simp
    · split
      · rename_i e; subst e; simp
      · simp only [List.mem_cons, insI_mem x k r]
        constructor
        · rintro (h | h | h) <;> simp [h]
        · rintro (h | h | h) <;> simp [h]
theorem insI_asc (x : Int) : ∀ l : List Int, l.Pairwise (· < ·) → (insI x l).Pairwise (· < ·)
  | [], _ => by simp [insI]
  | y :: r, h => by
    have h' := List.pairwise_cons.mp h
    unfold insI
    split
    · rename_i lt
      refine List.pairwise_cons.mpr ⟨fun z hz => ?_, h⟩
      rcases List.mem_cons.mp hz with e | e
      · subst e; exact lt
      · exact Int.lt_trans lt (h'.1 z e)
    · split
      · exact h
      · rename_i n1 n2
        refine List.pairwise_cons.mpr ⟨fun z hz => ?_, insI_asc x r h'.2⟩
        rcases (insI_mem x z r).mp hz with e | e
        · subst e; omega
        · exact h'.1 z e
theorem setI_mem (k : Int) : ∀ ns : List Int, k ∈ setI ns ↔ k ∈ ns
  | [] => by simp [setI]
  | x :: r => by
    show k ∈ insI x (setI r) ↔ _
    rw [insI_mem, setI_mem k r, List.mem_cons]
theorem setI_asc : ∀ ns : List Int, (setI ns).Pairwise (· < ·)
  | [] => .nil
  | x :: r => insI_asc x _ (setI_asc r)
theorem asc_one : ∀ {a b : List Int}, a.Pairwise (· < ·) → b.Pairwise (· < ·) → (∀ k, k ∈ a ↔ k ∈ b) → a = b
  | [], [], _, _, _ => rfl
  | [], y :: b, _, _, h => absurd ((h y).mpr List.mem_cons_self) (by simp)
  | x :: a, [], _, _, h => absurd ((h x).mp List.mem_cons_self) (by simp)
  | x :: a, y :: b, ha, hb, h => by
    have ha' := List.pairwise_cons.mp ha
    have hb' := List.pairwise_cons.mp hb
    have e : x = y := by
      rcases List.mem_cons.mp ((h x).mp List.mem_cons_self) with q | q
      · exact q
      · rcases List.mem_cons.mp ((h y).mpr List.mem_cons_self) with q2 | q2
        · exact q2.symm
        · have := hb'.1 x q
          have := ha'.1 y q2
          omega
    subst e
    rw [asc_one ha'.2 hb'.2 fun k => ?_]
    constructor
    · intro hk
      rcases List.mem_cons.mp ((h k).mp (List.mem_cons_of_mem _ hk)) with q | q
      · subst q; exact absurd (ha'.1 k hk) (Int.lt_irrefl _)
      · exact q
    · intro hk
      rcases List.mem_cons.mp ((h k).mpr (List.mem_cons_of_mem _ hk)) with q | q
      · subst q; exact absurd (hb'.1 k hk) (Int.lt_irrefl _)
      · exact q
theorem asc_nodup : ∀ {l : List Int}, l.Pairwise (· < ·) → l.Nodup := fun h => h.imp fun a e => by omega
theorem setR_len {w : World} {h : Heap} {a : Addr} {ns : List Int} {c : Nat} (R : SetR w h a (fun j => decide (j ∈ ns)) c) : c = (setI ns).length := by
  obtain ⟨o, es, ep, t, _, _, _, _, nd, hm, _, _, hn, _⟩ := R
  have p : (es.toList.map keyOf).Perm (setI ns) := (List.perm_ext_iff_of_nodup nd (asc_nodup (setI_asc ns))).mpr fun k => by
    rw [setI_mem, ← hm k]; simp
  rw [← p.length_eq, List.length_map, Array.length_toList]; exact hn.symm
/-- a set of ints that was just made -/
def SetO (w : World) (a : Addr) (S : Int → Bool) (n : Nat) : HO := .ext fun h => SetR w h a S n
section
variable {W : Wd} {X : Cx} {pins : List (Addr × Obj)} {σ : L2.St} {g : Gh} {H : Hp} {s : Shared} {Q : VK}
theorem call_setL (hc : X.calm = true) (I : Inv X pins σ H s) {a : Addr} {ns : List Int} (h : H a = some (.lst (ns.map V.int))) (hz : ns.length + 1 < scanBound) (hq : ∀ p c, H p = none → c = (setI ns).length → Q (.ref p) (upd H p (SetO X.w p (fun j => decide (j ∈ ns)) c))) :
    wpAny (model X.prog X.w) X.A (call (.type "set") [.ref a]) (EP X pins σ Q) X.xe s := by
  obtain ⟨its, rv, pl, _⟩ := I.list (SqL.of (K := X.K) h)
  refine set_ofL ns (I.ok.hd hc) pl.isList (by rw [List.toList_toArray]; exact rv.ints) hz fun h' tk c R hle kp => ?_
  have hp := I.hok.fresh (Nat.le_refl s.heap.objs.size)
  refine ⟨.ref s.heap.objs.size, _, I.laid (o := SetO X.w s.heap.objs.size (fun j => decide (j ∈ ns)) c) (t' := tk) kp (Nat.le_refl _) ?_, rfl, hq _ c hp (setR_len R)⟩
  obtain ⟨o, rest⟩ := R
  have R' : SetR X.w h' s.heap.objs.size (fun j => decide (j ∈ ns)) c := ⟨o, rest⟩
  obtain ⟨_, _, _, go, _⟩ := rest
  exact ⟨R', ⟨o, go⟩, fun h1 h2 r k => SetR.at r k⟩
theorem call_sortS (hc : X.calm = true) (I : Inv X pins σ H s) {a : Addr} {S : Int → Bool} {n : Nat} (h : H a = some (SetO X.w a S n)) (h64 : n < 64) (hq : ∀ (p : Addr) (ns' : List Int), H p = none → ns'.Pairwise (· < ·) → (∀ k, k ∈ ns' ↔ S k = true) → ns'.length = n → Q (.ref p) (upd H p (.lst (ns'.map V.int)))) :
    wpAny (model X.prog X.w) X.A (call (.builtin "sorted") [.ref a]) (EP X pins σ Q) X.xe s := by
  have ob : ObjOk X.prog X.w H s.heap a (SetO X.w a S n) := I.hok a _ h
  refine sorted_set ob.1 (I.ok.hd hc) h64 fun s' p out c ns' kp eg eo hp gp hi pw hm hl => ?_
  have fp := I.hok.fresh hp
  have rv := vals_of_ints hi
  refine ⟨.ref p, upd H p (.lst (ns'.map V.int)), I.call' (ch := []) eo (Un.laid kp hp fp) (I.hok.laid kp hp ⟨?_, out.toList, c, rv, ?_⟩) (by rw [eg]; exact I.bare) (fun b z => absurd z (by simp)), rfl, hq p ns' fp pw hm hl⟩
  · rw [List.length_map, hl]
    exact Nat.le_trans (Nat.le_of_lt h64) (by decide)
  · rw [gp]
end
section
variable {nm : Nm} {sc : Sc} {e : Expr} {ea : E} {pos p pos2 p2 : Pos}
theorem int_rep {W : Wd} {g : Gh} {H : Hp} : ∀ ns : List Int, RepL W g H (ns.map V.int) (ns.map T.int)
  | [] => .nil
  | i :: r => .cons (.int i) (int_rep r)
theorem se_sset (h1 : ("sorted" : Str) ∈ nm.blts) (h2 : ("set" : Str) ∈ nm.blts) (g1 : glB sc ("sorted" : Str) = true) (g2 : glB sc ("set" : Str) = true) (hp : plainE e = true) (ha : SE nm sc e ea) : SE nm sc (.Call (.Name ("sorted" : Str) p) [.Call (.Name ("set" : Str) p2) [e] [] pos2] [] pos) (.blt .sset (.cons ea .nil)) := by
  intro X W B k c Wx ok g ρ σ H K X' Q s h hX hK
  unfold wpE at h
  refine ew_callB (ok.gl g1) (ok.pf.blt _ h1) rfl (.inl ⟨_, rfl⟩) (by decide) rfl ?_
  refine aw_of (pa_cons pe_ew pa_nil (star_cons rfl)) ?_
  refine ew_callB (ok.gl g2) (ok.pf.blt _ h2) rfl (.inr ⟨_, rfl⟩) (by decide) (by rw [List.all_cons, hp]; rfl) ?_
  refine aw_of (pa_cons pe_ew pa_nil (star_cons hp)) ?_
  unfold wpEs at h
  refine ha ok s h hX fun o ρ1 v g1 H1 k1 x1 r1 => ?_
  unfold wpEs at k1
  dsimp only at k1
  split at k1
  · rename_i ts et
    obtain ⟨t, e2, rfl⟩ := rds1 et
    have rb := r1.rd x1.st e2
    unfold bltR at k1
    cases t <;> first | exact (show False from k1).elim | skip
    dsimp only at k1
    split at k1
    · rename_i xs ns en
      obtain ⟨⟨z1, z2⟩, q⟩ := k1
      obtain ⟨a, vs, rfl, eh, rl⟩ := rb.lst
      rw [allInt_rep rl en] at eh
      intro pins s2 us I rus
      obtain ⟨u, rfl, ru⟩ := vals1 rus
      cases ru
      refine call_setL ok.calm I eh (by show _ < 4096; exact z1) fun pp cc hpp hcc => ?_
      have x2 : Ex W B σ (nw H1) g1 ρ1 H1 g1 ρ1 (upd H1 pp (SetO X.w pp (fun j => decide (j ∈ ns)) cc)) := .alloc x1.st hpp
      intro pins3 s3 us3 I3 rus3
      obtain ⟨u3, rfl, ru3⟩ := vals1 rus3
      cases ru3
      refine call_sortS ok.calm I3 upd_same (by rw [hcc]; exact z2) fun p3 ns' hp3 pw hm hl => ?_
      have e : ns' = setI ns := asc_one pw (setI_asc ns) fun k => by rw [hm k, setI_mem]; simp
      subst e
      refine fin_new hK (x1.trans x2) (.lst hp3 ?_) q
      exact int_rep _
    · exact k1.elim
  · exact k1.elim
end
end Zl

set_option Elab.async false
set_option linter.all false
set_option maxRecDepth 100000
set_option maxHeartbeats 4000000
/-! Z31: {}, xs[i] += e. -/
namespace Zl
open PySem PySem.Spec PyProof.Rows L2
section
variable {nm : Nm} {sc : Sc} {e kx : Expr} {ea ek : E} {pos p tp : Pos} {x : Str} {i : Nat}
theorem se_dsp0 : SE nm sc (.Dict [] [] pos) (.dsp [] .nil) := by
  intro X W B k c Wx ok g ρ σ H K X' Q s h hX hK
  unfold wpE at h
  unfold wpEs at h
  dsimp only [fzs] at h
  refine ew_of pe_dnewK fun q hq => ?_
  exact fin_new (t := .dct []) (f := true) hK (.refl s) (.inr ⟨q, _, hq, (fun _ z => by cases z), rfl, rfl, (fun z => by cases z), fun _ => ⟨[], upd_same, .nil⟩⟩) h.2
def gA (X : Cx) : V → V → Hp → VK → Prop := fun o i H Q => ∀ (pins : List (Addr × Obj)) (s : Shared) (σ : L2.St) (ov iv : Value), Inv X pins σ H s → RelV o ov → RelV i iv → wpAny (model X.prog X.w) X.A (getItem ov iv) (EP X pins σ Q) X.xe s
theorem gA_ok {X : Cx} : PGet X (gA X) := fun pins s σ H o i ov iv Q I r1 r2 h => h pins s σ ov iv I r1 r2
theorem get_lst {X : Cx} {H : Hp} {a : Addr} {vs : List V} {z : Int} {j : Nat} {v : V} {Q : VK} (h : H a = some (.lst vs)) (hj : L2.ixN vs.length z = some j) (hv : vs[j]? = some v) (q : Q v H) : gA X (.ref a) (.int z) H Q := by
  intro pins s σ ov iv I r1 r2
  cases r1
  obtain ⟨t, rfl⟩ := r2
  obtain ⟨its, rv, pl, hz⟩ := I.list (SqL.of (K := X.K) h)
  obtain ⟨u, eu, ru⟩ := rv.get hv
  have hl := rv.length
  have l63 := line63
  have fin : EP X pins σ Q u s := ⟨v, H, I, ru, q⟩
  unfold L2.ixN at hj
  split at hj
  · rename_i h0
    split at hj
    · cases hj
      exact wpAny_getItem_list pl.isList h0 (by omega) (by simpa using eu) fin
    · cases hj
  · rename_i h0
    split at hj
    · rename_i h1
      cases hj
      exact wpAny_getItem_list_neg pl.isList (by omega) (by rw [List.size_toArray]; omega) (by omega) (by rw [List.size_toArray, ← hl]; simpa using eu) fin
    · cases hj
theorem aug_sub (hp : plainIx kx = true) (ov iv new : Value) : augStore kx ov iv new = (do holding [new, ov, iv] (setItem ov iv new); release [new, ov, iv] []; pure .next) := by
  cases kx <;> first | rfl | cases hp
/-- x[k] op= e -/
theorem ss_augix {op : Bop} (ho : augO op = true) (hp : plainIx kx = true) (hN : sc.N[i]? = some x) (hv : visB sc x = true) (hn : plainName x = true) (hk : SE nm sc kx ek) (ha : SE nm sc e ea) : SS nm sc (.AugAssign (.Subscript (.Name x p) kx tp) (bopP op) e pos) (.augix op i ek ea) := by
  intro X W B k c Wx ok po g ρ σ H D En s h d hX
  unfold wpS at h
  obtain ⟨hc, h⟩ := h
  obtain ⟨a, ea0⟩ := holds_at s hc
  refine sw_of (ps_augS pe_ew pe_ew gA_ok pe_ew ipA_ok sA_ok (fun ov iv new => aug_sub hp ov iv new)) (ew_nm ok hN hv hn ea0 ?_)
  refine hk ok s h (fun n fs y => hX n fs y σ) fun o1 ρ1 kv g1 H1 k1 x1 r1 => ?_
  obtain ⟨tk, et, k1⟩ := one_elim k1
  have rb := r1.rd x1.st et
  split at k1
  · rename_i xs z e0
    obtain ⟨a1, vs, e1, eh, rl⟩ := own_lst x1.st e0
    rw [ea0] at e1; cases e1
    cases rb.int
    obtain ⟨j, x0, ej, ex, k1⟩ := k1
    obtain ⟨v0, ev, rv⟩ := rl.get ex
    refine get_lst eh (by rw [rl.length]; exact ej) ev ?_
    refine ha ok x1.st k1 (fun n fs y => (hX n fs y σ).up x1.le) fun o2 ρ2 w g2 H2 k2 x2 r2 => ?_
    obtain ⟨t2, et2, k2⟩ := one_elim k2
    have r2' := r2.rd x2.st et2
    have rv2 : RepB W g2 H2 v0 x0 := .inl (rv.keep (Ex.keeps x1.st x2))
    refine ip_ok (Kv := fun t => match t, ρ2[i]? with
        | .int m, some (.ow (.lst ys)) => ∃ j2, L2.ixN ys.length z = some j2 ∧ D.nx (ρ2.set i (.ow (.lst (ys.set j2 (.int m)))))
        | _, _ => False) ho rv2 r2' k2 (fun t y => ?_) fun m y => ?_
    · cases t <;> first | exact (show False from y).elim | exact ⟨_, rfl⟩
    · intro pins s2 σ2 ov iv u I q1 q2 q3
      split at y
      · rename_i m' ys em e2
        cases em
        obtain ⟨a2, vs2, e3, eh2, rl2⟩ := own_lst x2.st e2
        rw [ea0] at e3; cases e3
        obtain ⟨j2, ej2, y⟩ := y
        have x3 := Ex.writeL (F := nw H2) x2.st e2 ea0 (rl2.set (v := .int m) (t := .int m) (.int m) j2)
        exact set_list pins s2 σ2 H2 _ _ _ _ _ _ _ I q1 q2 q3 ⟨a, vs2, z, j2, rfl, rfl, eh2, by rw [rl2.length]; exact ej2, d.nx _ _ _ g2 y (((Ex.keeps s x1).trans (Ex.keeps x1.st x2)).trans (Ex.keeps x2.st x3)) x3.st⟩
      · exact y.elim
  · exact k1.elim
end
end Zl

set_option Elab.async false
set_option linter.all false
set_option maxRecDepth 100000
set_option maxHeartbeats 4000000
/-! Z32: own exceptions made. -/
namespace Zl
open PySem PySem.Spec PyProof.Rows L2
/-- what the written part says of the class whose __init__ is named: ValueError's -/
structure IniC (K : PySem.W.Frag) (C : Addr) : Prop where
  ga : PySem.W.specialIn K (.ref C) "__getattribute__" = some (some (.builtin "type.__getattribute__"))
  rd : PySem.W.readsIn K C (.type "type") = true
  fd : PySem.W.findCls K (.ref C) (.type "type") "__init__" = some (.val (.builtin "ValueError.__init__"))
section
variable {X : Cx} {e : Expr} {es : List Expr} {ta : TA} {pos p1 p2 : Pos} {x : Str} {C0 : Addr}
theorem pe_cinit {pl : Sem Bool} (hg : Gl X x) (hm : X.mg x = some (.ref C0)) (hdb : (x == ("__debug__" : Str)) = false) (T : IniC X.K C0) (ha : PA X (e :: es) ta)
    (hc : eval (.Call (.Attribute (.Name x p1) "__init__" p2) (e :: es) [] pos) X.env = (do
      let ov ← eval (.Name x p1) X.env
      standAt p2.atName
      let (f, first) ← holding [ov] (getMethod ov "__init__" pl)
      callWith pos f first (backTo pos (starEach (e :: es) X.env)) (backToKw pos (keywordEach [] X.env))))
    (he : starEach (e :: es) X.env = (false, eval e X.env) :: starEach es X.env) (hpl : (backTo pos (starEach es X.env)).any (·.1) = false) :
    PE X (.Call (.Attribute (.Name x p1) "__init__" p2) (e :: es) [] pos) (tVeI X.K ta) := by
  refine ⟨fun pins s σ H Q I h => ?_⟩
  refine PySem.W.methodCall_KW (ld_glob I hg hm ?_ hdb) hc
  refine PySem.W.method_cls I.kIn T.ga (PySem.W.cls_value I.kIn T.rd T.fd (by decide +kernel) ?_)
  show wpAny _ _ (callWith pos (Value.builtin "ValueError.__init__") [] (backTo pos (starEach (e :: es) X.env)) []) _ _ _
  refine PyProof.Rows.callWith_method1 (thn (ha.run pos pins _ σ H _ (I.tok _) h) fun us s1 ⟨vs, H1, I1, r1, a, C, ws, ev, hl, T', ea, q⟩ => ?_) he hpl
  subst ev
  cases r1 with
  | @cons _ u0 _ ur ra rw' =>
    obtain rfl : u0 = Value.ref a := ra
    have hz : ur.length ≤ sizeLine := by
      rw [← Paired.length rw', sizeLine_eq]
      omega
    exact oinit_ok T' I1 ea hz fun s' J => ⟨.non, H1, J, rfl, q⟩
end
end Zl

set_option Elab.async false
set_option linter.all false
set_option maxRecDepth 100000
set_option maxHeartbeats 4000000
/-! Z33: raise. -/
namespace Zl
open PySem PySem.Spec PyProof.Rows L2
/-- self.f = f, one after another -/
inductive StoL (N : List Str) : List Stmt → List (Str × Nat) → Prop
  | nil : StoL N [] []
  | cons {st : List Stmt} {f x : Str} {i : Nat} {fs : List (Str × Nat)} {p1 p2 p3 pos : Pos} {self : Str} (h0 : N[0]? = some self) (hi : N[i]? = some x) (h : StoL N st fs) : StoL N (.Assign [.Attribute (.Name self p1) f p2] (.Name x p3) pos :: st) ((f, i) :: fs)
section
variable {X : Cx} {a C : Addr} {En : Ends}
theorem upd_comm {H : Hp} {a b : Addr} {o u : HO} (h : a ≠ b) : upd (upd H a o) b u = upd (upd H b u) a o := by
  funext x
  unfold upd
  by_cases h1 : x = b
  · by_cases h2 : x = a
    · exact absurd (h2.symm.trans h1) h
    · subst h1; simp [h2]
  · simp [h1]
theorem upd_self {H : Hp} {a : Addr} {o : HO} (h : H a = some o) : upd H a o = H := by
  funext x
  unfold upd
  by_cases e : x = a
  · subst e; simp [h]
  · simp [e]
/-- how the fields' values lie among the slots -/
inductive FV (σ : L2.St) : List (Str × Nat) → List (Str × V) → Prop
  | nil : FV σ [] []
  | cons {f : Str} {i : Nat} {v : V} {fs : List (Str × Nat)} {vs : List (Str × V)} (h : σ[i]? = some (some v)) (r : FV σ fs vs) : FV σ ((f, i) :: fs) ((f, v) :: vs)
theorem FV.len {σ : L2.St} : ∀ {fs : List (Str × Nat)} {vs : List (Str × V)}, FV σ fs vs → fs.length = vs.length
  | _, _, .nil => rfl
  | _, _, .cons _ r => by rw [List.length_cons, List.length_cons, r.len]
theorem sto_more (T : OexC X.K C) (vis : ∀ (i : Nat) x, X.N[i]? = some x → Vis X.env.scope x ∧ plainName x = true) {σ : L2.St} (ha : σ[0]? = some (some (.ref a))) : ∀ {st : List Stmt} {fs : List (Str × Nat)} {vs : List (Str × V)} {H : Hp} {d : Addr} {acc : List (Str × V)}, StoL X.N st fs → FV σ fs vs →
    (∀ p ∈ fs, PySem.W.findIn X.K (.ref C) p.1 = some none) → H a = some (exo a C (some d)) → H d = some (exd d acc) → d ≠ a → acc.length + fs.length ≤ 900 → En.nx σ (upd H d (exd d (vs.reverse ++ acc))) → SSW X st En σ H
  | _, _, _, H, d, acc, .nil, .nil, _, _, ed, _, _, q => ssw_of pss_nil (by
      have q' : En.nx σ (upd H d (exd d acc)) := q
      rw [upd_self ed] at q'; exact q')
  | _, _, _, H, d, acc, .cons (f := f) h0 hi h, .cons (v := v) hv r, hno, ea, ed, ne, hl, q => by
    refine ssw_of (pss_cons (ps_ost (te := fun σ H Q => ∃ v, σ[_]? = some (some v) ∧ Q v H) (to := fun σ H Q => ∃ v, σ[_]? = some (some v) ∧ Q v H) (pe_var h0 (vis _ _ h0).1 (plainName_dbg (vis _ _ h0).2) (plainName_cd (vis _ _ h0).2)) (pe_var hi (vis _ _ hi).1 (plainName_dbg (vis _ _ hi).2) (plainName_cd (vis _ _ hi).2))) pss_sw) ?_
    refine ⟨v, hv, .ref a, ha, a, C, rfl, T, hno (f, _) List.mem_cons_self, .inr ⟨d, acc, ea, ed, by have := hl; rw [List.length_cons] at this; omega, ?_⟩⟩
    refine sto_more T vis ha h r (fun p hp => hno p (List.mem_cons_of_mem _ hp)) (by rw [upd_ne (Ne.symm ne)]; exact ea) upd_same ne (by rw [List.length_cons] at hl ⊢; omega) ?_
    rw [upd_upd]
    rw [List.reverse_cons, List.append_assoc] at q
    exact q
end
end Zl

set_option Elab.async false
set_option linter.all false
set_option maxRecDepth 100000
set_option maxHeartbeats 4000000
/-! Z34: raise, the rule. -/
namespace Zl
open PySem PySem.Spec PyProof.Rows L2
theorem fv_of {N : List Str} {vs : List V} : ∀ (fs : List Str) (ws : List V) (k : Nat), ws.length = fs.length → (∀ j v, ws[j]? = some v → vs[k + j]? = some v) → FV (L2.start N vs) (fs.zipIdx k) (fs.zip ws)
  | [], ws, k, _, _ => by
    cases ws <;> exact .nil
  | f :: fs, [], k, h, _ => by simp at h
  | f :: fs, w :: ws, k, h, q => by
    rw [List.zipIdx_cons, List.zip_cons_cons]
    refine .cons (start_get (q 0 w rfl)) (fv_of fs ws (k + 1) (by simpa using h) fun j v e => ?_)
    have := q (j + 1) v (by simpa using e)
    rw [Nat.add_assoc, Nat.add_comm 1 j]; exact this
section
variable {P : Program} {w : World} {K : PySem.W.Frag} {mg : Str → Option Value} {f C C0 : Addr} {name qual cn self : Str} {params : Arguments} {st : List Stmt} {scope : Scope} {dV kV doc pm cdv ct oc : Value} {an od : Option Addr} {osl : Array (Option Value)} {N ps : List Str} {fs : List Str} {j : Nat} {msg : Str} {p1 p2 p3 p4 p5 p6 : Pos}
theorem ini_ok (lk : K.lookup f = some ⟨oc, od, .func (PySem.W.fnOf name qual params (.Expr (.Call (.Attribute (.Name cn p1) "__init__" p2) [.Name self p3, .Constant (.str msg) j p4] [] p5) p6 :: st) scope dV kV doc pm an cdv ct), osl⟩) (hcd : PySem.W.codeIn K cdv qual = true)
    (S : FnScope N ps scope) (hl : ps.length = fs.length + 1) (h0 : N[0]? = some self) (hg : scope.names.lookup cn = some .globalImplicit) (hm : mg cn = some (.ref C0)) (hp : plainName cn = true) (T0 : IniC K C0) (T : OexC K C) (hst : StoL N st (fs.zipIdx 1)) (hne : fs ≠ []) (hz : fs.length ≤ 100)
    (vis : ∀ (i : Nat) x, N[i]? = some x → Vis scope x ∧ plainName x = true) (hno : ∀ g ∈ fs, PySem.W.findIn K (.ref C) g = some none)
    {pl : PySem.Env → Sem Bool} (hc : ∀ env, eval (.Call (.Attribute (.Name cn p1) "__init__" p2) [.Name self p3, .Constant (.str msg) j p4] [] p5) env = (do
      let ov ← eval (.Name cn p1) env
      standAt p2.atName
      let (f, first) ← holding [ov] (getMethod ov "__init__" (pl env))
      callWith p5 f first (backTo p5 (starEach [.Name self p3, .Constant (.str msg) j p4] env)) (backToKw p5 (keywordEach [] env))))
    (base : Heap) : FnOk P w K mg base (L2.CX P w) 2 f (PySem.W.fnOf name qual params (.Expr (.Call (.Attribute (.Name cn p1) "__init__" p2) [.Name self p3, .Constant (.str msg) j p4] [] p5) p6 :: st) scope dV kV doc pm an cdv ct) ps (spIni C fs) := by
  refine FnOk.mono (j := 1) (fn_of (k := 0) lk hcd S (fun vs H Q E => ?_) fun A outer s H vs Q E hr hsp => ⟨_, pss_sw, ?_⟩) (by omega)
  · rintro ⟨a, ws, rfl, e, _⟩
    rw [List.length_cons, e, hl]
  · obtain ⟨a, ws, rfl, hw, ea, hq⟩ := hsp
    have e0 : (L2.start N (.ref a :: ws))[0]? = some (some (.ref a)) := start_get rfl
    refine ssw_of (pss_cons (ps_expr (pe_cinit (X := cxOf (L2.CX P w) P w K mg base N qual scope f cdv A outer s H E) (show _ = _ from hg) hm (plainName_dbg hp) T0 (pa_cons (pe_var h0 (vis _ _ h0).1 (plainName_dbg (vis _ _ h0).2) (plainName_cd (vis _ _ h0).2)) (pa_cons pe_str pa_nil rfl) rfl) (hc _) rfl rfl) rfl) pss_sw) ?_
    refine ⟨.ref a, e0, a, C, [.str msg], rfl, by simp, T, ea, ?_⟩
    cases fs with
    | nil => exact absurd rfl hne
    | cons g fs =>
      cases ws with
      | nil => simp at hw
      | cons y ws =>
        rw [List.zipIdx_cons] at hst
        have hv := fv_of (N := N) (vs := .ref a :: y :: ws) fs ws 2 (by simpa using hw) fun j v e => by
          rw [Nat.add_comm]; simpa using e
        cases hst with
        | cons h0' hi hr' =>
          cases h0.symm.trans h0'
          have ey : (L2.start N (.ref a :: y :: ws))[1]? = some (some y) := start_get rfl
          refine ssw_of (pss_cons (ps_ost (te := tVar 1) (to := tVar 0) (pe_var h0 (vis _ _ h0).1 (plainName_dbg (vis _ _ h0).2) (plainName_cd (vis _ _ h0).2)) (pe_var hi (vis _ _ hi).1 (plainName_dbg (vis _ _ hi).2) (plainName_cd (vis _ _ hi).2))) pss_sw) ?_
          refine ⟨y, ey, .ref a, e0, a, C, rfl, T, hno g List.mem_cons_self, .inl ⟨ea, fun d hd ne => ?_⟩⟩
          refine sto_more (X := cxOf (L2.CX P w) P w K mg base N qual scope f cdv A outer s H E) T vis e0 hr' hv (fun p hp => ?_) upd_same (by rw [upd_ne ne]; exact upd_same) ne (by rw [List.length_zipIdx]; simp only [List.length_cons, List.length_nil]; simp only [List.length_cons] at hz; omega) ?_
          · refine hno p.1 (List.mem_cons_of_mem _ ?_)
            obtain ⟨x, i⟩ := p
            exact List.mem_of_getElem? (show fs[i - 2]? = some x from by
              have hz2 := List.mem_zipIdx hp
              rw [hz2.2.2]; exact List.getElem?_eq_getElem _)
          · have q := hq d hd ne
            show Q .non _
            rw [upd_comm ne.symm, upd_upd]
            rw [List.zip_cons_cons, List.reverse_cons] at q
            exact q
end
theorem zipF_rep {W : Wd} {g : Gh} {H : Hp} {x : Str} {t : T} : ∀ (fs : List Str) {vs : List V} {ts : List T}, RepL W g H vs ts → (fs.zip ts).lookup x = some t → ∃ v, (fs.zip vs).lookup x = some v ∧ Rep W g H v t
  | [], _, _, _, e => by simp at e
  | f :: fs, _, _, .nil, e => by simp at e
  | f :: fs, _, _, .cons r rs, e => by
    rw [List.zip_cons_cons, List.lookup_cons] at e
    rw [List.zip_cons_cons, List.lookup_cons]
    cases q : x == f with
    | true => rw [q] at e; simp at e; subst e; exact ⟨_, rfl, r⟩
    | false => rw [q] at e; exact zipF_rep fs rs e
theorem lookup_append' {x : Str} {v : V} : ∀ {l l' : List (Str × V)}, l.lookup x = some v → (l ++ l').lookup x = some v
  | [], _, e => by simp at e
  | (f, u) :: l, l', e => by
    rw [List.cons_append, List.lookup_cons]
    rw [List.lookup_cons] at e
    cases q : x == f with
    | true => rw [q] at e; exact e
    | false => rw [q] at e; exact lookup_append' e
theorem lookup_append_no {x : Str} : ∀ {l l' : List (Str × V)}, x ∉ l.map (·.1) → (l ++ l').lookup x = l'.lookup x
  | [], _, _ => rfl
  | (f, u) :: l, l', h => by
    rw [List.cons_append, List.lookup_cons]
    have : (x == f) = false := beq_eq_false_iff_ne.mpr fun z => h (by subst z; exact List.mem_cons_self)
    rw [this]
    exact lookup_append_no fun z => h (List.mem_cons_of_mem _ z)
theorem lookup_rev {x : Str} {v : V} : ∀ (fs : List Str) (vs : List V), fs.Nodup → (fs.zip vs).lookup x = some v → ((fs.zip vs).reverse).lookup x = some v
  | [], _, _, e => by simp at e
  | f :: fs, [], _, e => by simp at e
  | f :: fs, u :: vs, nd, e => by
    rw [List.zip_cons_cons, List.lookup_cons] at e
    rw [List.zip_cons_cons, List.reverse_cons]
    cases q : x == f with
    | true =>
      rw [q] at e
      have hx := beq_iff_eq.mp q
      subst hx
      rw [lookup_append_no]
      · rw [List.lookup_cons, q]; exact e
      · intro z
        obtain ⟨p, hp, ep⟩ := List.mem_map.mp z
        have hp := List.mem_reverse.mp hp
        have := (List.of_mem_zip (a := p.1) (b := p.2) hp).1
        rw [ep] at this
        exact (List.nodup_cons.mp nd).1 this
    | false =>
      rw [q] at e
      exact lookup_append' (lookup_rev fs vs (List.nodup_cons.mp nd).2 e)
section
variable {nm : Nm} {sc : Sc} {es : List Expr} {e : Expr} {ess : Es} {pos pos' p : Pos} {n : Str} {fs : List Str}
theorem ss_raise (hf : (n, fs) ∈ nm.excs) (hg : glB sc n = true) (hn : plainName n = true) (hp : (e :: es).all plainE = true) (ha : SEs nm sc (e :: es) ess) : SS nm sc (.Raise (some (.Call (.Name n p) (e :: es) [] pos)) none pos') (.raise n ess) := by
  intro X W B k c Wx ok po g ρ σ H D En s h d hX
  unfold wpS at h
  obtain ⟨hm, hex, F⟩ := ok.pf.exc (n, fs) hf
  obtain ⟨fI, fd, ps, iC, tI, hb, F1⟩ := F.ini
  rw [List.all_cons, Bool.and_eq_true] at hp
  refine sw_of (ps_raise ok.calm ok.tk (pmk_oex (CX := L2.CX X.prog X.w) (ds := []) (dvs := []) (sp := spIni (W.CA n) fs) (k := 2) (by rw [ok.K]; exact F.ok) (by rw [ok.K]; exact iC) (by rw [ok.K]; exact tI) (by rw [ok.K]; exact F1 _) (ok.room.mono (by have := ok.pf.kk; omega)) (by rw [ok.K]; exact hb) .nil
    (passes_call ok.tk fun _ _ _ _ z => z.elim) (ok.gl hg) hm pa_aw (plainName_dbg hn) (star_cons hp.1) (star_plain hp.2))) ?_
  refine ha ok s h (fun n fs y => hX n fs y σ) fun os ρ1 v g1 H1 k1 x1 r1 => ?_
  split at k1
  · rename_i ts ρ2 fs' ec e2
    rw [hex] at e2; cases e2
    obtain ⟨g2, x2, rl⟩ := ORepL.fzs x1.st r1 ec
    have x : Ex W B σ (nw H) g ρ H g2 ρ2 H1 := x1.trans' x2 (fun _ h => h) fun a ha => .inl (fresh_nw r1 a ha)
    have hl : v.length = fs.length := by rw [rl.length]; exact k1.1.symm
    refine ⟨by have : fs.length ≤ 100 := F.len; omega, fun a na => ⟨a, v, by rw [List.append_nil], hl, upd_same, fun dd hd ne => ⟨rfl, dd, (fs.zip v).reverse, upd_same, by rw [upd_ne ne]; exact upd_same, by rw [upd_ne ne] at hd; exact hd, ?_⟩⟩⟩
    rw [upd_ne ne] at hd
    have hh : upd (del (upd (upd (upd H1 a (exo a (W.CA n) none)) dd (exd dd (fs.zip v).reverse)) a (exo a (W.CA n) (some dd))) a) dd (.xd (fs.zip v).reverse) = upd H1 dd (.xd (fs.zip v).reverse) := by
      funext b
      unfold upd del
      by_cases e1 : b = dd
      · simp [e1]
      · by_cases e2 : b = a
        · subst e2; simp [e1, na]
        · simp [e1, e2]
    rw [hh]
    have x3 : Ex W B σ (nw H1) g2 ρ2 H1 g2 ρ2 (upd H1 dd (.xd (fs.zip v).reverse)) := .alloc x2.st hd
    refine hX n _ k1.2 σ g2 _ dd _ x3.st.sh x.le (fun l p hp => ?_) upd_same fun f t e => ?_
    · rcases x2.st.cg p hp with z | ⟨z, _⟩
      · exact z
      · rw [l] at z; cases z
    · obtain ⟨u, eu, ru⟩ := zipF_rep fs rl e
      exact ⟨u, lookup_rev fs v F.nd eu, ru.keep (Ex.keeps x2.st x3)⟩
  · exact k1.elim
end
end Zl

set_option Elab.async false
set_option linter.all false
set_option maxRecDepth 100000
set_option maxHeartbeats 4000000
/-! Z35: a lambda made. -/
namespace Zl
open PySem PySem.Spec PyProof.Rows L2
section
variable {W : Wd} {B : Fb} {σ : L2.St} {g g' : Gh} {ρ ρ' : Env} {H H' : Hp}
theorem lkAll_len : ∀ {cs : List Nat} {ρ ρ1 : Env}, lkAll ρ cs = some ρ1 → ρ1.length = ρ.length
  | [], ρ, ρ1, h => by unfold lkAll at h; cases h; rfl
  | i :: cs, ρ, ρ1, h => by
    unfold lkAll at h
    split at h
    · rw [lkAll_len h, List.length_set]
    · exact lkAll_len h
    · rw [lkAll_len h, List.length_set]
    · cases h
/-- a name that a lambda sees from now on -/
theorem Ex.lock (s : Sr W B g ρ σ H) {i : Nat} {t : T} (h : ρ[i]? = some (.sh t)) : Ex W B σ (fun _ => False) g ρ H g (ρ.set i (.lk t)) H := by
  have ow : ∀ {j a}, OwI (ρ.set i (.lk t)) σ j a → OwI ρ σ j a := fun {j a} ⟨⟨u, h1, h2⟩, h3⟩ => by
    rcases get_set_some h1 with ⟨e, e2, _⟩ | ⟨e, h1⟩
    · subst e2; cases h2
    · exact ⟨⟨u, h1, h2⟩, h3⟩
  refine ⟨⟨by rw [List.length_set]; exact s.len, s.sh, fun j u hj => ?_, fun j j' a ne x y => s.ds j j' a ne (ow x) (ow y), fun p hp => ?_⟩, .refl g, fun _ h => .inl h, fun _ _ e _ _ => e, fun a ⟨j, x⟩ => ⟨j, ow x⟩, fun j u hj => ?_, fun _ ps h => ⟨ps, h⟩, fun _ h => s.some_at h⟩
  · rcases get_set_some hj with ⟨e, e2, _⟩ | ⟨e, hj⟩
    · subst e; subst e2; obtain ⟨v, a, b⟩ := s.sl j _ h; exact ⟨v, a, b⟩
    · exact s.sl j u hj
  · rcases s.cg p hp with q | ⟨l, j, x, u, h1, h2, h3, h4⟩
    · exact .inl q
    · refine .inr ⟨l, j, x, u, h1, h2, h3, ?_⟩
      rw [get_set_ne (fun e => by subst e; rw [h] at h4; cases h4)]
      exact h4
  · rw [get_set_ne (fun e => by subst e; rw [h] at hj; cases hj)]
    exact hj
theorem lkAll_ok : ∀ {cs : List Nat} {g : Gh} {ρ ρ1 : Env}, Sr W B g ρ σ H → lkAll ρ cs = some ρ1 → ∃ g1, Ex W B σ (fun _ => False) g ρ H g1 ρ1 H
  | [], g, ρ, ρ1, s, h => by unfold lkAll at h; cases h; exact ⟨g, .refl s⟩
  | i :: cs, g, ρ, ρ1, s, h => by
    unfold lkAll at h
    split at h
    · rename_i t e
      have x1 := Ex.lock s e
      obtain ⟨g1, x2⟩ := lkAll_ok x1.st h
      exact ⟨g1, x1.trans' x2 (fun _ h => h) fun _ h => .inl h⟩
    · exact lkAll_ok s h
    · rename_i t e
      have ef : fz ρ (.slot i) = some (t, ρ.set i (.sh t)) := by simp only [fz, e]
      obtain ⟨v, ev, _⟩ : ∃ v, σ[i]? = some (some v) ∧ True := by
        obtain ⟨a, ea, _⟩ := s.sl i _ e
        exact ⟨_, ea, trivial⟩
      obtain ⟨g2, x2, rt⟩ := ORep.fz (Hs := H) s (show ORep W B g ρ σ H H v (.slot i) from ev) ef
      have e2 : (ρ.set i (.sh t))[i]? = some (.sh t) := by
        rw [List.getElem?_set_self]
        exact (List.getElem?_eq_some_iff.mp e).1
      have x3 := Ex.lock x2.st e2
      rw [List.set_set] at x3
      obtain ⟨g4, x4⟩ := lkAll_ok x3.st h
      refine ⟨g4, ((x2.trans' x3 (F := fun _ => False) (fun a z => ?_) fun _ z => z.elim).trans' x4 (fun _ h => h) fun _ h => .inl h)⟩
      obtain ⟨_, z, _⟩ := fresh_some (show ORep W B g ρ σ H H v (.slot i) from ev) z
      cases z
    · cases h
/-! ### the cells that a lambda sees -/
def addG (B : Fb) (σ : L2.St) (cs : List Nat) : List (Addr × V) := cs.filterMap fun i => match B.N[i]?, σ[i]? with
  | some x, some (some v) => (B.cells.lookup x).map fun c => (c, v)
  | _, _ => none
theorem lkAll_lk : ∀ {cs : List Nat} {ρ ρ1 : Env}, lkAll ρ cs = some ρ1 → (∀ (i : Nat) t, ρ[i]? = some (Slot.lk t) → ρ1[i]? = some (Slot.lk t)) ∧ ∀ i ∈ cs, ∃ t, ρ1[i]? = some (Slot.lk t)
  | [], ρ, ρ1, h => by unfold lkAll at h; cases h; exact ⟨fun _ _ h => h, fun i h => by cases h⟩
  | i :: cs, ρ, ρ1, h => by
    unfold lkAll at h
    have key : ∀ t, (∃ s, ρ[i]? = some s ∧ ∀ u, s ≠ .lk u) → lkAll (ρ.set i (.lk t)) cs = some ρ1 → (∀ (i : Nat) t, ρ[i]? = some (Slot.lk t) → ρ1[i]? = some (Slot.lk t)) ∧ ∀ j ∈ i :: cs, ∃ t, ρ1[j]? = some (Slot.lk t) := fun t ⟨s, hs, hn⟩ h => by
      obtain ⟨a, b⟩ := lkAll_lk h
      refine ⟨fun j u e => a j u ?_, fun j hj => ?_⟩
      · rw [get_set_ne (fun z => by subst z; rw [hs] at e; cases e; exact hn u rfl)]; exact e
      · rcases List.mem_cons.mp hj with z | z
        · subst z
          exact ⟨t, a j t (by rw [List.getElem?_set_self (List.getElem?_eq_some_iff.mp hs).1])⟩
        · exact b j z
    split at h
    · rename_i t e; exact key t ⟨_, e, fun _ z => by cases z⟩ h
    · rename_i t e
      obtain ⟨a, b⟩ := lkAll_lk h
      exact ⟨a, fun j hj => (List.mem_cons.mp hj).elim (fun z => by subst z; exact ⟨t, a j t e⟩) (b j)⟩
    · rename_i t e; exact key t ⟨_, e, fun _ z => by cases z⟩ h
    · cases h
theorem Ex.know (s : Sr W B g ρ σ H) (hl : B.lam = true) {cs : List Nat} (h : ∀ i ∈ cs, ∃ t, ρ[i]? = some (Slot.lk t)) : Ex W B σ (fun _ => False) g ρ H ⟨g.S, addG B σ cs ++ g.Γ⟩ ρ H := by
  have le : g.Le ⟨g.S, addG B σ cs ++ g.Γ⟩ := ⟨fun _ h => h, fun _ h => List.mem_append_right _ h⟩
  have k : Keep g H ⟨g.S, addG B σ cs ++ g.Γ⟩ H := ⟨le, fun _ _ e _ => e⟩
  refine ⟨⟨s.len, ⟨s.sh.fr, s.sh.sd, s.sh.ns, s.sh.tb, s.sh.tk, s.sh.io⟩, fun j u hj => (s.sl j u hj).keep k fun b qb hd => ⟨(s.owi ⟨⟨u, hj, hd⟩, qb⟩).1, fun _ e => e⟩, s.ds, fun p hp => ?_⟩, le, fun _ h => .inl h, fun _ _ e _ _ => e, fun _ h => h, fun _ _ h => h, fun _ ps h => ⟨ps, h⟩, fun _ h => s.some_at h⟩
  rcases List.mem_append.mp hp with z | z
  · obtain ⟨i, hi, e⟩ := List.mem_filterMap.mp z
    split at e
    · rename_i x v e1 e2
      obtain ⟨c, ec, ep⟩ := Option.map_eq_some_iff.mp e
      subst ep
      obtain ⟨t, et⟩ := h i hi
      exact .inr ⟨hl, i, x, t, e1, ec, e2, et⟩
    · cases e
  · exact s.cg p z
theorem repC_of {cl : List (Str × Addr)} : ∀ {N : List Str} {caps : List (Option T)}, N.length = caps.length → (∀ (i : Nat) x, N[i]? = some x → (caps[i]? = some none ∧ cl.lookup x = none) ∨ ∃ c v t, caps[i]? = some (some t) ∧ cl.lookup x = some c ∧ (c, v) ∈ g.Γ ∧ Rep W g H v t) → RepC W g H cl N caps
  | [], [], _, _ => .nil
  | [], _ :: _, h, _ => by simp at h
  | _ :: _, [], h, _ => by simp at h
  | x :: N, o :: caps, h, q => by
    have r := repC_of (N := N) (caps := caps) (by simpa using h) fun i y e => by
      have := q (i + 1) y (by simpa using e)
      simpa using this
    rcases q 0 x rfl with ⟨z, z2⟩ | ⟨c, v, t, z, a, b, d⟩
    · have : o = none := by simpa using z
      subst this; exact .no z2 r
    · have : o = some t := by simpa using z
      subst this; exact .yes a b d r
theorem RepC.get {cl : List (Str × Addr)} : ∀ {N : List Str} {caps : List (Option T)}, RepC W g H cl N caps → ∀ {i : Nat} {t : T}, caps[i]? = some (some t) → ∃ x c v, N[i]? = some x ∧ cl.lookup x = some c ∧ (c, v) ∈ g.Γ ∧ Rep W g H v t
  | _, _, .nil, i, t, e => by simp at e
  | _, _, .no _ r, 0, t, e => by simp at e
  | _, _, .no _ r, i + 1, t, e => by
    obtain ⟨x, c, v, a, b⟩ := r.get (i := i) (t := t) (by simpa using e)
    exact ⟨x, c, v, by simpa using a, b⟩
  | _, _, .yes a b d r, 0, t, e => by
    simp at e
    subst e; exact ⟨_, _, _, rfl, a, b, d⟩
  | _, _, .yes _ _ _ r, i + 1, t, e => by
    obtain ⟨x, c, v, a, b⟩ := r.get (i := i) (t := t) (by simpa using e)
    exact ⟨x, c, v, by simpa using a, b⟩
theorem RepC.len {cl : List (Str × Addr)} : ∀ {N : List Str} {caps : List (Option T)}, RepC W g H cl N caps → N.length = caps.length
  | _, _, .nil => rfl
  | _, _, .no _ r => by rw [List.length_cons, List.length_cons, r.len]
  | _, _, .yes _ _ _ r => by rw [List.length_cons, List.length_cons, r.len]
theorem RepC.vals {cl : List (Str × Addr)} : ∀ {N : List Str} {caps : List (Option T)}, RepC W g H cl N caps → ∃ σ : L2.St, σ.length = N.length ∧ (∀ (i : Nat) t, caps[i]? = some (some t) → ∃ v, σ[i]? = some (some v) ∧ Rep W g H v t) ∧
    (∀ (i : Nat) v, σ[i]? = some (some v) → ∃ x c, N[i]? = some x ∧ cl.lookup x = some c ∧ (c, v) ∈ g.Γ) ∧ ∀ x a, x ∈ N → cl.lookup x = some a → ∃ v, (a, v) ∈ g.Γ
  | _, _, .nil => ⟨[], rfl, fun i t e => by simp at e, fun i v e => by simp at e, fun x a h => by cases h⟩
  | _, _, .no z r => by
    obtain ⟨σ, h1, h2, h3, h4⟩ := r.vals
    refine ⟨none :: σ, by rw [List.length_cons, List.length_cons, h1], fun i t e => ?_, fun i v e => ?_, fun x a hx e => ?_⟩
    · cases i with
      | zero => simp at e
      | succ i => simpa using h2 i t (by simpa using e)
    · cases i with
      | zero => simp at e
      | succ i => simpa using h3 i v (by simpa using e)
    · rcases List.mem_cons.mp hx with q | q
      · subst q; rw [z] at e; cases e
      · exact h4 x a q e
  | _, _, .yes (v := v) a b d r => by
    obtain ⟨σ, h1, h2, h3, h4⟩ := r.vals
    refine ⟨some v :: σ, by rw [List.length_cons, List.length_cons, h1], fun i t e => ?_, fun i u e => ?_, fun x y hx e => ?_⟩
    · cases i with
      | zero =>
        simp at e
        subst e; exact ⟨v, rfl, d⟩
      | succ i => simpa using h2 i t (by simpa using e)
    · cases i with
      | zero =>
        have : v = u := by simpa using e
        subst this; exact ⟨_, _, rfl, a, b⟩
      | succ i => simpa using h3 i u (by simpa using e)
    · rcases List.mem_cons.mp hx with q | q
      · subst q; rw [a] at e; cases e; exact ⟨v, b⟩
      · exact h4 x y q e
end
end Zl

set_option Elab.async false
set_option linter.all false
set_option maxRecDepth 100000
set_option maxHeartbeats 4000000
/-! Z36: a lambda made, the rule. -/
namespace Zl
open PySem PySem.Spec PyProof.Rows L2
section
variable {W : Wd} {B : Fb} {σ : L2.St} {g g' : Gh} {ρ ρ' : Env} {H H' : Hp} {F : Addr → Prop}
theorem Sr.growT (s : Sr W B g ρ σ H) (k : ∀ a o, H a = some o → notTbl o → H' a = some o) (tb : LamX.Tabs B.tab H') (tk : ∀ a ps, H a = some (.tbl ps) → ∃ ps', H' a = some (.tbl ps')) : Sr W B g ρ σ H' where
  len := s.len
  sh := ⟨fun a o h n t => k a o (s.sh.fr a o h n t) t, fun a h => let ⟨o, e, t⟩ := s.sh.sd a h; ⟨o, k a o e t, t⟩, s.sh.ns, tb, fun a ps h => let ⟨p, e⟩ := s.sh.tk a ps h; tk a p e, fun a h => by
    obtain ⟨o, e⟩ := s.sh.io a h
    by_cases t : notTbl o
    · exact ⟨o, k a o e t⟩
    · have : ∃ ps, o = .tbl ps := Classical.byContradiction fun z => t fun ps e => z ⟨ps, e⟩
      obtain ⟨ps, rfl⟩ := this
      obtain ⟨ps', e'⟩ := tk a ps e
      exact ⟨_, e'⟩⟩
  sl := fun i u h => (s.sl i u h).keep ⟨.refl g, fun a o e q => k a o e fun ps z => by
      subst z
      rcases q with q | q
      · obtain ⟨u, h1, h2⟩ := s.sh.sd a q
        rw [e] at h1; cases h1
        exact h2 ps rfl
      · exact q⟩ fun a q hd => ⟨(s.owi ⟨⟨u, h, hd⟩, q⟩).1, fun o e => k a o e (by
      obtain ⟨_, ⟨o', e', _, t⟩, _⟩ := s.owi ⟨⟨u, h, hd⟩, q⟩
      rw [e] at e'; cases e'; exact t)⟩
  ds := s.ds
  cg := s.cg
theorem Ex.growT (s : Sr W B g ρ σ H) (k : ∀ a o, H a = some o → notTbl o → H' a = some o) (tb : LamX.Tabs B.tab H') (tk : ∀ a ps, H a = some (.tbl ps) → ∃ ps', H' a = some (.tbl ps')) : Ex W B σ F g ρ H g ρ H' :=
  ⟨s.growT k tb tk, .refl g, fun _ h => .inl h, fun a o h _ t => k a o h t, fun _ h => h, fun _ _ h => h, tk, fun _ h => (s.growT k tb tk).some_at h⟩
end
section
variable {X : Cx} {pins : List (Addr × Obj)} {σ : L2.St} {H : Hp} {s : Shared}
/-- a lambda is made: the function object is new -/
theorem mk_lam {TT : List (Addr × Str)} {cc PP : Addr} {pa : Arguments} {bd : Expr} {sco : Scope} {pos : Pos} {EE Q : Value → Shared → Prop} (I : Inv X pins σ H s) (tb : LamX.TabB X.base X.mg cc PP) (hcc : X.env.code = .ref cc)
    (inT : (PP, X.env.qual ++ "<lambda>") ∈ TT) (un1 : ∀ p ∈ TT, p.1 = PP → p.2 = X.env.qual ++ "<lambda>") (tH : LamX.Tabs TT H) (nodf : defaultsOf pa X.env = ([], [])) (fre : ∀ y ∈ sco.names, y.2 = .free → ∃ a, X.env.cells.lookup y.1 = some a)
    (go : ∀ (f c' : Addr) (pm ctv : Value) (H1 : Hp) (s' : Shared), Inv X pins σ H1 s' → s.heap.objs.size ≤ f → (∀ b o, H b = some o → notTbl o → H1 b = some o) → LamX.Tabs TT H1 → (∀ a ps, H a = some (.tbl ps) → ∃ ps', H1 a = some (.tbl ps')) →
      s'.heap.get? f = some (PySem.W.kla_obj "<lambda>" (X.env.qual ++ "<lambda>") pa bd sco (cloFrom X.env.cells sco.names []) pm c' ctv) → H1 f = none → H1 c' = some (LamX.CodeO c' (X.env.qual ++ "<lambda>")) → Q (.ref f) s') : wpAny (model X.prog X.w) X.A (eval (.Lambda pa bd sco pos) X.env) Q EE s := by
  obtain ⟨arr, eP, trip, amg⟩ := tH _ inT
  refine PySem.W.kla_eval nodf ?_
  have bP := tb.bm.keeps I.bk
  have gP := I.hok PP _ eP
  cases ec : codeAmong pos arr.toList with
  | some cv =>
    obtain ⟨c', rfl, hco⟩ := amg pos cv ec
    refine PySem.W.kla_makeFunctionHit (mg := X.mg) (c := cc) (P := PP) (ps := arr) (closure_ok fre) I.ok.glob (I.mod.glob.keeps I.bk) hcc (tb.code.keeps I.bk) gP trip ec bP fun ctv hh tk ext big => ?_
    refine go hh.objs.size c' ((X.mg "__name__").getD .none) ctv H _ (I.kept fun b o e => Heap.get?_push_of_some _ (ext b o e)) big (fun _ _ e _ => e) tH (fun a ps e => ⟨ps, e⟩) (Heap.get?_push_size _ rfl) (I.hok.fresh big) hco
  | none =>
    refine PySem.W.kla_makeFunction (mg := X.mg) (c := cc) (P := PP) (ps := arr) (closure_ok fre) I.ok.glob (I.mod.glob.keeps I.bk) hcc (tb.code.keeps I.bk) gP trip ec tb.gP bP fun c' ctv hh tk ext ge lt rec htb => ?_
    obtain ⟨c2, oc, fs, t, e2, hoc, hd, hv⟩ := rec
    cases e2
    have big : s.heap.objs.size ≤ hh.objs.size := Nat.le_trans ge (Nat.le_of_lt lt)
    have nC : H c' = none := I.hok.fresh ge
    have J := LamX.inv_table (t' := tk) (more := #[rawInt pos.line, rawInt pos.col, .ref c']) (h' := hh.push (PySem.W.kla_obj "<lambda>" (X.env.qual ++ "<lambda>") pa bd sco (cloFrom X.env.cells sco.names []) ((X.mg "__name__").getD .none) c' ctv)) I eP
      (fun b o hb e => Heap.get?_push_of_some _ (ext b o hb e)) (Heap.get?_push_of_some _ htb) ge ⟨oc, fs, t, Heap.get?_push_of_some _ hoc, hd, hv⟩
    have nPc : PP ≠ c' := ne_of_none eP nC
    have keepN : ∀ b o, H b = some o → notTbl o → upd (upd H PP (.tbl (arr ++ #[rawInt pos.line, rawInt pos.col, .ref c']))) c' (LamX.CodeO c' (X.env.qual ++ "<lambda>")) b = some o := fun b o e n => by
      rw [upd_ne (ne_of_none e nC), upd_ne (fun z => n arr (Option.some.inj (e.symm.trans (by rw [z]; exact eP))))]
      exact e
    have codeN : ∀ {c q}, notTbl (LamX.CodeO c q) := fun ps z => LamX.codeO_ne ps z
    have eL : (arr ++ #[rawInt pos.line, rawInt pos.col, .ref c']).toList = arr.toList ++ [rawInt pos.line, rawInt pos.col, .ref c'] := by simp
    refine go hh.objs.size c' ((X.mg "__name__").getD .none) ctv _ _ J big keepN (fun p hp => ?_) (fun a ps e => ?_) (Heap.get?_push_size _ rfl) ?_ upd_same
    · by_cases hb : p.1 = PP
      · rw [un1 p hp hb, hb]
        refine ⟨_, by rw [upd_ne nPc, upd_same], by rw [eL]; exact PySem.TriplesOk_snoc _ _ _ _ trip, fun p' cv hcv => ?_⟩
        rw [eL] at hcv
        rcases LamX.among_app _ trip hcv with z | z
        · obtain ⟨c0, e1, e2⟩ := amg p' cv z
          exact ⟨c0, e1, keepN _ _ e2 codeN⟩
        · exact ⟨c', z, upd_same⟩
      · obtain ⟨ps', a1, a2, a3⟩ := tH p hp
        refine ⟨ps', by rw [upd_ne (ne_of_none a1 nC), upd_ne hb]; exact a1, a2, fun p' cv hcv => ?_⟩
        obtain ⟨c0, e1, e2⟩ := a3 p' cv hcv
        exact ⟨c0, e1, keepN _ _ e2 codeN⟩
    · by_cases hb : a = PP
      · subst hb; exact ⟨_, by rw [upd_ne nPc, upd_same]⟩
      · exact ⟨ps, by rw [upd_ne (ne_of_none e nC), upd_ne hb]; exact e⟩
    · have n1 : hh.objs.size ≠ c' := Nat.ne_of_gt lt
      have n2 : hh.objs.size ≠ PP := Nat.ne_of_gt (Nat.lt_of_lt_of_le (Heap.lt_size gP) big)
      rw [upd_ne n1, upd_ne n2]
      exact I.hok.fresh big
/-- .. and known -/
theorem Inv.know {f : Addr} {o : Obj} {s0 : Shared} (I0 : Inv X pins σ H s0) {H1 : Hp} {s1 : Shared} (I : Inv X pins σ H1 s1) (big : s0.heap.objs.size ≤ f) (e : s1.heap.get? f = some o) (n : H1 f = none) : Inv X pins σ (upd H1 f (.ext fun h => h.get? f = some o)) s1 := by
  have lt0 : ∀ {b : Addr} {u : Obj}, s0.heap.get? b = some u → b ≠ f := fun {b u} q z => by
    subst z
    exact absurd (Nat.lt_of_lt_of_le (Heap.lt_size q) big) (Nat.lt_irrefl _)
  have at0 : ∀ {b : Addr}, b ≠ f → upd H1 f (.ext fun h => h.get? f = some o) b = H1 b := fun h => upd_ne h
  have hs : ∀ {b : Addr} {u : Obj}, X.s_0.heap.get? b = some u → b ≠ f := fun {b u} q z => by
    subst z
    exact absurd (Nat.lt_of_lt_of_le (Heap.lt_size q) (Nat.le_trans I0.sz big)) (Nat.lt_irrefl _)
  have nn : ∀ {b : Addr} {u : HO}, H1 b = some u → b ≠ f := fun q => ne_of_none q n
  refine ⟨I.ok, I.os, I.bare, ⟨I.base.keep, I.base.slot, fun b u q z x => ?_, I.base.there, fun b xs q => ?_, fun b xs u q => ?_, fun b ps q => ?_⟩, I.loc, I.cell, ?_, fun x c q => ?_, fun p hp => ?_, ?_, I.len⟩
  · rw [at0 (hs q)]; exact I.base.free b u q z x
  · have := I.base.tups b xs q; rw [at0 (nn this)]; exact this
  · have := I.base.frzs b xs u q; rw [at0 (nn this)]; exact this
  · obtain ⟨m, this⟩ := I.base.tbls b ps q; exact ⟨m, by rw [at0 (nn this)]; exact this⟩
  · rw [at0 fun z => by have := I0.lt; rw [z] at this; exact absurd (Nat.lt_of_lt_of_le this big) (Nat.lt_irrefl _)]; exact I.free
  · obtain ⟨v, o', ho, _⟩ := I0.cell x c q
    rw [at0 (lt0 ho)]; exact I.freeC x c q
  · obtain ⟨h1, h2, h3, h4, h5⟩ := I.pin p hp
    exact ⟨h1, by rw [at0 (lt0 (I0.pin p hp).1)]; exact h2, h3, h4, h5⟩
  · intro b u eb
    by_cases hb : b = f
    · subst hb
      rw [upd_same] at eb; cases eb
      exact ⟨e, ⟨o, e⟩, fun h1 h2 q st => st _ q⟩
    · rw [upd_ne hb] at eb
      refine (I.hok b u eb).stay (fun d v _ q => q) (fun d q => by rw [upd_ne (ne_of_none q n)]; exact q) fun d xs q => by rw [upd_ne (ne_of_none q n)]; exact q
end
section
variable {nm : Nm} {sc : Sc} {pa : Arguments} {py : Expr} {scope : Scope} {pos : Pos} {cs : List Nat} {b : E}
theorem se_lam (hlm : sc.lm = true) (hL : ∀ S : Scope, S.names = sc.names → LamX.LamS S scope) (hcs : ∀ i ∈ cs, ∃ x, sc.N[i]? = some x ∧ scope.names.lookup x = some .free) (hno : ∀ (i : Nat) x, sc.N[i]? = some x → i ∉ cs → (x, NameKind.free) ∉ scope.names) (hin : ∀ y ∈ scope.names, y.2 = .free → y.1 ∈ sc.N) (hdf : ∀ env, defaultsOf pa env = ([], []))
    (hbi : ∀ q cl pm cv ctv, bindArgs (PySem.W.kla_fn "<lambda>" q pa py scope cl pm cv ctv) ⟨[], []⟩ = pure []) (hm : nm.lams sc.N scope.names py b) : SE nm sc (.Lambda pa py scope pos) (.lam cs b) := by
  intro X W B k c Wx ok g ρ σ H K X' Q s h hX hK
  unfold wpE at h
  split at h
  · rename_i ρ1 el
    obtain ⟨hl, cc, PP, hcode, hT, hmT, hu⟩ := ok.lk hlm
    obtain ⟨g1, x1⟩ := lkAll_ok s el
    obtain ⟨_, lk⟩ := lkAll_lk el
    have x2 := Ex.know x1.st hl lk
    have x12 : Ex W B σ (nw H) g ρ H _ ρ1 H := x1.trans' x2 (fun _ z => z.elim) fun _ z => z.elim
    have L := hL X.env.scope ok.scp
    intro pins st I
    have free := L.has I.ok
    refine mk_lam I (ok.bo.2 (cc, PP) hT) hcode hmT hu s.sh.tb (hdf _) free fun f c' pm ctv H1 s1 I1 big kp tb tk ef nf ec => ?_
    have I2 := Inv.know I I1 big ef nf
    have x3 : Ex W B σ (nw H) _ ρ1 H _ ρ1 H1 := Ex.growT (F := nw H) x12.st kp tb tk
    have x4 : Ex W B σ (nw H1) _ ρ1 H1 _ ρ1 (upd H1 f (.ext fun h => h.get? f = some (PySem.W.kla_obj "<lambda>" (X.env.qual ++ "<lambda>") pa py scope (cloFrom X.env.cells scope.names []) pm c' ctv))) := .alloc x3.st nf
    have x : Ex W B σ (nw H) g ρ H _ ρ1 _ := (x12.trans x3).trans x4
    have cm : ∀ {y a}, (cloFrom X.env.cells scope.names []).lookup y = some a → (y, NameKind.free) ∈ scope.names ∧ X.env.cells.lookup y = some a := fun {y a} ea => by
      rcases cloFrom_mem (PySem.mem_of_lookup ea) with z | ⟨z1, z2⟩
      · cases z
      · obtain ⟨c1, hc⟩ := free _ z1 rfl
        have hc : X.env.cells.lookup y = some c1 := hc
        have : a = c1 := by rw [z2, hc] <;> rfl
        rw [this]; exact ⟨z1, hc⟩
    have hlook : ∀ {y}, scope.names.lookup y = some .free → ∃ a, (cloFrom X.env.cells scope.names []).lookup y = some a ∧ X.env.cells.lookup y = some a := fun {y} hy => by
      have hy' : (y, NameKind.free) ∈ scope.names := PySem.mem_of_lookup hy
      obtain ⟨a, ea⟩ := mem_lookup (cloFrom_has (cells := X.env.cells) (acc := []) hy')
      exact ⟨a, ea, (cm ea).2⟩
    refine ⟨.ref f, _, I2, rfl, hK _ _ (.ref f) _ _ h x (.clo (o := .ext _) upd_same trivial (by rw [upd_ne (ne_of_none ec nf)]; exact ec) ⟨pa, py, scope, pm, ctv, ok.pf.lam _ _ _ _ hm, rfl, fun cv => hbi _ _ _ _ _, L.kind, L.co, L.gen, L.own, fun y hy => let ⟨a, e, _⟩ := hlook hy; ⟨a, e⟩, fun y z a e1 e2 => I.ok.inj y z a (cm e1).2 (cm e2).2, fun y a e => hin _ (cm e).1 rfl⟩ ?_)⟩
    have hlen : sc.N.length = ρ1.length := by rw [lkAll_len el, s.len, ← ok.N, I.len]
    refine repC_of (by unfold capsOf; rw [List.length_map, List.length_range, hlen]) fun i y ey => ?_
    have li : i < ρ1.length := by rw [← hlen]; exact (List.getElem?_eq_some_iff.mp ey).1
    have ecap : (capsOf ρ1 cs)[i]? = some (if i ∈ cs then lkOf ρ1[i]? else none) := by
      unfold capsOf
      rw [List.getElem?_map, List.getElem?_range li]; rfl
    by_cases hi : i ∈ cs
    · rw [if_pos hi] at ecap
      obtain ⟨t, et⟩ := lk i hi
      rw [et] at ecap
      obtain ⟨y', ey', hf⟩ := hcs i hi
      rw [ey] at ey'; cases ey'
      obtain ⟨a, ea, ea2⟩ := hlook hf
      obtain ⟨v, ev, rv⟩ := x12.st.sl i _ et
      refine .inr ⟨a, v, t, ecap, ea, ?_, rv.keep ((Ex.keeps x12.st x3).trans (Ex.keeps x3.st x4))⟩
      refine List.mem_append_left _ (List.mem_filterMap.mpr ⟨i, hi, ?_⟩)
      rw [ok.bN, ey, ev, ok.bc hl]
      show Option.map _ (X.env.cells.lookup y) = _
      rw [ea2]; rfl
    · rw [if_neg hi] at ecap
      refine .inl ⟨ecap, ?_⟩
      cases q : (cloFrom X.env.cells scope.names []).lookup y with
      | none => rfl
      | some a => exact absurd (cm q).1 (hno i y ey hi)
  · exact h.elim
end
end Zl

set_option Elab.async false
set_option linter.all false
set_option maxRecDepth 100000
set_option maxHeartbeats 4000000
/-! Z37: a closure called. -/
namespace Zl
open PySem PySem.Spec PyProof.Rows L2
section
variable {nm : Nm} {P : Program} {w : World} {W : Wd} {mg : Str → Option Value} {tab : List (Addr × Str)} {k : Nat} {c : Pr}
abbrev cloEnv (q : Str) (scope : Scope) (L f c' : Addr) (cl : List (Str × Addr)) : PySem.Env := PySem.W.envX q scope L f (.ref c') cl
def cloCx (P : Program) (w : World) (K : PySem.W.Frag) (mg : Str → Option Value) (base : Heap) (A : Around) (N : List Str) (outer : List PySem.Env) (s : Shared) (H : Hp) (E : XK) (q : Str) (scope : Scope) (f c' : Addr) (cl : List (Str × Addr)) : Cx :=
  { prog := P, w := w, K := K, mg := mg, base := base, A := A.deeper (cloEnv q scope s.heap.objs.size f c' cl), N := N, s_0 := s, H_0 := H, env := cloEnv q scope s.heap.objs.size f c' cl, outer := outer, stack := cloEnv q scope s.heap.objs.size f c' cl :: outer,
    ex := [], fn := fun _ => false, calm := true, pn := [],
    xe := fun e s' => wpAny (model P w) (A.deeper (cloEnv q scope s.heap.objs.size f c' cl)) (leaving (cloEnv q scope s.heap.objs.size f c' cl) e) (fun _ s'' => L2.CX P w outer H s E e s'') (fun e' s'' => L2.CX P w outer H s E e' s'') s' }
theorem clo_inv {base : Heap} {A : Around} {N : List Str} {outer : List PySem.Env} {s : Shared} {H : Hp} {E : XK} {q : Str} {scope : Scope} {f c' : Addr} {cl : List (Str × Addr)} {K : PySem.W.Frag} {σ : L2.St} {Γ : List (Addr × V)} {hh : Heap} {tk : Nat}
    (e0 : Env0 P w K mg base A outer s H) (hd : A.handled = none) (ci : CellsIn Γ base) (hk : scope.kind = .function) (own : ∀ y ∈ scope.names, y.2 ≠ .local ∧ y.2 ≠ .cell) (fre : ∀ x, scope.names.lookup x = some .free → ∃ a, cl.lookup x = some a)
    (inj : ∀ y z a, cl.lookup y = some a → cl.lookup z = some a → y = z) (hN : ∀ x a, cl.lookup x = some a → x ∈ N) (nd : N.Nodup) (len : σ.length = N.length) (h3 : ∀ (i : Nat) v, σ[i]? = some (some v) → ∃ x c, N[i]? = some x ∧ cl.lookup x = some c ∧ (c, v) ∈ Γ) (h4 : ∀ x a, x ∈ N → cl.lookup x = some a → ∃ v, (a, v) ∈ Γ)
    (hns : hh.Ns s.heap.objs.size fun y => ([] : List (Str × Value)).reverse.lookup y) (kp : ∀ b o, s.heap.get? b = some o → hh.get? b = some o) :
    Inv (cloCx P w K mg base A N outer s H E q scope f c' cl) [] σ H { s with heap := hh, toks := tk } := by
  have noA : ∀ b : Addr, b ∉ ([] : List Addr) := fun b z => by cases z
  have cell : ∀ {a : Addr} {v : V}, (a, v) ∈ Γ → ∃ u, RelV v u ∧ hh.IsCell a (some u) ∧ H a = none := fun {a v} m => by
    obtain ⟨u, ⟨o, ho, hc⟩, r⟩ := ci (a, v) m
    have := e0.bs a o ho
    exact ⟨u, r, ⟨o, kp _ _ this.1, hc⟩, this.2⟩
  refine ⟨⟨e0.mod, hk, rfl, rfl, Nat.le_refl _, inj, fun y hy => ?_, fun y a z _ => (by cases z), fun _ => hd, Around.frames_deeper e0.frames, .inr ⟨rfl, rfl⟩, fun b z => absurd z (noA b), e0.bs, e0.bsz, fun b _ _ => noA b, fun b z => absurd z (noA b), e0.funs, e0.frf⟩,
    rfl, e0.bare, Un.kept kp, ⟨_, hns, fun i y v e1 e2 e3 => ?_⟩, fun y a e => ?_, e0.hok.fresh (Nat.le_refl _), fun y a e => ?_, fun q hq => absurd hq (by simp [cloCx]), e0.hok.kept kp, len⟩
  · have hy : scope.names.lookup y = some .cell ∨ scope.names.lookup y = some .free := hy
    rcases hy with z | z
    · exact absurd rfl (own _ (PySem.mem_of_lookup z)).2
    · exact fre y z
  · have e3 : Vis scope y := e3
    rcases e3 with z | z | z
    · exact absurd rfl (own _ (PySem.mem_of_lookup z)).1
    · exact absurd rfl (own _ (PySem.mem_of_lookup z)).2
    · obtain ⟨x, a, ex, ea, m⟩ := h3 i v e2
      have e1 : N[i]? = some y := e1
      rw [e1] at ex; cases ex
      obtain ⟨u, ru, hc, _⟩ := cell m
      exact ⟨u, ru, .inr ⟨.inr z, a, ea, hc⟩⟩
  · obtain ⟨v, m⟩ := h4 y a (hN y a e) e
    obtain ⟨u, _, hc, _⟩ := cell m
    exact ⟨_, hc⟩
  · obtain ⟨v, m⟩ := h4 y a (hN y a e) e
    exact (cell m).choose_spec.2.2
/-- a closure keeps its promise -/
theorem clo_g (pf : Pf nm P w W mg tab k c) (hl : ∀ N ns py b, W.lams N ns py b → N.Nodup ∧ SE nm ⟨N, ns, [], false, false⟩ py b) : CloG P w W mg tab (k + 2) fun b cs Q X => wpE c b (cs.map capS) (fun o ρ => match retv ρ o with
    | some (t, fr) => Q t fr
    | none => False) X := by
  intro b caps f c' q N cl o base A outer s H Q E S Γ Kr X' h hr hg e0 bo ci hS hT ef ec hc rc hQ hE
  obtain ⟨params, py, scope, pm, ctv, hm, rfl, hbi, hk, hco, hge, own, fre, inj, hN⟩ := hc
  obtain ⟨nd, hse⟩ := hl _ _ _ _ hm
  obtain ⟨σ, len, h2, h3, h4⟩ := rc.vals
  have hf := (e0.hok f _ ef).1
  obtain ⟨⟨oc, vs, t, hoc, hdc, hvc⟩, _, _⟩ := e0.hok c' _ ec
  refine PySem.W.kla_callFunE hr.depth hf rfl hco hge rfl ⟨c', oc, vs, t, rfl, hoc, hdc, hvc⟩ ?_
  rw [hbi]
  refine wpAny_pure (wpAny_newFunctionEnv (fun y hy => (own y hy).2) (fun y hy => absurd hy (by simp)) (fun hh hns hsb => ⟨(e0.mod.nolimit.keeps fun b o e => (e0.bs b o e).1).fresh _ hsb, ?_⟩) hk)
  show codeAny _ _ (.expr py (cloEnv q scope s.heap.objs.size f c' cl)) _ _
  have kp : ∀ b o, s.heap.get? b = some o → hh.get? b = some o := fun b o e => hsb.extBut b o (Nat.ne_of_lt (Heap.lt_size e)) (Heap.get?_push_of_some _ e)
  have J : Inv (cloCx P w W.K mg base A N outer s H E q scope f c' cl) [] σ H { s with heap := hh, toks := s.toks + ([] : List (Str × Value)).length } := clo_inv e0 hr.hd ci hk own fre inj hN nd len h3 h4 hns kp
  let B : Fb := ⟨H, S, false, fun _ => False, Γ, N, [], tab⟩
  have hcl : caps.length = N.length := rc.len.symm
  have slot : ∀ {i : Nat} {u : Slot}, (caps.map capS)[i]? = some u → (∃ t, caps[i]? = some (some t) ∧ u = .lk t) ∨ u = .no := fun {i u} e => by
    rw [List.getElem?_map] at e
    obtain ⟨o, eo, eu⟩ := Option.map_eq_some_iff.mp e
    cases o with
    | none => exact .inr eu.symm
    | some t => exact .inl ⟨t, eo, eu.symm⟩
  have st : Sr W B ⟨S, Γ⟩ (caps.map capS) σ H := by
    refine ⟨by rw [List.length_map, hcl, len], ⟨fun a o h _ _ => h, hS, fun a h => .inl h, hT, fun a ps h => ⟨ps, h⟩, fun a z => z.elim⟩, fun i u e => ?_, fun i j a _ x _ => ?_, fun p hp => .inl hp⟩
    · rcases slot e with ⟨t, et, rfl⟩ | rfl
      · exact h2 i t et
      · trivial
    · obtain ⟨⟨u, e1, e2⟩, _⟩ := x
      rcases slot e1 with ⟨t, _, rfl⟩ | rfl <;> cases e2
  have ok : Cok nm ⟨N, scope.names, [], false, false⟩ (cloCx P w W.K mg base A N outer s H E q scope f c' cl) W B k c (fun cls d _ H => E cls d H) := by
    refine ⟨rfl, rfl, rfl, nd, hr.deeper _, hg, pf, rfl, hk, (fun x hx => by cases hx), bo, ci, rfl, (fun z => by cases z), (fun z => by cases z), (fun z => by cases z), takes_of rfl rfl rfl rfl, (fun z => by cases z), fun z => by cases z⟩
  have sub : ∀ {g' : Gh} {ρ' : Env} {σ' : L2.St} {H' : Hp}, Sr W B g' ρ' σ' H' → Keep g' H' ⟨g'.S, Γ⟩ H' := fun {g' ρ' σ' H'} s' => ⟨⟨fun _ h => h, fun p hp => by
    rcases s'.cg p hp with z | ⟨z, _⟩
    · exact z
    · cases z⟩, fun _ _ e _ => e⟩
  have main : EW (cloCx P w W.K mg base A N outer s H E q scope f c' cl) py σ H Q := by
    refine hse ok st h (fun n fs y g' H' d xs sh le lm ed rx => ?_) fun o ρ1 v g1 H1 y x r => ?_
    · have kp : Keep g' H' ⟨g'.S, Γ⟩ H' := ⟨⟨fun _ h => h, lm rfl⟩, fun _ _ e _ => e⟩
      exact hE n fs y g'.S H' d xs (bk_of (B := B) (g := ⟨S, Γ⟩) le sh rfl) ed fun fl t e => by
        obtain ⟨v, ev, rv⟩ := rx fl t e
        exact ⟨v, ev, rv.keep kp⟩
    · split at y
      · rename_i t fr er
        refine hQ t fr y v g1.S H1 (bk_of (B := B) (g := ⟨S, Γ⟩) x.le x.st.sh rfl) ?_
        have s' := x.st
        unfold retv at er
        split at er
        · cases er
          cases fr with
          | false =>
            have r' : Rep W g1 H1 v t := r
            exact r'.keep (sub s')
          | true =>
            obtain ⟨a, e, nS, ow, h00, _, _⟩ := r
            exact ⟨a, e, nS, ow.keep (sub s') fun o h => h, h00, fun z => z⟩
        · rename_i i
          have ri : σ[i]? = some (some v) := r
          split at er
          · rename_i t' e0
            cases er
            obtain ⟨v', ev, rr⟩ := s'.sl i _ e0
            rw [ri] at ev; cases ev
            exact rr.keep (sub s')
          · rename_i t' e0
            cases er
            obtain ⟨v', ev, rr⟩ := s'.sl i _ e0
            rw [ri] at ev; cases ev
            exact rr.keep (sub s')
          · rename_i t' e0
            cases er
            obtain ⟨a, ev, nS, ow, h00⟩ := s'.sl i _ e0
            rw [ri] at ev; cases ev
            exact ⟨a, rfl, nS, ow.keep (sub s') fun o h => h, h00, fun z => z⟩
          · cases er
      · exact y.elim
  refine PySem.W.kla_codeExpr (wpAny_mono (main [] _ J) (fun v s' hq => ?_) fun e s' hq => hq)
  obtain ⟨w', H', J', rv, q⟩ := hq
  exact ⟨w', H', J'.os, J'.bare, J'.base, J'.hok, rv, q⟩
end
end Zl

set_option Elab.async false
set_option linter.all false
set_option maxRecDepth 100000
set_option maxHeartbeats 4000000
/-! Z38: try with several clauses 'except C as v'. -/
namespace Zl
open PySem PySem.Spec PyProof.Rows L2
/-- the ends of a clause's suite: the name is gone -/
def goneE (i : Nat) (D : Ends) : Ends := { nx := fun σ' H' => D.nx (σ'.set i none) H', rt := D.rt, bk := fun σ' H' => D.bk (σ'.set i none) H', ct := fun σ' H' => D.ct (σ'.set i none) H' }
/-- what the clauses wish of the body's exception -/
def wClauses (K : PySem.W.Frag) (i : Nat) (Wout : WX) (D : Ends) : List (Value × (Addr → Value → Option Addr → TS)) → WX
  | [] => Wout
  | (cv, tm) :: r => fun cls d σ H => ∃ b, PySem.W.exmOne K cls cv = some b ∧ (b = true → ∀ a, H a = none → tm a cls d (goneE i D) (σ.set i (some (.ref a))) H) ∧ (b = false → wClauses K i Wout D r cls d σ H)
inductive ClausesOk (X : Cx) (n : Str) : List ExceptHandler → List (Value × (Addr → Value → Option Addr → TS)) → Prop
  | nil : ClausesOk X n [] []
  | cons {x : Str} {cv : Value} {tm : Addr → Value → Option Addr → TS} {st0 : Stmt} {sts : List Stmt} {np pos' : Pos} {hds : List ExceptHandler} {l : List (Value × (Addr → Value → Option Addr → TS))} (nam : Names X x cv)
      (sui : ∀ (a : Addr) (ob : Obj) (cls : Value) (d : Option Addr) (pn : List (Addr × Obj)), Zc cls d ob → (∃ vs, ob.data = .fields vs) → PSs (X.suite a ((a, ob) :: pn)) (st0 :: sts) (tm a cls d)) (r : ClausesOk X n hds l) :
      ClausesOk X n (.ExceptHandler (some (.Name x np)) (some n) (st0 :: sts) pos' :: hds) ((cv, tm) :: l)
section
variable {X : Cx} {n : Str} {i : Nat} {body : List Stmt} {hd0 : ExceptHandler} {hds : List ExceptHandler} {l : List (Value × (Addr → Value → Option Addr → TS))} {pos : Pos} {tb : WX → TS} {Wout : WX}
theorem ps_try_clauses (stk : X.stack = X.env :: X.outer) (frm : X.env.frame = some X.env.locals) (nd : X.N.Nodup) (at' : X.N[i]? = some n) (loc : X.env.kindOf n = some .local) (tks : Takes X Wout)
    (bd : ∀ (W : WX) (pn : List (Addr × Obj)) (xe : Value → Shared → Prop), Takes (X.tr pn xe) W → PassesOwn (model X.prog X.w) X.A X.env xe → PSs (X.tr pn xe) body (tb W))
    (ch : ClausesOk X n (hd0 :: hds) l) : PS X (.Try body (hd0 :: hds) [] [] pos) (fun D σ H => tb (wClauses X.K i Wout D l) D σ H) := by
  refine ⟨fun pins s σ H D I wish => ?_⟩
  have xok := I.ok
  have frs1 : X.A.frames = some (X.env :: X.outer) := by rw [xok.frames, stk]
  have lcl : Loc X.env.scope n := .inl loc
  refine wpAny_Try_except ?_
  refine wpAny_mono ((bd (wClauses X.K i Wout D l) (X.pn ++ pins) (fun e s₁ => wpAny (model X.prog X.w) X.A (noteFrame e X.env) (fun _ s₂ => wpAny (model X.prog X.w) X.A (setFlight e none)
    (fun _ s₃ => wpAny (model X.prog X.w) X.A (handleBy e X.env (hd0 :: hds)) (SP X pins D) X.xe s₃) X.xe s₂) X.xe s₁) (fun u s' air => ?_) PassesOwn.looking).run [] s σ H D (I.toTry _) wish) (fun fl s1 done => ?_) (fun e s1 he => he)
  · obtain ⟨a, B, sI, pins', σ', H', cls, d, rfl, J', nb, up, sky, nA, sameOs, bare, w⟩ := air
    have J : Inv X pins σ' H' sI := J'.ofTry xok
    have skyB : Sky B (X.env :: X.outer) a (Zc cls d) X.env.locals s'.heap := by rw [← stk]; exact sky
    show wpAny (model X.prog X.w) X.A (noteFrame (.ref a) X.env) _ _ _
    refine Sky.land Zc.steady frs1 frm skyB fun h3 fly up3 => ?_
    have J3 : Inv X pins σ' H' { s' with heap := h3 } := J.landed nb fly.1 (up.trans up3) sameOs bare
    obtain ⟨ob3, vs3, eo3, z3, fd3⟩ := fly.there
    have notFr : ∀ {h : Heap} {o : Obj} {vs : Array Value}, h.FunFrames B (X.env :: X.outer) → h.get? a = some o → o.data = .fields vs → a ∉ frs (X.env :: X.outer) := fun {h o vs} ff eo dt hm => by
      obtain ⟨_, o2, eo2, nf⟩ := ff.mem hm
      rw [eo] at eo2; cases eo2
      exact nf _ dt
    have nfr := notFr fly.2.2.1 eo3 fd3
    have notL : a ≠ X.env.locals := fun z => nfr (List.mem_filterMap.mpr ⟨X.env, List.mem_cons_self, by rw [frm, z]⟩)
    have notF : a ∉ X.fs := fun hm => by
      obtain ⟨en, hen, q⟩ := List.mem_filterMap.mp hm
      exact nfr (List.mem_filterMap.mpr ⟨en, List.mem_cons_of_mem _ hen, q⟩)
    have S3 := J3.suite eo3 fd3 nA notL notF
    have clauses : ∀ {hs' : List ExceptHandler} {l' : List (Value × (Addr → Value → Option Addr → TS))}, ClausesOk X n hs' l' → wClauses X.K i Wout D l' cls d σ' H' →
        wpAny (model X.prog X.w) X.A (handleBy (.ref a) X.env hs') (SP X pins D) X.xe { s' with heap := h3 } := by
      intro hs' l' hk
      induction hk with
      | nil =>
        intro w
        refine wpAny_handleBy_nil ?_
        obtain ⟨_, _, _, ob, vs, Tb, oT, ts', eo, z, dt, f1, _⟩ := id fly
        unfold PySem.passOn
        refine wpAny_bind (wpAny_field eo dt f1 ?_)
        rw [if_neg (show ¬ ((Value.ref Tb == Value.none) = true) from by simp)]
        have fin : wpAny (model X.prog X.w) X.A (setFlight (.ref a) X.env.frame) (fun _ s4 => wpAny (model X.prog X.w) X.A (throw (.ref a) : Sem Flow) (SP X pins D) X.xe s4) X.xe { s' with heap := h3 } := by
          rw [frm]
          refine HandSPX.setFlight_upZ fly fun h4 fl4 up4 => wpAny_throw (tks _ _ ?_)
          exact ⟨a, B, sI, pins, σ', H', cls, d, rfl, J, nb, (up.trans up3).trans up4, .inr (.inr (by rw [stk]; exact fl4)), nA, sameOs, bare, w⟩
        first
          | exact wpAny_bind (wpAny_pure (wpAny_bind fin))
          | exact wpAny_bind fin
      | @cons x cv tm st0 sts np pos' hds2 l2 nam sui r ih =>
        intro w
        obtain ⟨b, eb, yes, no⟩ := w
        refine wpAny_handleBy_cons (codeAny_handlers_test ?_) (by intro q; cases q)
        have LT : PySem.W.Looks (model X.prog X.w) h3 (typeOf (.ref a)) cls := fun A Q E s kp q => wpAny_typeOf_ref (kp _ _ eo3) (by rw [z3.1]; exact q)
        have LM := PySem.W.exm_one (M := model X.prog X.w) (J3.kIn) LT eb
        have test : ∀ {Q : Value → Shared → Prop} {E : Value → Shared → Prop}, Q cv { s' with heap := h3 } → wpAny (model X.prog X.w) (X.A.mark (some (.ref a))) (eval (.Name x np) X.env) Q E { s' with heap := h3 } := fun {Q E} q => by
          obtain ⟨gl, db, m1 | ⟨m1, bv, nn⟩⟩ := nam
          · exact ld_glob (X := X.suite a ((a, ob3) :: (X.pn ++ pins))) S3 gl m1 q db
          · exact ld_blt (X := X.suite a ((a, ob3) :: (X.pn ++ pins))) S3 gl m1 bv q nn db
        refine test (LM.here ?_)
        cases b with
        | false =>
          show wpAny _ X.A (handleBy (.ref a) X.env hds2) _ _ _
          exact ih (no rfl)
        | true =>
          refine codeAny_handlers_suite_as ?_
          refine HandSPX.lands_againZ fly fun h4 fly4 up4 => ?_
          have J4 : Inv X pins σ' H' { s' with heap := h4 } := J.landed nb fly4.1 ((up.trans up3).trans up4) sameOs bare
          obtain ⟨ob4, vs4, eo4, z4, fd4⟩ := fly4.there
          have S4 := J4.suite eo4 fd4 nA notL notF
          refine store_ok (X := X.suite a ((a, ob4) :: (X.pn ++ pins))) (v := .ref a) S4 nd at' lcl rfl (fun s5 S5 => ?_) (.inr loc)
          refine wpAny_mono ((sui a ob4 cls d (X.pn ++ pins) z4 ⟨_, fd4⟩).run [] s5 _ H' _ S5 (yes rfl a nA)) (fun fl s6 done => ?_) (fun _ _ z => False.elim z)
          have fin : ∀ {σ6 : L2.St} {H6 : Hp} {Q : Shared → Prop}, Inv (X.suite a ((a, ob4) :: (X.pn ++ pins))) [] σ6 H6 s6 → (∀ s7, Inv X pins (σ6.set i none) H6 s7 → Q s7) →
              wpAny (model X.prog X.w) X.A (do bindName X.env n .none; unbindBehindTheSuite X.env n pos') (fun _ s7 => Q s7) X.xe s6 := fun {σ6 H6 Q} S6 hq => gone_ok (S6.unsuite xok) nd at' loc hq
          cases fl with
          | next => obtain ⟨_, _, S6, q6⟩ := done; exact fin S6 fun s7 J7 => ⟨_, _, J7, q6⟩
          | brk => obtain ⟨_, _, S6, q6⟩ := done; exact fin S6 fun s7 J7 => ⟨_, _, J7, q6⟩
          | cont => obtain ⟨_, _, S6, q6⟩ := done; exact fin S6 fun s7 J7 => ⟨_, _, J7, q6⟩
          | ret u => obtain ⟨_, _, _, S6, r6, q6⟩ := done; exact fin S6 fun s7 J7 => ⟨_, _, _, J7, r6, q6⟩
    exact clauses ch w
  · cases fl with
    | next => obtain ⟨_, _, J', q⟩ := done; exact wpAny_execs_nil ⟨_, _, J'.ofTry xok, q⟩
    | brk => obtain ⟨_, _, J', q⟩ := done; exact ⟨_, _, J'.ofTry xok, q⟩
    | cont => obtain ⟨_, _, J', q⟩ := done; exact ⟨_, _, J'.ofTry xok, q⟩
    | ret u => obtain ⟨_, _, _, J', r, q⟩ := done; exact ⟨_, _, _, J'.ofTry xok, r, q⟩
end
/-! ### a closure runs -/
section
variable {nm : Nm} {sc : Sc} {X : Cx} {W : Wd} {B : Fb} {k : Nat} {c : Pr} {Wx : WX} {g : Gh} {ρ : Env} {σ : L2.St} {H : Hp} {X' : KX} {pins : List (Addr × Obj)} {s2 : Shared}
theorem run_clo (ok : Cok nm sc X W B k c Wx) (s : Sr W B g ρ σ H) (I : Inv X pins σ H s2) {b : E} {caps : List (Option T)} {f : Addr} (rep : Rep W g H (.ref f) (.clo b caps)) {Kr : T → Bool → Prop} (h : c.clo b caps Kr X') {Q : VK} (hX : ∀ n fs, X' n fs → ∀ S' H' d xs, Bk B.tab g.S (fun _ => False) H S' H' → H' d = some (.xd xs) → RepX W ⟨S', g.Γ⟩ H' xs fs → Wx (.ref (W.CA n)) (some d) σ H')
    (hK : ∀ t fr, Kr t fr → ∀ v g' H', Ex W B σ (nw H) g ρ H g' ρ H' → ORep W B g' ρ σ H' H v (.val t fr) → Q v H') : wpAny (model X.prog X.w) X.A (call (.ref f) []) (EP X pins σ Q) X.xe s2 := by
  cases rep with
  | clo e im e2 co rc =>
    obtain ⟨base, e0, bo, ci⟩ := base_at ok I (cells_at ok s I)
    rw [ok.K] at e0
    refine wpAny_call (codeAny_mono (ok.pf.clo (S := g.S) (Γ := g.Γ) (Q := Q) (E := fun cl d H' => Wx cl d σ H') h (ok.room.mono (Nat.le_succ k)) ok.gd e0 bo ci s.sh.sd s.sh.tb e e2 co rc (fun t fr q v S' H' b rr => ?_) fun n fs q S' H' d xs b ed xd => ?_) fun r s' hq => ?_)
    · have x := Ex.called s (fun _ _ e => e) b fun a z => z.elim
      exact hK t fr q v _ H' x (ret_orep s (fun _ e => e) (fun _ e => e) (fun _ e => e) rr)
    · exact hX n fs q S' H' d xs b ed xd
    · cases r with
      | error e => exact ok.tk e s' (XE.of_call I (fun _ _ _ q => q) hq)
      | ok fl =>
        cases fl with
        | ret u => exact I.after hq
        | next => exact False.elim hq
        | brk => exact False.elim hq
        | cont => exact False.elim hq
/-! ### the rule -/
/-- the parts of what a clause hands back: fields of the exception -/
inductive HeM (nm : Nm) (v : Str) : List Expr → List Str → Prop
  | nil : HeM nm v [] []
  | cons {f : Str} {p p' : Pos} {es : List Expr} {fl : List Str} (hf : f ∈ nm.xfl) (r : HeM nm v es fl) : HeM nm v (.Attribute (.Name v p) f p' :: es) (f :: fl)
inductive HdM (nm : Nm) (sc : Sc) (v : Str) : List ExceptHandler → List (Str × Str × List Str) → Prop
  | nil : HdM nm sc v [] []
  | cons {d tag : Str} {fl : List Str} {es : List Expr} {jj kk : Nat} {np p1 p2 p3 p4 : Pos} {hds : List ExceptHandler} {l : List (Str × Str × List Str)} (hd : d ∈ nm.hnds) (hg : glB sc d = true) (hn : plainName d = true) (he : HeM nm v es fl) (hz : fl.length ≤ 100) (r : HdM nm sc v hds l) :
      HdM nm sc v (.ExceptHandler (some (.Name d np)) (some v) [.Return (some (.Tuple (.Constant (.str tag) jj p1 :: es) kk p2)) p3] p4 :: hds) ((d, tag, fl) :: l)
def tmOf (X : Cx) (sts : List Stmt) : Addr → Value → Option Addr → TS := fun a cls dd D σ H => ∀ ob pn, Zc cls dd ob → (∃ vs, ob.data = .fields vs) → SSW (X.suite a ((a, ob) :: pn)) sts D σ H
def clL (X : Cx) (W : Wd) : List ExceptHandler → List (Str × Str × List Str) → List (Value × (Addr → Value → Option Addr → TS))
  | .ExceptHandler _ _ sts _ :: hds, (d, _, _) :: l => (.ref (W.CA d), tmOf X sts) :: clL X W hds l
  | _, _ => []
theorem cl_ok (ok : Cok nm sc X W B k c Wx) {v : Str} : ∀ {hds : List ExceptHandler} {l : List (Str × Str × List Str)}, HdM nm sc v hds l → ClausesOk X v hds (clL X W hds l)
  | _, _, .nil => .nil
  | _, _, .cons hd hg hn _ _ r => .cons ⟨ok.gl hg, plainName_dbg hn, .inl (ok.pf.hnd _ hd).1⟩ (fun a ob cls d pn z fd => ⟨fun pins s σ H D I h => h ob pn z fd pins s I⟩) (cl_ok ok r)
theorem he_ok (ok : Cok nm sc X W B k c Wx) {v : Str} {j : Nat} (hj : sc.N[j]? = some v) (hv : visB sc v = true) (hp : plainName v = true) {d : Str} (hd : d ∈ nm.hnds) {a dd : Addr} {ob : Obj} {pn : List (Addr × Obj)} (z : Zc (.ref (W.CA d)) (some dd) ob) (fd : ∃ vs, ob.data = .fields vs) {σ' : L2.St} {H' : Hp} {g' : Gh}
    (es : σ'[j]? = some (some (.ref a))) {xs : List (Str × V)} {fs : List (Str × T)} (ed : H' dd = some (.xd xs)) (rx : RepX W g' H' xs fs) : ∀ {pys : List Expr} {fl : List Str} {ts : List T}, HeM nm v pys fl → fl.mapM (fun f => fs.lookup f) = some ts → ∃ ws, RepL W g' H' ws ts ∧ ∀ Q, Q ws H' → AW (X.suite a ((a, ob) :: pn)) pys σ' H' Q
  | _, _, _, .nil, e => by
    simp at e; subst e
    exact ⟨[], .nil, fun Q q => aw_of pa_nil q⟩
  | _, _, _, .cons (f := f) hf r, e => by
    rw [List.mapM_cons] at e
    cases e1 : fs.lookup f with
    | none => rw [e1] at e; cases e
    | some t =>
      rw [e1] at e
      cases e2 : List.mapM (fun f => fs.lookup f) _ with
      | none => rw [e2] at e; cases e
      | some ts =>
        rw [e2] at e
        cases e
        obtain ⟨u, eu, ru⟩ := rx f t e1
        obtain ⟨ws, rw', go⟩ := he_ok ok hj hv hp hd z fd es ed rx r e2
        obtain ⟨_, xf, nof⟩ := ok.pf.hnd d hd
        refine ⟨u :: ws, .cons ru rw', fun Q q => aw_of (pa_cons (pe_xf (te := tVar j) (C := W.CA d) (by show XfC X.K _; rw [ok.K]; exact xf) (by show PySem.W.findIn X.K _ _ = _; rw [ok.K]; exact nof f hf) z fd (pe_var (by show X.N[j]? = _; rw [ok.N]; exact hj) (ok.vis hv) (plainName_dbg hp) (plainName_cd hp)) rfl) pa_aw (star_cons rfl)) ?_⟩
        exact ⟨_, es, rfl, rfl, dd, xs, u, rfl, ed, eu, go _ q⟩
theorem mapM_len {fs : List (Str × T)} : ∀ {fl : List Str} {ts : List T}, fl.mapM (fun f => fs.lookup f) = some ts → ts.length = fl.length
  | [], ts, e => by simp at e; subst e; rfl
  | f :: fl, ts, e => by
    rw [List.mapM_cons] at e
    cases e1 : fs.lookup f with
    | none => rw [e1] at e; cases e
    | some t =>
      rw [e1] at e
      cases e2 : List.mapM (fun f => fs.lookup f) fl with
      | none => rw [e2] at e; cases e
      | some us =>
        rw [e2] at e
        cases e
        rw [List.length_cons, List.length_cons, mapM_len e2]
theorem ss_tryf {i j : Nat} {x v : Str} {hds : List ExceptHandler} {l : List (Str × Str × List Str)} {p1 p2 p3 pos : Pos} (hN : sc.N[i]? = some x) (hv : visB sc x = true) (hp : plainName x = true) (hfr : sc.fr = true) (hj : sc.N[j]? = some v) (hvl : sc.names.lookup v = some .local) (hvp : plainName v = true)
    (hm : HdM nm sc v hds l) (hne : hds ≠ []) : SS nm sc (.Try [.Expr (.Call (.Name x p1) [] [] p2) p3] hds [] [] pos) (.tryf i l) := by
  intro X W B k c Wx ok po g ρ σ H D En s h d hX
  unfold wpS at h
  split at h
  · rename_i b cs e
    obtain ⟨stk, frm⟩ := ok.fr hfr
    have hvis : visB sc v = true := by unfold visB; rw [hvl]
    obtain ⟨vf, ev, rep⟩ := s.sl i _ e
    cases hds with
    | nil => exact absurd rfl hne
    | cons h0 hds =>
      refine sw_of (ps_try_clauses (tb := fun W' D σ H => ∀ pn xe, Takes (X.tr pn xe) W' → PassesOwn (model X.prog X.w) X.A X.env xe → SSW (X.tr pn xe) [.Expr (.Call (.Name x p1) [] [] p2) p3] D σ H) stk frm ok.nd (by rw [ok.N]; exact hj) (by show X.env.scope.names.lookup v = _; rw [ok.scp]; exact hvl) ok.tk
        (fun W' pn xe tk po => ⟨fun pins s σ H D I h => h pn xe tk po pins s I⟩) (cl_ok ok hm)) ?_
      intro pn xe tk' po'
      have ok' : Cok nm sc (X.tr pn xe) W B k c (wClauses X.K j Wx En (clL X W (h0 :: hds) l)) := ⟨ok.K, ok.calm, ok.N, ok.nd, ok.room, ok.gd, ok.pf, ok.scp, ok.knd, ok.sto, ok.bo, ok.c0, ok.bN, ok.bc, ok.cellK, ok.cellF, tk', ok.lk, ok.fr⟩
      refine ssw_of (pss_cons (ps_expr pe_ew (swaps_no rfl)) pss_sw) ?_
      have call : EW (X.tr pn xe) (.Call (.Name x p1) [] [] p2) σ H fun _ H1 => SSW (X.tr pn xe) [] En σ H1 := by
        intro pins s2 I
        refine wpAny_Call_Name_kw (thn ((pe_var (pos := p1) (i := i) (X := X.tr pn xe) (by show X.N[i]? = _; rw [ok.N]; exact hN) (ok.vis hv) (plainName_dbg hp) (plainName_cd hp)).run pins s2 σ H (fun v H1 => v = vf ∧ H1 = H) I ⟨vf, ev, rfl, rfl⟩) fun u s1 ⟨v', H1, I1, r1, q1⟩ => ?_)
        obtain ⟨rfl, rfl⟩ := q1
        have rep0 := rep
        cases rep with
        | @clo f c' q o N cl _ _ eo im e2 co rc =>
          obtain rfl : u = Value.ref f := r1
          obtain ⟨pa, py, scp, pm, ctv, _, rfl, _⟩ := co
          have hf := (I1.hok f _ eo).1
          refine PySem.W.callWith_F0 ⟨_, _, _, _, hf⟩ ?_
          refine run_clo ok' s I1 rep0 h (fun n fs hq S' H' dd xs bk ed rx => ?_) fun t fr q v g' H' x r => ssw_of pss_nil (d.nx ρ σ H' g' q (Ex.keeps s x) x.st)
          obtain ⟨hs, hh⟩ := hq
          obtain ⟨flds, ef⟩ := Option.isSome_iff_exists.mp hs
          have hn := ok.pf.exI n flds ef
          have xx := Ex.called s (fun _ _ e => e) bk fun a z => z.elim
          have main : ∀ {hds : List ExceptHandler} {l : List (Str × Str × List Str)}, HdM nm sc v hds l → hnd (fun t => D.rt (.val t false) ρ) D.xx l n fs → wClauses X.K j Wx En (clL X W hds l) (.ref (W.CA n)) (some dd) σ H' := by
            intro hds l hm
            induction hm with
            | nil =>
              intro hh
              exact hX n fs hh σ ⟨S', g.Γ⟩ H' dd xs xx.st.sh xx.le (fun l p hp => by
                rcases s.cg p hp with z | ⟨z, _⟩
                · exact z
                · rw [l] at z; cases z) ed rx
            | @cons d' tag fl es jj kk np p1 p2 p3 p4 hds l hd hg hnn he hz r ih =>
              intro hh
              unfold hnd at hh
              refine ⟨decide (n = d'), by rw [ok.K]; exact ok.pf.exm (n, flds) hn d' hd, fun ey a na => ?_, fun en => ?_⟩
              · have en := of_decide_eq_true ey
                subst en
                rw [if_pos rfl] at hh
                obtain ⟨ts, em, hk⟩ := hh
                intro ob pn z fd
                have hji : j < σ.length := by rw [I1.len]; exact (List.getElem?_eq_some_iff.mp (show X.N[j]? = some _ by rw [ok.N]; exact hj)).1
                obtain ⟨ws, rws, go⟩ := he_ok ok hj hvis hvp hd z fd (pn := pn) (σ' := σ.set j (some (.ref a))) (by rw [List.getElem?_set_self hji]) ed rx he em
                refine ssw_of (pss_cons (ps_ret (pe_tup (pa_cons pe_str pa_aw (star_cons rfl)))) pss_sw) ?_
                have lz : ts.length = fl.length := mapM_len em
                refine go _ ⟨?_, fun p hp => ?_⟩
                · rw [List.length_cons, rws.length, lz, sizeLine_eq]; omega
                · have x2 : Ex W B σ (nw H') _ ρ H' _ ρ (upd H' p (.tup (.str tag :: ws))) := .alloc xx.st hp
                  exact d.rt _ ρ σ _ _ (.ref p) hk ((Ex.keeps s xx).trans (Ex.keeps xx.st x2)) x2.st (show Rep W _ _ _ _ from .tup (.inl upd_same) (.cons (.str _) (rws.keep (Ex.keeps xx.st x2))))
              · have en' := of_decide_eq_false en
                rw [if_neg en'] at hh
                exact ih hh
          exact main hm hh
      exact call
  · exact h.elim
end
end Zl

set_option Elab.async false
set_option linter.all false
set_option maxRecDepth 100000
set_option maxHeartbeats 4000000
/-! Z39: the translation of the text to the terms, and that it is right. -/
namespace Zl
open PySem PySem.Spec PyProof.Rows L2
def ifS {α : Type} (b : Bool) (o : Option α) : Option α := match b with
  | true => o
  | false => none
theorem ifS_some {α : Type} {b : Bool} {o : Option α} {x : α} (h : ifS b o = some x) : b = true ∧ o = some x := by
  cases b with
  | true => exact ⟨rfl, h⟩
  | false => cases h
theorem bindS {α β : Type} {o : Option α} {f : α → Option β} {x : β} (h : o.bind f = some x) : ∃ a, o = some a ∧ f a = some x := by
  cases o with
  | none => cases h
  | some a => exact ⟨a, rfl, h⟩
theorem and_t {a b : Bool} (h : (a && b) = true) : a = true ∧ b = true := by simpa using h
def ixO (N : List Str) (x : Str) : Option Nat := (N.findIdx? fun y => decide (y = x)).bind fun i => ifS (decide (N[i]? = some x)) (some i)
theorem ixO_ok {N : List Str} {x : Str} {i : Nat} (h : ixO N x = some i) : N[i]? = some x := by
  obtain ⟨j, _, h⟩ := bindS h
  obtain ⟨a, b⟩ := ifS_some h
  cases b
  exact of_decide_eq_true a
def inB (x : Str) (l : List Str) : Bool := decide (x ∈ l)
theorem inB_ok {x : Str} {l : List Str} (h : inB x l = true) : x ∈ l := of_decide_eq_true h
/-- the parts that are translated already -/
structure Rc where
  e : Sc → Expr → Option E
  es : Sc → List Expr → Option Es
  b : Sc → Expr → Option E
  bw : Sc → Expr → Option E
  tg : Sc → Expr → Option Tg
  tgs : Sc → List Expr → Option Tgs
  s : Sc → Stmt → Option S
  ss : Sc → List Stmt → Option Ss
structure Rc.Ok (nm : Nm) (r : Rc) : Prop where
  e : ∀ sc py x, r.e sc py = some x → SE nm sc py x
  es : ∀ sc py x, r.es sc py = some x → SEl nm sc py x
  b : ∀ sc py x, r.b sc py = some x → SB nm sc py x
  bw : ∀ sc py x, r.bw sc py = some x → SBw nm sc py x
  tg : ∀ sc py x, r.tg sc py = some x → TgX sc py x
  tgs : ∀ sc py x, r.tgs sc py = some x → TgsX sc py x
  s : ∀ sc py x, r.s sc py = some x → SS nm sc py x
  ss : ∀ sc py x, r.ss sc py = some x → SSs nm sc py x
section
variable (nd : Nd) (r : Rc)
/-! ### the parts -/
def nameE (sc : Sc) (x : Str) : Option E := ifS (plainName x) (match visB sc x with
  | true => (ixO sc.N x).bind fun i => some (.nm i)
  | false => ifS (glB sc x) (match inB x nd.defs with
    | true => some (.fnv x)
    | false => some (.con x)))
def constE : Const → Option E
  | .int i => some (.int i)
  | .str i => some (.str i)
  | .bool i => some (.bl i)
  | .none => some .non
  | _ => none
def bopO : Operator → Option Bop
  | .Add => some .add | .Sub => some .sub | .Mult => some .mul | .FloorDiv => some .fdiv | .Mod => some .mod | .Pow => some .pow | .LShift => some .shl | .RShift => some .shr | .BitAnd => some .band | .BitOr => some .bor | .BitXor => some .bxor
  | _ => none
theorem bopO_ok {o : Operator} {b : Bop} (h : bopO o = some b) : o = bopP b := by
  cases o <;> first | (cases h; rfl) | cases h
def copO : CmpOp → Option Cop
  | .Eq => some .eq | .NotEq => some .ne | .Lt => some .lt | .LtE => some .le | .Gt => some .gt | .GtE => some .ge | .Is => some .is_ | .IsNot => some .isnot | .In => some .isin | .NotIn => some .notin
theorem copO_ok {o : CmpOp} {b : Cop} (h : copO o = some b) : o = copP b := by
  cases o <;> (cases h; rfl)
def cl1 (sc : Sc) : Expr → Option Cl
  | .Name x _ => ifS (glB sc x && plainName x) (match inB x nd.isas with
    | true => some (.own x)
    | false => match bootBuiltins x with
      | some (.type n) => ifS (inB x nd.blts && (decide (n ∈ tysN) && decide (n ∈ nd.tys))) (some (.ty n))
      | _ => none)
  | _ => none
theorem cl1_ok {nm : Nm} {sc : Sc} {py : Expr} {cl : Cl} (h : cl1 nm.toNd sc py = some cl) : ClX nm sc py cl := by
  unfold cl1 at h
  split at h
  · rename_i x p
    obtain ⟨a, h⟩ := ifS_some h
    obtain ⟨a1, a2⟩ := and_t a
    refine ⟨x, p, rfl, a1, a2, ?_⟩
    split at h
    · rename_i q; cases h; exact ⟨rfl, inB_ok q⟩
    · split at h
      · rename_i n q
        obtain ⟨b, h⟩ := ifS_some h
        obtain ⟨b1, b2⟩ := and_t b
        obtain ⟨b2, b3⟩ := and_t b2
        cases h
        exact ⟨inB_ok b1, q, of_decide_eq_true b2, of_decide_eq_true b3⟩
      · cases h
  · cases h
def isiE (sc : Sc) (a : Expr) (as : List Expr) : Option E := ifS (inB "isinstance" nd.blts && (glB sc "isinstance" && plainE a)) (match as with
  | [.Tuple [p1, p2] _ _] => (r.e sc a).bind fun ea => (cl1 nd sc p1).bind fun c1 => (cl1 nd sc p2).bind fun c2 => some (.isi ea [c1, c2])
  | [py] => (r.e sc a).bind fun ea => (cl1 nd sc py).bind fun c1 => some (.isi ea [c1])
  | _ => none)
def bltL : List Blt := [.len, .tuple, .list, .all, .any, .sorted, .repr, .int, .sum, .max, .min, .max2, .min2, .abs]
def arOk (b : Blt) (n : Nat) : Bool := match b with
  | .max2 => n == 2
  | .min2 => n == 2
  | _ => n == 1
def bltO (f : Str) (n : Nat) : Option Blt := bltL.find? fun b => decide (bltX b = f) && (arOk b n && bltK b)
def ssetE (sc : Sc) : Expr → Option E
  | .Call (.Name s _) [e] [] _ => ifS (decide (s = "set") && (inB "sorted" nd.blts && (inB "set" nd.blts && (glB sc "sorted" && (glB sc "set" && plainE e))))) ((r.e sc e).bind fun ea => some (.blt .sset (.cons ea .nil)))
  | _ => none
def rngE (sc : Sc) : Expr → Option (E × E)
  | .Call (.Name s _) [b] [] _ => ifS (decide (s = "range") && plainE b) ((r.e sc b).bind fun eb => some (.int 0, eb))
  | .Call (.Name s _) [a, b] [] _ => ifS (decide (s = "range") && (plainE a && plainE b)) ((r.e sc a).bind fun ea => (r.e sc b).bind fun eb => some (ea, eb))
  | _ => none
def lrngE (tp : Bool) (sc : Sc) (py : Expr) : Option E := ifS (inB "range" nd.blts && (glB sc "range" && (inB (if tp then ("tuple" : Str) else "list") nd.blts && glB sc (if tp then ("tuple" : Str) else "list")))) ((rngE r sc py).bind fun p => some (.lrng tp p.1 p.2))
def genB (sc : Sc) (f : Str) (args : List Expr) : Option E := match decide (f = "gcd") with
  | true => ifS (inB "gcd" nd.imps && glB sc "gcd") ((r.es sc args).bind fun es => some (.blt .gcd es))
  | false => (bltO f args.length).bind fun b => ifS (inB (bltX b) nd.blts && glB sc (bltX b)) ((r.es sc args).bind fun es => some (.blt b es))
def orE {α : Type} (a b : Option α) : Option α := match a with
  | some x => some x
  | none => b
def bltE (sc : Sc) (f : Str) (args : List Expr) : Option E := match args with
  | [a] => (match decide (f = "sorted") with
    | true => orE (ssetE nd r sc a) (genB nd r sc f args)
    | false => match decide (f = "tuple") with
      | true => orE (lrngE nd r true sc a) (genB nd r sc f args)
      | false => match decide (f = "list") with
        | true => orE (lrngE nd r false sc a) (genB nd r sc f args)
        | false => genB nd r sc f args)
  | _ => genB nd r sc f args
def clsO (f : Str) : List (Str × Str) → Option Str
  | [] => none
  | (n, q) :: l => match decide (n = f) with
    | true => some q
    | false => clsO f l
theorem clsO_ok {f q : Str} : ∀ {l : List (Str × Str)}, clsO f l = some q → (f, q) ∈ l
  | [], h => by cases h
  | (n, q') :: l, h => by
    unfold clsO at h
    split at h
    · rename_i e
      cases h
      have := of_decide_eq_true e
      subst this; exact List.mem_cons_self
    · exact List.mem_cons_of_mem _ (clsO_ok h)
def callN (sc : Sc) (f : Str) (args : List Expr) : Option E := ifS (glB sc f && plainName f) (match args with
  | [] => ifS (inB f nd.defs) (some (.call f .nil))
  | a :: as => match decide (f = "isinstance") with
    | true => isiE nd r sc a as
    | false => match inB f nd.defs with
      | true => (r.es sc (a :: as)).bind fun es => some (.call f es)
      | false => match clsO f nd.clss with
        | some q => (r.es sc (a :: as)).bind fun es => some (.mk f q es)
        | none => bltE nd r sc f (a :: as))
def notCall0 : Expr → Bool
  | .Call (.Name _ _) [] [] _ => false
  | _ => true
def methE (sc : Sc) (o : Expr) (m : Str) (args : List Expr) : Option E := match decide (m = "append") with
  | true => (match o, args with
    | .Name x _, [e] => ifS (visB sc x && (plainName x && plainE e)) ((ixO sc.N x).bind fun i => (r.e sc e).bind fun ea => some (.app i ea))
    | _, _ => none)
  | false => match decide (m = "pop") with
    | true => (match o, args with
      | .Name x _, [] => ifS (visB sc x && plainName x) ((ixO sc.N x).bind fun i => some (.pop i))
      | .Name x _, [e] => ifS (visB sc x && (plainName x && plainE e)) ((ixO sc.N x).bind fun i => (r.e sc e).bind fun ea => some (.popAt i ea))
      | _, _ => none)
    | false => ifS (notCall0 o) ((r.e sc o).bind fun eo => match decide (m = "index") with
      | true => (match args with
        | [e] => ifS (plainE e) ((r.e sc e).bind fun ea => some (.mth .index eo (.cons ea .nil)))
        | _ => none)
      | false => match decide (m = "bit_length") with
        | true => (match args with
          | [] => some (.mth .bitlen eo .nil)
          | _ => none)
        | false => match decide (m = "get") with
          | true => (match args with
            | [e, f] => ifS (plainE e && plainE f) ((r.e sc e).bind fun ea => (r.e sc f).bind fun eb => some (.mth .get eo (.cons ea (.cons eb .nil))))
            | _ => none)
          | false => none)
def callE (sc : Sc) (func : Expr) (args : List Expr) (pos : Pos) : Option E := match func with
  | .Name f _ => callN nd r sc f args
  | .Attribute o m apos => ifS (apos.endLine == pos.line) (methE r sc o m args)
  | _ => none
def optE (sc : Sc) : Option Expr → Option Eo
  | none => some .none
  | some p => (r.e sc p).bind fun e => some (.some e)
def isRev : Expr → Bool
  | .UnaryOp .USub (.Constant (.int 1) _ _) _ => true
  | _ => false
def subE (sc : Sc) (a s : Expr) : Option E := match s with
  | .Slice lo hi none _ => (r.e sc a).bind fun ea => (optE r sc lo).bind fun el => (optE r sc hi).bind fun eh => some (.sl ea el eh)
  | .Slice none none (some st) _ => ifS (isRev st) ((r.e sc a).bind fun ea => some (.rev ea))
  | s => ifS (plainIx s) ((r.e sc a).bind fun ea => (r.e sc s).bind fun eb => some (.ix ea eb))
def keysO : List (Option Expr) → Option (List Str)
  | [] => some []
  | some (.Constant (.str k) _ _) :: ks => (keysO ks).bind fun xs => some (k :: xs)
  | _ => none
theorem keysO_ok : ∀ {ks : List (Option Expr)} {xs : List Str}, keysO ks = some xs → KeyL ks xs
  | [], xs, h => by cases h; exact .nil
  | some (.Constant (.str k) _ _) :: ks, xs, h => by
    obtain ⟨ys, h1, h2⟩ := bindS h
    cases h2
    exact .cons (keysO_ok h1)
  | none :: _, _, h => by cases h
  | some (.Constant (.int _) _ _) :: _, _, h => by cases h
  | some (.Constant (.bool _) _ _) :: _, _, h => by cases h
  | some (.Constant .none _ _) :: _, _, h => by cases h
  | some (.Constant (.bytes _) _ _) :: _, _, h => by cases h
  | some (.Constant (.float _) _ _) :: _, _, h => by cases h
def notSet : Expr → Bool
  | .Set _ _ _ => false
  | _ => true
def itE (sc : Sc) (tg iter : Expr) : Option It := match iter with
  | .Call (.Name f _) [b] [] _ => (match decide (f = "range") with
    | true => ifS (inB "range" nd.blts && (glB sc "range" && plainE b)) ((r.e sc b).bind fun eb => some (.rng (.int 0) eb))
    | false => match decide (f = "enumerate") with
      | true => (match tg with
        | .Tuple _ _ _ => ifS (inB "enumerate" nd.blts && (glB sc "enumerate" && plainE b)) ((r.e sc b).bind fun eb => some (.enum eb))
        | _ => none)
      | false => (r.e sc iter).bind fun e => some (.val e))
  | .Call (.Name f _) [a, b] [] _ => (match decide (f = "range") with
    | true => ifS (inB "range" nd.blts && (glB sc "range" && (plainE a && plainE b))) ((r.e sc a).bind fun ea => (r.e sc b).bind fun eb => some (.rng ea eb))
    | false => match decide (f = "zip") with
      | true => (match tg with
        | .Tuple _ _ _ => ifS (inB "zip" nd.blts && (glB sc "zip" && (plainE a && plainE b))) ((r.e sc a).bind fun ea => (r.e sc b).bind fun eb => some (.zip ea eb))
        | _ => none)
      | false => (r.e sc iter).bind fun e => some (.val e))
  | iter => (r.e sc iter).bind fun e => some (.val e)
def ownO (N : List Str) (scope : Scope) : List (Str × Nat) := scope.names.filterMap fun y => match y.2 with
  | .local => (ixO N y.1).map fun i => (y.1, i)
  | .cell => (ixO N y.1).map fun i => (y.1, i)
  | _ => none
def sc0 (ns : List (Str × NameKind)) : Scope := { kind := .function, names := ns, isGenerator := false, isCoroutine := false, more := [] }
def ifsO (sc : Sc) : List Expr → Option Eo
  | [] => some .none
  | [p] => (r.b sc p).bind fun e => some (.some e)
  | _ => none
def compO (sc : Sc) (elt tg iter : Expr) (ifs : List Expr) (scope : Scope) : Option (It × Tg × Eo × E) :=
  let own := ownO sc.N scope
  let sb := blkSc sc scope own
  ifS (blkC sc.N (sc0 sc.names) scope own && (own.all (fun p => match scope.names.lookup p.1 with
      | some .cell => true
      | some .local => true
      | _ => false) && notSet iter))
    ((itE nd r sc tg iter).bind fun it => (r.tg sb tg).bind fun etg => ifS (etg.slots.all fun i => decide (i ∈ own.map (·.2))) ((ifsO r sb ifs).bind fun cd => (r.e sb elt).bind fun ee => some (it, etg, cd, ee)))
def lamE (sc : Sc) (pa : Arguments) (body : Expr) (scope : Scope) : Option E :=
  let cs := (List.range sc.N.length).filter fun i => match sc.N[i]? with
    | some x => decide (scope.names.lookup x = some .free)
    | none => false
  ifS (sc.lm && (LamX.lamSB (sc0 sc.names) scope && ((cs.all fun i => match sc.N[i]? with
      | some x => decide (scope.names.lookup x = some .free)
      | none => false) && ((scope.names.all fun y => decide (y.2 ≠ .free) || (decide (y.1 ∈ sc.N) && decide (scope.names.lookup y.1 = some .free))) &&
      (pa.posonlyargs.isEmpty && (pa.args.isEmpty && (pa.vararg.isNone && (pa.kwonlyargs.isEmpty && (pa.kw_defaults.isEmpty && (pa.kwarg.isNone && (pa.defaults.isEmpty && decide (sc.N.Nodup))))))))))))
    ((r.e ⟨sc.N, scope.names, [], false, false⟩ body).bind fun b => some (.lam cs b))
def stepE (sc : Sc) : Expr → Option E
  | .Name x _ => nameE nd sc x
  | .Constant c _ _ => constE c
  | .Tuple es _ _ => (r.es sc es).bind fun x => ifS (decide (x.len ≤ 1000)) (some (.tup x))
  | .List es _ => (r.es sc es).bind fun x => ifS (decide (x.len ≤ 1000)) (some (.lst x))
  | .BinOp a op b _ => (bopO op).bind fun o => (r.e sc a).bind fun ea => (r.e sc b).bind fun eb => some (.bin o ea eb)
  | .UnaryOp .USub a _ => (r.e sc a).bind fun ea => some (.neg ea)
  | .UnaryOp .Invert a _ => (r.e sc a).bind fun ea => some (.inv ea)
  | .UnaryOp .Not a _ => (r.e sc a).bind fun ea => some (.not ea)
  | .BoolOp _ [a] _ => r.e sc a
  | .BoolOp .And (a :: b :: rest) pos => (r.e sc a).bind fun ea => (r.e sc (.BoolOp .And (b :: rest) pos)).bind fun eb => some (.and ea eb)
  | .BoolOp .Or (a :: b :: rest) pos => (r.e sc a).bind fun ea => (r.e sc (.BoolOp .Or (b :: rest) pos)).bind fun eb => some (.or ea eb)
  | .Compare a [op] [b] _ => (copO op).bind fun o => ifS (!(behindInMarks (copP o) b)) ((r.e sc a).bind fun ea => (r.e sc b).bind fun eb => some (.cmp o ea eb))
  | .Compare a [op, op'] [b, d] _ => (copO op).bind fun o => (copO op').bind fun o' => ifS (!(lastMarks [copP o, copP o'] [b, d])) ((r.e sc a).bind fun ea => (r.e sc b).bind fun eb => (r.e sc d).bind fun ed => some (.chn o o' ea eb ed))
  | .IfExp d a b _ => (r.b sc d).bind fun ed => (r.e sc a).bind fun ea => (r.e sc b).bind fun eb => some (.ite ed ea eb)
  | .Subscript a s _ => subE r sc a s
  | .Attribute a f _ => ifS (inB f nd.flds && notCall0 a) ((r.e sc a).bind fun ea => some (.fld ea f))
  | .Call f args [] pos => callE nd r sc f args pos
  | .Dict [] [] _ => some (.dsp [] .nil)
  | .Dict ks es _ => (keysO ks).bind fun xs => (r.es sc es).bind fun ess => ifS (decide (xs.length = es.length) && (decide (xs ≠ []) && (decide (xs.length ≤ 15) && decide xs.Nodup))) (some (.dsp xs ess))
  | .ListComp elt [⟨tg, iter, ifs, 0⟩] scope _ => (compO nd r sc elt tg iter ifs scope).bind fun p => some (.comp ((ownO sc.N scope).map (·.2)) p.2.1 p.1 p.2.2.1 p.2.2.2)
  | .Lambda pa body scope _ => lamE r sc pa body scope
  | _ => none
def plainT : Expr → Bool
  | .Name _ _ => true
  | .Call _ _ _ _ => true
  | .Subscript _ _ _ => true
  | .Attribute _ _ _ => true
  | .BinOp _ _ _ _ => true
  | _ => false
def plainB : E → Bool
  | .not _ => false
  | .and _ _ => false
  | .or _ _ => false
  | .cmp _ _ _ => false
  | .chn _ _ _ _ _ => false
  | _ => true
def stepB (sc : Sc) : Expr → Option E
  | .UnaryOp .Not a _ => (r.b sc a).bind fun ea => some (.not ea)
  | .BoolOp op l pos => r.bw sc (.BoolOp op l pos)
  | .Compare a [op] [b] _ => (copO op).bind fun o => ifS (!(behindInMarks (copP o) b)) ((r.e sc a).bind fun ea => (r.e sc b).bind fun eb => some (.cmp o ea eb))
  | .Compare a [op, op'] [b, d] _ => (copO op).bind fun o => (copO op').bind fun o' => ifS (!(lastMarks [copP o, copP o'] [b, d])) ((r.e sc a).bind fun ea => (r.e sc b).bind fun eb => (r.e sc d).bind fun ed => some (.chn o o' ea eb ed))
  | py => ifS (plainT py) ((r.e sc py).bind fun ea => ifS (plainB ea) (some ea))
def stepBw (sc : Sc) : Expr → Option E
  | .BoolOp _ [a] _ => r.b sc a
  | .BoolOp .And (a :: b :: rest) pos => (r.b sc a).bind fun ea => (r.bw sc (.BoolOp .And (b :: rest) pos)).bind fun eb => some (.and ea eb)
  | .BoolOp .Or (a :: b :: rest) pos => (r.b sc a).bind fun ea => (r.bw sc (.BoolOp .Or (b :: rest) pos)).bind fun eb => some (.or ea eb)
  | _ => none
def stepEs (sc : Sc) : List Expr → Option Es
  | [] => some .nil
  | e :: es => ifS (plainE e) ((r.e sc e).bind fun x => (r.es sc es).bind fun xs => some (.cons x xs))
def stepTg (sc : Sc) : Expr → Option Tg
  | .Name x _ => ifS (locB sc x) ((ixO sc.N x).bind fun i => some (.nm i))
  | .Tuple es _ _ => (r.tgs sc es).bind fun ts => some (.tp ts)
  | _ => none
def stepTgs (sc : Sc) : List Expr → Option Tgs
  | [] => some .nil
  | e :: es => (r.tg sc e).bind fun t => (r.tgs sc es).bind fun ts => some (.cons t ts)
end
end Zl

set_option Elab.async false
set_option linter.all false
set_option maxRecDepth 100000
set_option maxHeartbeats 4000000
/-! Z40: the translation of expressions is right. -/
namespace Zl
open PySem PySem.Spec PyProof.Rows L2
theorem attr_base {o : Expr} (h : notCall0 o = true) (n : Str) (env : PySem.Env) : attributeBase o n env (eval o env) = eval o env := by
  unfold attributeBase
  split
  · cases h
  · rfl
section
variable {nm : Nm} {r : Rc} (ok : r.Ok nm)
include ok
theorem nameE_ok {sc : Sc} {x : Str} {pos : Pos} {e : E} (h : nameE nm.toNd sc x = some e) : SE nm sc (.Name x pos) e := by
  clear ok
  unfold nameE at h
  obtain ⟨hp, h⟩ := ifS_some h
  split at h
  · rename_i hv
    obtain ⟨i, hi, h⟩ := bindS h
    cases h
    (intro _ _ _ _ _ _; exact se_nm (ixO_ok hi) hv hp)
  · obtain ⟨hg, h⟩ := ifS_some h
    split at h
    · rename_i hd
      cases h; (intro _ _ _ _ _ _; exact se_fnv hg hp (inB_ok hd))
    · cases h; (intro _ _ _ _ _ _; exact se_con hg hp)
theorem constE_ok {sc : Sc} {c : Const} {j : Nat} {pos : Pos} {e : E} (h : constE c = some e) : SE nm sc (.Constant c j pos) e := by
  clear ok
  cases c <;> first | (cases h; first | exact se_int | exact se_str | exact se_bl | exact se_non) | cases h
theorem isiE_ok {sc : Sc} {a : Expr} {as : List Expr} {p pos : Pos} {e : E} (h : isiE nm.toNd r sc a as = some e) : SE nm sc (.Call (.Name ("isinstance" : Str) p) (a :: as) [] pos) e := by
  unfold isiE at h
  obtain ⟨hb, h⟩ := ifS_some h
  obtain ⟨h1, hb⟩ := and_t hb
  obtain ⟨h2, h3⟩ := and_t hb
  split at h
  · obtain ⟨ea, e1, h⟩ := bindS h
    obtain ⟨c1, e2, h⟩ := bindS h
    obtain ⟨c2, e3, h⟩ := bindS h
    cases h
    (intro _ _ _ _ _ _; exact se_isi2 (inB_ok h1) h2 h3 (ok.e _ _ _ e1) (cl1_ok e2) (cl1_ok e3))
  · obtain ⟨ea, e1, h⟩ := bindS h
    obtain ⟨c1, e2, h⟩ := bindS h
    cases h
    (intro _ _ _ _ _ _; exact se_isi (inB_ok h1) h2 h3 (ok.e _ _ _ e1) (cl1_ok e2))
  · cases h
theorem ssetE_ok {sc : Sc} {a : Expr} {p pos : Pos} {e : E} (h : ssetE nm.toNd r sc a = some e) : SE nm sc (.Call (.Name ("sorted" : Str) p) [a] [] pos) e := by
  unfold ssetE at h
  split at h
  · obtain ⟨hb, h⟩ := ifS_some h
    obtain ⟨h1, hb⟩ := and_t hb
    obtain ⟨h2, hb⟩ := and_t hb
    obtain ⟨h3, hb⟩ := and_t hb
    obtain ⟨h4, hb⟩ := and_t hb
    obtain ⟨h5, h6⟩ := and_t hb
    obtain ⟨ea, e1, h⟩ := bindS h
    cases h
    have := of_decide_eq_true h1
    subst this
    (intro _ _ _ _ _ _; exact se_sset (inB_ok h2) (inB_ok h3) h4 h5 h6 (ok.e _ _ _ e1))
  · cases h
theorem rngE_ok {sc : Sc} {py : Expr} {q : E × E} (h : rngE r sc py = some q) : RgX nm sc py q.1 q.2 := by
  unfold rngE at h
  split at h
  · obtain ⟨hb, h⟩ := ifS_some h
    obtain ⟨h1, h2⟩ := and_t hb
    obtain ⟨eb, e1, h⟩ := bindS h
    cases h
    have := of_decide_eq_true h1
    subst this
    exact .inl ⟨_, _, _, rfl, rfl, ok.e _ _ _ e1, h2⟩
  · obtain ⟨hb, h⟩ := ifS_some h
    obtain ⟨h1, hb⟩ := and_t hb
    obtain ⟨h2, h3⟩ := and_t hb
    obtain ⟨ea, e1, h⟩ := bindS h
    obtain ⟨eb, e2, h⟩ := bindS h
    cases h
    have := of_decide_eq_true h1
    subst this
    exact .inr ⟨_, _, _, _, rfl, ok.e _ _ _ e1, ok.e _ _ _ e2, h2, h3⟩
  · cases h
theorem lrngE_ok {tp : Bool} {sc : Sc} {py : Expr} {p pos : Pos} {e : E} (h : lrngE nm.toNd r tp sc py = some e) : SE nm sc (.Call (.Name (if tp then ("tuple" : Str) else "list") p) [py] [] pos) e := by
  unfold lrngE at h
  obtain ⟨hb, h⟩ := ifS_some h
  obtain ⟨h1, hb⟩ := and_t hb
  obtain ⟨h2, hb⟩ := and_t hb
  obtain ⟨h3, h4⟩ := and_t hb
  obtain ⟨q, e1, h⟩ := bindS h
  cases h
  (intro _ _ _ _ _ _; exact se_lrng (inB_ok h1) h2 (inB_ok h3) h4 (rngE_ok ok e1))
theorem bltO_ok {f : Str} {n : Nat} {b : Blt} (h : bltO f n = some b) : f = bltX b ∧ bltK b = true := by
  clear ok
  have := List.find?_some h
  obtain ⟨a, c⟩ := and_t this
  obtain ⟨_, c⟩ := and_t c
  exact ⟨(of_decide_eq_true a).symm, c⟩
theorem genB_ok {sc : Sc} {f : Str} {a : Expr} {as : List Expr} {p pos : Pos} {e : E} (h : genB nm.toNd r sc f (a :: as) = some e) : SE nm sc (.Call (.Name f p) (a :: as) [] pos) e := by
  unfold genB at h
  split at h
  · rename_i hf
    rw [of_decide_eq_true hf]
    obtain ⟨hb, h⟩ := ifS_some h
    obtain ⟨h1, h2⟩ := and_t hb
    obtain ⟨es, e1, h⟩ := bindS h
    cases h
    have q := ok.es _ _ _ e1
    (intro _ _ _ _ _ _; exact se_gcd (inB_ok h1) h2 q.plain q.ses)
  · obtain ⟨b, eb, h⟩ := bindS h
    obtain ⟨hb, h⟩ := ifS_some h
    obtain ⟨h1, h2⟩ := and_t hb
    obtain ⟨es, e1, h⟩ := bindS h
    cases h
    obtain ⟨rfl, hk⟩ := bltO_ok ok eb
    have q := ok.es _ _ _ e1
    (intro _ _ _ _ _ _; exact se_blt hk (inB_ok h1) h2 q.plain q.ses)
theorem bltE_ok {sc : Sc} {f : Str} {a : Expr} {as : List Expr} {p pos : Pos} {e : E} (h : bltE nm.toNd r sc f (a :: as) = some e) : SE nm sc (.Call (.Name f p) (a :: as) [] pos) e := by
  unfold bltE at h
  split at h
  · rename_i q
    cases q
    split at h
    · rename_i hf
      unfold orE at h
      split at h
      · rename_i e1
        cases h; rw [of_decide_eq_true hf]; (intro _ _ _ _ _ _; exact ssetE_ok ok e1)
      · (intro _ _ _ _ _ _; exact genB_ok ok h)
    · split at h
      · rename_i hf
        unfold orE at h
        split at h
        · rename_i e1
          cases h; rw [of_decide_eq_true hf]; (intro _ _ _ _ _ _; exact lrngE_ok (tp := true) ok e1)
        · (intro _ _ _ _ _ _; exact genB_ok ok h)
      · split at h
        · rename_i hf
          unfold orE at h
          split at h
          · rename_i e1
            cases h; rw [of_decide_eq_true hf]; (intro _ _ _ _ _ _; exact lrngE_ok (tp := false) ok e1)
          · (intro _ _ _ _ _ _; exact genB_ok ok h)
        · (intro _ _ _ _ _ _; exact genB_ok ok h)
  · (intro _ _ _ _ _ _; exact genB_ok ok h)
theorem callN_ok {sc : Sc} {f : Str} {args : List Expr} {p pos : Pos} {e : E} (h : callN nm.toNd r sc f args = some e) : SE nm sc (.Call (.Name f p) args [] pos) e := by
  unfold callN at h
  obtain ⟨hb, h⟩ := ifS_some h
  obtain ⟨hg, hn⟩ := and_t hb
  split at h
  · obtain ⟨hd, h⟩ := ifS_some h
    cases h
    (intro _ _ _ _ _ _; exact se_call0 (inB_ok hd) hg hn)
  · split at h
    · rename_i hf
      rw [of_decide_eq_true hf]
      (intro _ _ _ _ _ _; exact isiE_ok ok h)
    · split at h
      · rename_i hd
        obtain ⟨es, e1, h⟩ := bindS h
        cases h
        have q := ok.es _ _ _ e1
        (intro _ _ _ _ _ _; exact se_call (inB_ok hd) hg hn q.plain q.ses)
      · split at h
        · rename_i q hq
          obtain ⟨es, e1, h⟩ := bindS h
          cases h
          have q := ok.es _ _ _ e1
          (intro _ _ _ _ _ _; exact se_mk (clsO_ok hq) hg hn q.plain q.ses)
        · (intro _ _ _ _ _ _; exact bltE_ok ok h)
theorem methE_ok {sc : Sc} {o : Expr} {m : Str} {args : List Expr} {apos pos : Pos} {e : E} (hl : (apos.endLine == pos.line) = true) (h : methE r sc o m args = some e) : SE nm sc (.Call (.Attribute o m apos) args [] pos) e := by
  unfold methE at h
  split at h
  · rename_i hm
    rw [of_decide_eq_true hm]
    split at h
    · obtain ⟨hb, h⟩ := ifS_some h
      obtain ⟨h1, hb⟩ := and_t hb
      obtain ⟨h2, h3⟩ := and_t hb
      obtain ⟨i, hi, h⟩ := bindS h
      obtain ⟨ea, e1, h⟩ := bindS h
      cases h
      (intro _ _ _ _ _ _; exact se_app (ixO_ok hi) h1 h2 h3 hl (ok.e _ _ _ e1))
    · cases h
  · split at h
    · rename_i hm
      rw [of_decide_eq_true hm]
      split at h
      · obtain ⟨hb, h⟩ := ifS_some h
        obtain ⟨h1, h2⟩ := and_t hb
        obtain ⟨i, hi, h⟩ := bindS h
        cases h
        (intro _ _ _ _ _ _; exact se_pop (ixO_ok hi) h1 h2 hl)
      · obtain ⟨hb, h⟩ := ifS_some h
        obtain ⟨h1, hb⟩ := and_t hb
        obtain ⟨h2, h3⟩ := and_t hb
        obtain ⟨i, hi, h⟩ := bindS h
        obtain ⟨ea, e1, h⟩ := bindS h
        cases h
        (intro _ _ _ _ _ _; exact se_popAt (ixO_ok hi) h1 h2 h3 hl (ok.e _ _ _ e1))
      · cases h
    · obtain ⟨h0, h⟩ := ifS_some h
      obtain ⟨eo, e0, h⟩ := bindS h
      split at h
      · rename_i hm
        rw [of_decide_eq_true hm]
        split at h
        · obtain ⟨hp, h⟩ := ifS_some h
          obtain ⟨ea, e1, h⟩ := bindS h
          cases h
          (intro _ _ _ _ _ _; exact se_index (attr_base h0 _) hp hl (ok.e _ _ _ e0) (ok.e _ _ _ e1))
        · cases h
      · split at h
        · rename_i hm
          rw [of_decide_eq_true hm]
          split at h
          · cases h
            (intro _ _ _ _ _ _; exact se_bits (attr_base h0 _) hl (ok.e _ _ _ e0))
          · cases h
        · split at h
          · rename_i hm
            rw [of_decide_eq_true hm]
            split at h
            · obtain ⟨hb, h⟩ := ifS_some h
              obtain ⟨h1, h2⟩ := and_t hb
              obtain ⟨ea, e1, h⟩ := bindS h
              obtain ⟨eb, e2, h⟩ := bindS h
              cases h
              (intro _ _ _ _ _ _; exact se_get (attr_base h0 _) h1 h2 hl (ok.e _ _ _ e0) (ok.e _ _ _ e1) (ok.e _ _ _ e2))
            · cases h
          · cases h
theorem callE_ok {sc : Sc} {func : Expr} {args : List Expr} {pos : Pos} {e : E} (h : callE nm.toNd r sc func args pos = some e) : SE nm sc (.Call func args [] pos) e := by
  unfold callE at h
  split at h
  · (intro _ _ _ _ _ _; exact callN_ok ok h)
  · obtain ⟨hl, h⟩ := ifS_some h
    (intro _ _ _ _ _ _; exact methE_ok ok hl h)
  · cases h
theorem optE_ok {sc : Sc} {o : Option Expr} {e : Eo} (h : optE r sc o = some e) : SO nm sc o e := by
  unfold optE at h
  split at h
  · cases h; exact .inl ⟨rfl, rfl⟩
  · obtain ⟨x, e1, h⟩ := bindS h
    cases h
    exact .inr ⟨_, _, rfl, rfl, ok.e _ _ _ e1⟩
theorem subE_ok {sc : Sc} {a s : Expr} {pos : Pos} {e : E} (h : subE r sc a s = some e) : SE nm sc (.Subscript a s pos) e := by
  unfold subE at h
  split at h
  · obtain ⟨ea, e1, h⟩ := bindS h
    obtain ⟨el, e2, h⟩ := bindS h
    obtain ⟨eh, e3, h⟩ := bindS h
    cases h
    (intro _ _ _ _ _ _; exact se_sl (ok.e _ _ _ e1) (optE_ok ok e2) (optE_ok ok e3))
  · obtain ⟨hr, h⟩ := ifS_some h
    obtain ⟨ea, e1, h⟩ := bindS h
    cases h
    unfold isRev at hr
    split at hr
    · (intro _ _ _ _ _ _; exact se_rev (ok.e _ _ _ e1))
    · cases hr
  · obtain ⟨hp, h⟩ := ifS_some h
    obtain ⟨ea, e1, h⟩ := bindS h
    obtain ⟨eb, e2, h⟩ := bindS h
    cases h
    (intro _ _ _ _ _ _; exact se_ix hp (ok.e _ _ _ e1) (ok.e _ _ _ e2))
theorem itE_ok {sc : Sc} {tg iter : Expr} {it : It} (h : itE nm.toNd r sc tg iter = some it) : SI nm sc tg iter it := by
  unfold itE at h
  split at h
  · split at h
    · rename_i hf
      rw [of_decide_eq_true hf]
      obtain ⟨hb, h⟩ := ifS_some h
      obtain ⟨h1, hb⟩ := and_t hb
      obtain ⟨h2, h3⟩ := and_t hb
      obtain ⟨eb, e1, h⟩ := bindS h
      cases h
      (intro _ _ _ _ _ _; exact si_rng1 (inB_ok h1) h2 h3 (ok.e _ _ _ e1))
    · split at h
      · rename_i hf
        rw [of_decide_eq_true hf]
        split at h
        · obtain ⟨hb, h⟩ := ifS_some h
          obtain ⟨h1, hb⟩ := and_t hb
          obtain ⟨h2, h3⟩ := and_t hb
          obtain ⟨eb, e1, h⟩ := bindS h
          cases h
          (intro _ _ _ _ _ _; exact si_enum (inB_ok h1) h2 h3 (ok.e _ _ _ e1))
        · cases h
      · obtain ⟨eb, e1, h⟩ := bindS h
        cases h
        (intro _ _ _ _ _ _; exact si_val (ok.e _ _ _ e1))
  · split at h
    · rename_i hf
      rw [of_decide_eq_true hf]
      obtain ⟨hb, h⟩ := ifS_some h
      obtain ⟨h1, hb⟩ := and_t hb
      obtain ⟨h2, hb⟩ := and_t hb
      obtain ⟨h3, h4⟩ := and_t hb
      obtain ⟨ea, e1, h⟩ := bindS h
      obtain ⟨eb, e2, h⟩ := bindS h
      cases h
      (intro _ _ _ _ _ _; exact si_rng2 (inB_ok h1) h2 h3 h4 (ok.e _ _ _ e1) (ok.e _ _ _ e2))
    · split at h
      · rename_i hf
        rw [of_decide_eq_true hf]
        split at h
        · obtain ⟨hb, h⟩ := ifS_some h
          obtain ⟨h1, hb⟩ := and_t hb
          obtain ⟨h2, hb⟩ := and_t hb
          obtain ⟨h3, h4⟩ := and_t hb
          obtain ⟨ea, e1, h⟩ := bindS h
          obtain ⟨eb, e2, h⟩ := bindS h
          cases h
          (intro _ _ _ _ _ _; exact si_zip (inB_ok h1) h2 h3 h4 (ok.e _ _ _ e1) (ok.e _ _ _ e2))
        · cases h
      · obtain ⟨eb, e1, h⟩ := bindS h
        cases h
        (intro _ _ _ _ _ _; exact si_val (ok.e _ _ _ e1))
  · obtain ⟨eb, e1, h⟩ := bindS h
    cases h
    (intro _ _ _ _ _ _; exact si_val (ok.e _ _ _ e1))
theorem blkC_names {N : List Str} {S S' scope : Scope} {own : List (Str × Nat)} (h : S.names = S'.names) : blkC N S scope own = blkC N S' scope own := by
  clear ok
  unfold blkC
  rw [h]
theorem fold_no {iter : Expr} (h : notSet iter = true) (env : PySem.Env) (x : Value) : foldedSetIterable iter env x = pure x := by
  clear ok
  cases iter <;> first | rfl | cases h
theorem compO_ok {sc : Sc} {elt tg iter : Expr} {ifs : List Expr} {scope : Scope} {q : It × Tg × Eo × E} (h : compO nm.toNd r sc elt tg iter ifs scope = some q) : CompX nm sc elt tg iter ifs scope (ownO sc.N scope) q.1 q.2.1 q.2.2.1 q.2.2.2 := by
  unfold compO at h
  obtain ⟨hb, h⟩ := ifS_some h
  obtain ⟨h1, hb⟩ := and_t hb
  obtain ⟨h2, h3⟩ := and_t hb
  obtain ⟨it, e1, h⟩ := bindS h
  obtain ⟨etg, e2, h⟩ := bindS h
  obtain ⟨h4, h⟩ := ifS_some h
  obtain ⟨cd, e3, h⟩ := bindS h
  obtain ⟨ee, e4, h⟩ := bindS h
  cases h
  refine ⟨itE_ok ok e1, fun S hS => blkOk_by (by rw [blkC_names (S := S) (S' := sc0 sc.names) ok hS]; exact h1), fun x hx => ?_, ok.tg _ _ _ e2, fun i hi => ?_, ?_, ok.e _ _ _ e4, fold_no ok h3⟩
  · obtain ⟨p, hp, rfl⟩ := List.mem_map.mp hx
    have := List.all_eq_true.mp h2 p hp
    split at this
    · rename_i z; exact .inl z
    · rename_i z; exact .inr z
    · cases this
  · have := List.all_eq_true.mp h4 i hi
    exact of_decide_eq_true this
  · unfold ifsO at e3
    split at e3
    · cases e3; exact .inl ⟨rfl, rfl⟩
    · obtain ⟨e, e5, h⟩ := bindS e3
      cases h
      exact .inr ⟨_, _, rfl, rfl, ok.b _ _ _ e5⟩
    · cases e3
end
end Zl

set_option Elab.async false
set_option linter.all false
set_option maxRecDepth 100000
set_option maxHeartbeats 4000000
/-! Z41: the translation, a step. -/
namespace Zl
open PySem PySem.Spec PyProof.Rows L2
section
variable {nm : Nm} {r : Rc} (ok : r.Ok nm)
include ok
theorem lamE_ok {sc : Sc} {pa : Arguments} {body : Expr} {scope : Scope} {pos : Pos} {e : E} (hl : ∀ N ns py b, N.Nodup → r.e ⟨N, ns, [], false, false⟩ py = some b → nm.lams N ns py b) (h : lamE r sc pa body scope = some e) : SE nm sc (.Lambda pa body scope pos) e := by
  unfold lamE at h
  obtain ⟨hb, h⟩ := ifS_some h
  obtain ⟨h1, hb⟩ := and_t hb
  obtain ⟨h2, hb⟩ := and_t hb
  obtain ⟨h3, hb⟩ := and_t hb
  obtain ⟨h4, hb⟩ := and_t hb
  obtain ⟨a1, hb⟩ := and_t hb
  obtain ⟨a2, hb⟩ := and_t hb
  obtain ⟨a3, hb⟩ := and_t hb
  obtain ⟨a4, hb⟩ := and_t hb
  obtain ⟨a5, hb⟩ := and_t hb
  obtain ⟨a6, hb⟩ := and_t hb
  obtain ⟨a7, a8⟩ := and_t hb
  obtain ⟨b, e1, h⟩ := bindS h
  cases h
  have nn : sc.N.Nodup := of_decide_eq_true a8
  obtain ⟨po, ar, va, ko, kd, kw, df⟩ := pa
  simp only [List.isEmpty_iff, Option.isNone_iff_eq_none] at a1 a2 a3 a4 a5 a6 a7
  subst a1 a2 a3 a4 a5 a6 a7
  intro _ _ _ _ _ _
  refine se_lam h1 (fun S hS => LamX.lamS_by ?_) (fun i hi => ?_) (fun i x hx hi hm => ?_) (fun y hy hf => ?_) (fun env => rfl) (fun q cl pm cv ctv => rfl) (hl _ _ _ _ nn e1)
  · unfold LamX.lamSB at h2 ⊢
    rw [hS]; exact h2
  · have := List.all_eq_true.mp h3 i hi
    split at this
    · rename_i x ex; exact ⟨x, ex, of_decide_eq_true this⟩
    · cases this
  · refine hi (List.mem_filter.mpr ⟨List.mem_range.mpr (List.getElem?_eq_some_iff.mp hx).1, ?_⟩)
    rw [hx]
    have := List.all_eq_true.mp h4 _ hm
    simp only [Bool.or_eq_true, Bool.and_eq_true, decide_eq_true_eq] at this
    rcases this with z | ⟨_, z⟩
    · exact absurd rfl z
    · exact decide_eq_true z
  · have := List.all_eq_true.mp h4 _ hy
    simp only [Bool.or_eq_true, Bool.and_eq_true, decide_eq_true_eq] at this
    rcases this with z | ⟨z, _⟩
    · exact absurd hf z
    · exact z
theorem stepE_ok (hl : ∀ N ns py b, N.Nodup → r.e ⟨N, ns, [], false, false⟩ py = some b → nm.lams N ns py b) {sc : Sc} {py : Expr} {e : E} (h : stepE nm.toNd r sc py = some e) : SE nm sc py e := by
  unfold stepE at h
  split at h
  · intro _ _ _ _ _ _; exact nameE_ok ok h
  · intro _ _ _ _ _ _; exact constE_ok ok h
  · obtain ⟨x, e1, h⟩ := bindS h
    obtain ⟨hz, h⟩ := ifS_some h
    cases h
    intro _ _ _ _ _ _; exact se_tup (of_decide_eq_true hz) (ok.es _ _ _ e1).ses
  · obtain ⟨x, e1, h⟩ := bindS h
    obtain ⟨hz, h⟩ := ifS_some h
    cases h
    intro _ _ _ _ _ _; exact se_lst (of_decide_eq_true hz) (ok.es _ _ _ e1).ses
  · obtain ⟨o, e0, h⟩ := bindS h
    obtain ⟨ea, e1, h⟩ := bindS h
    obtain ⟨eb, e2, h⟩ := bindS h
    cases h
    rw [bopO_ok e0]
    intro _ _ _ _ _ _; exact se_bin (ok.e _ _ _ e1) (ok.e _ _ _ e2)
  · obtain ⟨ea, e1, h⟩ := bindS h
    cases h
    intro _ _ _ _ _ _; exact se_neg (ok.e _ _ _ e1)
  · obtain ⟨ea, e1, h⟩ := bindS h
    cases h
    intro _ _ _ _ _ _; exact se_inv (ok.e _ _ _ e1)
  · obtain ⟨ea, e1, h⟩ := bindS h
    cases h
    intro _ _ _ _ _ _; exact se_not (ok.e _ _ _ e1)
  · intro _ _ _ _ _ _; exact se_1 (ok.e _ _ _ h)
  · obtain ⟨ea, e1, h⟩ := bindS h
    obtain ⟨eb, e2, h⟩ := bindS h
    cases h
    intro _ _ _ _ _ _; exact se_and (ok.e _ _ _ e1) (ok.e _ _ _ e2)
  · obtain ⟨ea, e1, h⟩ := bindS h
    obtain ⟨eb, e2, h⟩ := bindS h
    cases h
    intro _ _ _ _ _ _; exact se_or (ok.e _ _ _ e1) (ok.e _ _ _ e2)
  · obtain ⟨o, e0, h⟩ := bindS h
    obtain ⟨hm, h⟩ := ifS_some h
    obtain ⟨ea, e1, h⟩ := bindS h
    obtain ⟨eb, e2, h⟩ := bindS h
    cases h
    rw [copO_ok e0]
    intro _ _ _ _ _ _; exact se_cmp (by simpa using hm) (ok.e _ _ _ e1) (ok.e _ _ _ e2)
  · obtain ⟨o, e0, h⟩ := bindS h
    obtain ⟨o', e0', h⟩ := bindS h
    obtain ⟨hm, h⟩ := ifS_some h
    obtain ⟨ea, e1, h⟩ := bindS h
    obtain ⟨eb, e2, h⟩ := bindS h
    obtain ⟨ed, e3, h⟩ := bindS h
    cases h
    rw [copO_ok e0, copO_ok e0']
    intro _ _ _ _ _ _; exact se_chn (by simpa using hm) (ok.e _ _ _ e1) (ok.e _ _ _ e2) (ok.e _ _ _ e3)
  · obtain ⟨ed, e1, h⟩ := bindS h
    obtain ⟨ea, e2, h⟩ := bindS h
    obtain ⟨eb, e3, h⟩ := bindS h
    cases h
    intro _ _ _ _ _ _; exact se_ite (ok.b _ _ _ e1) (ok.e _ _ _ e2) (ok.e _ _ _ e3)
  · intro _ _ _ _ _ _; exact subE_ok ok h
  · obtain ⟨hb, h⟩ := ifS_some h
    obtain ⟨h1, h2⟩ := and_t hb
    obtain ⟨ea, e1, h⟩ := bindS h
    cases h
    intro _ _ _ _ _ _; exact se_fld (inB_ok h1) (attr_base h2 _) (ok.e _ _ _ e1)
  · intro _ _ _ _ _ _; exact callE_ok ok h
  · cases h
    intro _ _ _ _ _ _; exact se_dsp0
  · obtain ⟨xs, e0, h⟩ := bindS h
    obtain ⟨ess, e1, h⟩ := bindS h
    obtain ⟨hb, h⟩ := ifS_some h
    obtain ⟨h1, hb⟩ := and_t hb
    obtain ⟨h2, hb⟩ := and_t hb
    obtain ⟨h3, h4⟩ := and_t hb
    cases h
    intro _ _ _ _ _ _; exact se_dsp (keysO_ok e0) (of_decide_eq_true h1) (of_decide_eq_true h2) (of_decide_eq_true h3) (of_decide_eq_true h4) (ok.es _ _ _ e1)
  · obtain ⟨q, e1, h⟩ := bindS h
    cases h
    intro _ _ _ _ _ _; exact se_comp (compO_ok ok e1)
  · intro _ _ _ _ _ _; exact lamE_ok ok hl h
  · cases h
theorem stepB_ok {sc : Sc} {py : Expr} {e : E} (h : stepB r sc py = some e) : SB nm sc py e := by
  unfold stepB at h
  split at h
  · obtain ⟨ea, e1, h⟩ := bindS h
    cases h
    intro _ _ _ _ _ _; exact sb_not (ok.b _ _ _ e1)
  · refine SBw.sb ?_
    intro _ _ _ _ _ _; exact ok.bw _ _ _ h
  · obtain ⟨o, e0, h⟩ := bindS h
    obtain ⟨hm, h⟩ := ifS_some h
    obtain ⟨ea, e1, h⟩ := bindS h
    obtain ⟨eb, e2, h⟩ := bindS h
    cases h
    rw [copO_ok e0]
    intro _ _ _ _ _ _; exact sb_cmp (by simpa using hm) (ok.e _ _ _ e1) (ok.e _ _ _ e2)
  · obtain ⟨o, e0, h⟩ := bindS h
    obtain ⟨o', e0', h⟩ := bindS h
    obtain ⟨hm, h⟩ := ifS_some h
    obtain ⟨ea, e1, h⟩ := bindS h
    obtain ⟨eb, e2, h⟩ := bindS h
    obtain ⟨ed, e3, h⟩ := bindS h
    cases h
    rw [copO_ok e0, copO_ok e0']
    intro _ _ _ _ _ _; exact sb_chn (by simpa using hm) (ok.e _ _ _ e1) (ok.e _ _ _ e2) (ok.e _ _ _ e3)
  · obtain ⟨hp, h⟩ := ifS_some h
    obtain ⟨ea, e1, h⟩ := bindS h
    obtain ⟨hb, h⟩ := ifS_some h
    cases h
    have ht : tests py := by
      cases py <;> first | exact fun _ _ => rfl | cases hp
    have he : ∀ (c : Pr) (ρ : Env) (K : Bool → Env → Prop) (X' : KX), wpB c e ρ K X' = wpE c e ρ (fun o ρ1 => one ρ1 o fun x => match tru x with
        | some k => K k ρ1
        | none => False) X' := by
      intro c ρ K X'
      cases e <;> first | (unfold wpB; rfl) | cases hb
    intro _ _ _ _ _ _; exact sb_val (ok.e _ _ _ e1) ht he
theorem stepBw_ok {sc : Sc} {py : Expr} {e : E} (h : stepBw r sc py = some e) : SBw nm sc py e := by
  unfold stepBw at h
  split at h
  · intro _ _ _ _ _ _; exact sbw_one (ok.b _ _ _ h)
  · obtain ⟨ea, e1, h⟩ := bindS h
    obtain ⟨eb, e2, h⟩ := bindS h
    cases h
    intro _ _ _ _ _ _; exact sbw_and (ok.b _ _ _ e1) (ok.bw _ _ _ e2)
  · obtain ⟨ea, e1, h⟩ := bindS h
    obtain ⟨eb, e2, h⟩ := bindS h
    cases h
    intro _ _ _ _ _ _; exact sbw_or (ok.b _ _ _ e1) (ok.bw _ _ _ e2)
  · cases h
theorem stepEs_ok {sc : Sc} {py : List Expr} {e : Es} (h : stepEs r sc py = some e) : SEl nm sc py e := by
  unfold stepEs at h
  split at h
  · cases h; exact .nil
  · obtain ⟨hp, h⟩ := ifS_some h
    obtain ⟨x, e1, h⟩ := bindS h
    obtain ⟨xs, e2, h⟩ := bindS h
    cases h
    exact .cons hp (ok.e _ _ _ e1) (ok.es _ _ _ e2)
theorem stepTg_ok {sc : Sc} {py : Expr} {e : Tg} (h : stepTg r sc py = some e) : TgX sc py e := by
  unfold stepTg at h
  split at h
  · obtain ⟨hl, h⟩ := ifS_some h
    obtain ⟨i, hi, h⟩ := bindS h
    cases h
    exact .nm (ixO_ok hi) hl
  · obtain ⟨ts, e1, h⟩ := bindS h
    cases h
    exact .tp (ok.tgs _ _ _ e1)
  · cases h
theorem stepTgs_ok {sc : Sc} {py : List Expr} {e : Tgs} (h : stepTgs r sc py = some e) : TgsX sc py e := by
  unfold stepTgs at h
  split at h
  · cases h; exact .nil
  · obtain ⟨t, e1, h⟩ := bindS h
    obtain ⟨ts, e2, h⟩ := bindS h
    cases h
    exact .cons (ok.tg _ _ _ e1) (ok.tgs _ _ _ e2)
end
end Zl

set_option Elab.async false
set_option linter.all false
set_option maxRecDepth 100000
set_option maxHeartbeats 4000000
/-! Z42: the translation of statements. -/
namespace Zl
open PySem PySem.Spec PyProof.Rows L2
/-- which stores of a tuple display to names change places -/
def swapG (kn : Str → Option NameKind) (bk : Bool) (ts vs : List Expr) : Option (Option (List Str)) :=
  if (!(ts.length == 2 || ts.length == 3) || vs.length != ts.length || bk) = true then some none
  else if (vs.any fun | .Starred .. => true | _ => false) = true then some none
  else
    let line := (ts.head?.map (·.pos.line)).getD 0
    let names := ts.filterMap fun
      | .Name id pos => if (kn id == some .local && pos.line == line) = true then some id else none
      | _ => none
    if (names.length != ts.length || names.eraseDups.length != names.length) = true then some none
    else if vs.all (foldedForSure 8) = true then some none
    else if vs.all (constantsAlone 8) = true then none
    else some (some names)
theorem swapG_ok {ts vs : List Expr} {k k2 : Nat} {p p2 : Pos} {env : PySem.Env} {q : Option (List Str)} (h : swapG env.kindOf (env.blockKind != .function) ts vs = some q) : swappedStores [.Tuple ts k p] (.Tuple vs k2 p2) env = pure q := by
  unfold swapG at h
  unfold swappedStores
  dsimp only at h ⊢
  split at h
  · cases h; rename_i c1
    exact if_pos c1
  · rename_i c1
    refine (if_neg c1).trans ?_
    split at h
    · cases h; rename_i c2
      exact if_pos c2
    · rename_i c2
      refine (if_neg c2).trans ?_
      split at h
      · cases h; rename_i c3
        exact if_pos c3
      · rename_i c3
        refine (if_neg c3).trans ?_
        split at h
        · cases h; rename_i c4
          exact if_pos c4
        · rename_i c4
          refine (if_neg c4).trans ?_
          split at h
          · cases h
          · rename_i c5
            cases h
            exact if_neg c5
def swapOf (sc : Sc) (ts vs : List Expr) : Option (Option (List Str)) := swapG (fun n => sc.names.lookup n) false ts vs
theorem swapOf_ok {sc : Sc} {ts vs : List Expr} {k k2 : Nat} {p p2 : Pos} {env : PySem.Env} {q : Option (List Str)} (e1 : env.scope.names = sc.names) (e2 : env.scope.kind = .function) (h : swapOf sc ts vs = some q) : swappedStores [.Tuple ts k p] (.Tuple vs k2 p2) env = pure q := by
  refine swapG_ok ?_
  have ek : env.kindOf = fun n => sc.names.lookup n := by funext n; rw [← e1]; rfl
  have eb : (env.blockKind != .function) = false := by unfold Env.blockKind; rw [e2]; rfl
  rw [ek, eb]; exact h
section
variable {nm : Nm} {sc : Sc} {e : Expr} {ea : E} {p pos : Pos}
theorem ss_unpT {es : List Expr} {ts : Tgs} {kk : Nat} (hl : noLc e = true) (hw : ∀ env : PySem.Env, env.scope.names = sc.names → env.scope.kind = .function → swappedStores [.Tuple es kk p] e env = pure none) (ht : TgsX sc es ts) (ha : SE nm sc e ea) : SS nm sc (.Assign [.Tuple es kk p] e pos) (.asg (.tg (.tp ts)) ea) := by
  intro X W B k c Wx ok po g ρ σ H D En s h d hX
  unfold wpS at h
  refine sw_of (ps_asg pe_ew (TgX.pg ok.stx (.tp ht)) (sole.trans (swaps_no hl)) (hw _ ok.scp ok.knd) rfl) (ha ok s h (fun n fs y => hX n fs y σ) fun o ρ1 v g1 H1 q x1 r => ?_)
  unfold wpX at q
  dsimp only at q
  split at q
  · rename_i t ρ2 ef
    obtain ⟨g2, x2, rt⟩ := ORep.fz x1.st r ef
    split at q
    · rename_i ρ3 es'
      exact stT_ok ok.K x2.st rt es' fun σ1 s1 _ => d.nx ρ3 σ1 H1 g2 q ((Ex.keeps s x1).trans (.of x2.le)) s1
    · exact q.elim
  · exact q.elim
end
/-! ### statements -/
section
variable (nd : Nd) (r : Rc)
def isTup : Expr → Bool
  | .Tuple _ _ _ => true
  | _ => false
def loc2 (sc : Sc) (x : Str) : Bool := decide (sc.names.lookup x = some .local)
def parS (sc : Sc) (ts vs : List Expr) : Option S := match ts, vs with
  | [.Name x _, .Name y _], [a, b] => (ixO sc.N x).bind fun i => (ixO sc.N y).bind fun j => ifS (decide (i ≠ j) && (loc2 sc x && (loc2 sc y && decide (swapOf sc ts vs = some (some [x, y]))))) ((r.es sc [a, b]).bind fun es => some (.par [i, j] es))
  | [.Name x _, .Name y _, .Name z _], [a, b, c] => (ixO sc.N x).bind fun i => (ixO sc.N y).bind fun j => (ixO sc.N z).bind fun l => ifS (decide (i ≠ j) && (decide (i ≠ l) && (decide (j ≠ l) && (loc2 sc x && (loc2 sc y && (loc2 sc z && decide (swapOf sc ts vs = some (some [x, y, z])))))))) ((r.es sc [a, b, c]).bind fun es => some (.par [i, j, l] es))
  | _, _ => none
def tupS (sc : Sc) (ts : List Expr) (v : Expr) : Option S := match v with
  | .Tuple vs _ _ => (match decide (swapOf sc ts vs = some none) with
    | true => (r.tgs sc ts).bind fun t => (r.e sc v).bind fun ea => some (.asg (.tg (.tp t)) ea)
    | false => parS r sc ts vs)
  | v => ifS (noSwap sc v) ((r.tgs sc ts).bind fun t => (r.e sc v).bind fun ea => some (.asg (.tg (.tp t)) ea))
def nameS (sc : Sc) (x : Str) (p : Pos) (v : Expr) : Option S := match swB sc v x p with
  | false => ifS (locB sc x) ((ixO sc.N x).bind fun i => (r.e sc v).bind fun ea => some (.asg (.tg (.nm i)) ea))
  | true => match v with
    | .ListComp elt [⟨tg, iter, ifs, 0⟩] scope _ => (ixO sc.N x).bind fun i => (compO nd r sc elt tg iter ifs scope).bind fun q => some (.asg (.tg (.nm i)) (.comp ((ownO sc.N scope).map (·.2)) q.2.1 q.1 q.2.2.1 q.2.2.2))
    | _ => none
def asgS (sc : Sc) (t v : Expr) : Option S := match t with
  | .Name x p => nameS nd r sc x p v
  | .Tuple ts _ _ => tupS r sc ts v
  | .Subscript (.Name x _) kx _ => ifS ((noSwap sc v || isTup v) && (plainIx kx && (visB sc x && plainName x))) ((ixO sc.N x).bind fun i => (r.e sc kx).bind fun ek => (r.e sc v).bind fun ea => some (.asg (.ix i ek) ea))
  | .Attribute (.Name x _) f _ => ifS (inB f nd.flds && (noLc v && (visB sc x && plainName x))) ((ixO sc.N x).bind fun i => (r.e sc v).bind fun ea => some (.asg (.fld i f) ea))
  | _ => none
def augS (sc : Sc) (t : Expr) (op : Operator) (v : Expr) : Option S := (bopO op).bind fun o => ifS (augO o) (match t with
  | .Name x _ => ifS (locB sc x) ((ixO sc.N x).bind fun i => (r.e sc v).bind fun ea => some (.aug o i ea))
  | .Subscript (.Name x _) kx _ => ifS (plainIx kx && (visB sc x && plainName x)) ((ixO sc.N x).bind fun i => (r.e sc kx).bind fun ek => (r.e sc v).bind fun ea => some (.augix o i ek ea))
  | _ => none)
def excO (f : Str) : List (Str × List Str) → Option (List Str)
  | [] => none
  | (n, q) :: l => match decide (n = f) with
    | true => some q
    | false => excO f l
theorem excO_ok {f : Str} {q : List Str} : ∀ {l : List (Str × List Str)}, excO f l = some q → (f, q) ∈ l
  | [], h => by cases h
  | (n, q') :: l, h => by
    unfold excO at h
    split at h
    · rename_i e
      cases h
      have := of_decide_eq_true e
      subst this; exact List.mem_cons_self
    · exact List.mem_cons_of_mem _ (excO_ok h)
def heO (v : Str) : List Expr → Option (List Str)
  | [] => some []
  | .Attribute (.Name x _) f _ :: es => ifS (decide (x = v) && inB f nd.xfl) ((heO v es).bind fun fl => some (f :: fl))
  | _ => none
theorem heO_ok {nm : Nm} {v : Str} : ∀ {es : List Expr} {fl : List Str}, heO nm.toNd v es = some fl → HeM nm v es fl
  | [], fl, h => by cases h; exact .nil
  | e :: es, fl, h => by
    unfold heO at h
    split at h
    · rename_i q; cases q
    · rename_i q
      cases q
      obtain ⟨hb, h⟩ := ifS_some h
      obtain ⟨h1, h2⟩ := and_t hb
      obtain ⟨fl', e1, h⟩ := bindS h
      cases h
      have := of_decide_eq_true h1
      subst this
      exact .cons (inB_ok h2) (heO_ok e1)
    · cases h
def hdO (sc : Sc) (v : Str) : List ExceptHandler → Option (List (Str × Str × List Str))
  | [] => some []
  | .ExceptHandler (some (.Name d _)) (some v') [.Return (some (.Tuple (.Constant (.str tag) _ _ :: es) _ _)) _] _ :: hds => ifS (decide (v' = v) && (inB d nd.hnds && (glB sc d && plainName d))) ((heO nd v es).bind fun fl => ifS (decide (fl.length ≤ 100)) ((hdO sc v hds).bind fun l => some ((d, tag, fl) :: l)))
  | _ => none
theorem hdO_ok {nm : Nm} {sc : Sc} {v : Str} : ∀ {hds : List ExceptHandler} {l : List (Str × Str × List Str)}, hdO nm.toNd sc v hds = some l → HdM nm sc v hds l
  | [], l, h => by cases h; exact .nil
  | e :: es, l, h => by
    unfold hdO at h
    split at h
    · rename_i q; cases q
    · rename_i q
      cases q
      obtain ⟨hb, h⟩ := ifS_some h
      obtain ⟨h1, hb⟩ := and_t hb
      obtain ⟨h2, hb⟩ := and_t hb
      obtain ⟨h3, h4⟩ := and_t hb
      obtain ⟨fl, e1, h⟩ := bindS h
      obtain ⟨hz, h⟩ := ifS_some h
      obtain ⟨l', e2, h⟩ := bindS h
      cases h
      have := of_decide_eq_true h1
      subst this
      exact .cons (inB_ok h2) h3 h4 (heO_ok e1) (of_decide_eq_true hz) (hdO_ok e2)
    · cases h
def hname : List ExceptHandler → Option Str
  | .ExceptHandler _ n _ _ :: _ => n
  | _ => none
def tryS (sc : Sc) (x : Str) (hds : List ExceptHandler) : Option S := (hname hds).bind fun v => (ixO sc.N x).bind fun i => (ixO sc.N v).bind fun j =>
  ifS (visB sc x && (plainName x && (sc.fr && (loc2 sc v && (plainName v && !hds.isEmpty))))) ((hdO nd sc v hds).bind fun l => some (.tryf i l))
def exprS (sc : Sc) (v : Expr) : Option S := match v with
  | .Constant (.str _) _ _ => some .pass
  | v => ifS (noLc v) ((r.e sc v).bind fun ea => some (.ex ea))
def stepS (sc : Sc) : Stmt → Option S
  | .Expr v _ => exprS r sc v
  | .Return none _ => some .retn
  | .Return (some v) _ => (r.e sc v).bind fun ea => some (.ret ea)
  | .Pass _ => some .pass
  | .Break _ => some .brk
  | .Continue _ => some .cnt
  | .If t a b _ => (r.b sc t).bind fun ea => (r.ss sc a).bind fun sa => (r.ss sc b).bind fun sb => some (.if_ ea sa sb)
  | .While t a [] _ => (r.b sc t).bind fun ea => (r.ss sc a).bind fun sa => some (.while_ ea sa)
  | .For tg iter body [] _ => ifS (notSet iter) ((itE nd r sc tg iter).bind fun it => (r.tg sc tg).bind fun t => (r.ss sc body).bind fun sb => some (.for_ t it sb))
  | .Raise (some (.Call (.Name n _) (e :: es) [] _)) none _ => (excO n nd.excs).bind fun _ => ifS (glB sc n && plainName n) ((r.es sc (e :: es)).bind fun x => some (.raise n x))
  | .Try [.Expr (.Call (.Name x _) [] [] _) _] hds [] [] _ => tryS nd sc x hds
  | .AugAssign t op v _ => augS r sc t op v
  | .Assign [t] v _ => asgS nd r sc t v
  | _ => none
def stepSs (sc : Sc) : List Stmt → Option Ss
  | [] => some .nil
  | s :: ss => (r.s sc s).bind fun x => (r.ss sc ss).bind fun xs => some (.cons x xs)
end
section
variable {nm : Nm} {r : Rc} (ok : r.Ok nm)
include ok
theorem parS_ok {sc : Sc} {ts vs : List Expr} {kt k2 : Nat} {pt pt2 pos : Pos} {s : S} (h : parS r sc ts vs = some s) : SS nm sc (.Assign [.Tuple ts kt pt] (.Tuple vs k2 pt2) pos) s := by
  unfold parS at h
  split at h
  · obtain ⟨i, hi, h⟩ := bindS h
    obtain ⟨j, hj, h⟩ := bindS h
    obtain ⟨hb, h⟩ := ifS_some h
    obtain ⟨h1, hb⟩ := and_t hb
    obtain ⟨h2, hb⟩ := and_t hb
    obtain ⟨h3, h4⟩ := and_t hb
    obtain ⟨es, e1, h⟩ := bindS h
    cases h
    intro _ _ _ _ _ _
    exact par2 (ixO_ok hi) (ixO_ok hj) (of_decide_eq_true h1) (of_decide_eq_true h2) (of_decide_eq_true h3) (ok.es _ _ _ e1).ses fun env a b => swapOf_ok a b (of_decide_eq_true h4)
  · obtain ⟨i, hi, h⟩ := bindS h
    obtain ⟨j, hj, h⟩ := bindS h
    obtain ⟨l, hl, h⟩ := bindS h
    obtain ⟨hb, h⟩ := ifS_some h
    obtain ⟨h1, hb⟩ := and_t hb
    obtain ⟨h2, hb⟩ := and_t hb
    obtain ⟨h3, hb⟩ := and_t hb
    obtain ⟨h4, hb⟩ := and_t hb
    obtain ⟨h5, hb⟩ := and_t hb
    obtain ⟨h6, h7⟩ := and_t hb
    obtain ⟨es, e1, h⟩ := bindS h
    cases h
    intro _ _ _ _ _ _
    exact par3 (ixO_ok hi) (ixO_ok hj) (ixO_ok hl) (of_decide_eq_true h1) (of_decide_eq_true h2) (of_decide_eq_true h3) (of_decide_eq_true h4) (of_decide_eq_true h5) (of_decide_eq_true h6) (ok.es _ _ _ e1).ses fun env a b => swapOf_ok a b (of_decide_eq_true h7)
  · cases h
theorem tupS_ok {sc : Sc} {ts : List Expr} {v : Expr} {kt : Nat} {pt pos : Pos} {s : S} (h : tupS r sc ts v = some s) : SS nm sc (.Assign [.Tuple ts kt pt] v pos) s := by
  unfold tupS at h
  split at h
  · split at h
    · rename_i hs
      obtain ⟨t, e1, h⟩ := bindS h
      obtain ⟨ea, e2, h⟩ := bindS h
      cases h
      intro _ _ _ _ _ _
      exact ss_unpT rfl (fun env a b => swapOf_ok a b (of_decide_eq_true hs)) (ok.tgs _ _ _ e1) (ok.e _ _ _ e2)
    · intro _ _ _ _ _ _
      exact parS_ok ok h
  · obtain ⟨hn, h⟩ := ifS_some h
    obtain ⟨t, e1, h⟩ := bindS h
    obtain ⟨ea, e2, h⟩ := bindS h
    cases h
    intro _ _ _ _ _ _
    exact ss_unp hn (ok.tgs _ _ _ e1) (ok.e _ _ _ e2)
theorem nameS_ok {sc : Sc} {x : Str} {p : Pos} {v : Expr} {pos : Pos} {s : S} (h : nameS nm.toNd r sc x p v = some s) : SS nm sc (.Assign [.Name x p] v pos) s := by
  unfold nameS at h
  split at h
  · rename_i hs
    obtain ⟨hl, h⟩ := ifS_some h
    obtain ⟨i, hi, h⟩ := bindS h
    obtain ⟨ea, e1, h⟩ := bindS h
    cases h
    intro _ _ _ _ _ _
    exact ss_set hs (ixO_ok hi) hl (ok.e _ _ _ e1)
  · rename_i hs
    split at h
    · obtain ⟨i, hi, h⟩ := bindS h
      obtain ⟨q, e1, h⟩ := bindS h
      cases h
      intro _ _ _ _ _ _
      exact ss_setLc (compO_ok ok e1) hs (ixO_ok hi)
    · cases h
theorem asgS_ok {sc : Sc} {t v : Expr} {pos : Pos} {s : S} (h : asgS nm.toNd r sc t v = some s) : SS nm sc (.Assign [t] v pos) s := by
  unfold asgS at h
  split at h
  · intro _ _ _ _ _ _
    exact nameS_ok ok h
  · intro _ _ _ _ _ _
    exact tupS_ok ok h
  · obtain ⟨hb, h⟩ := ifS_some h
    obtain ⟨h1, hb⟩ := and_t hb
    obtain ⟨h2, hb⟩ := and_t hb
    obtain ⟨h3, h4⟩ := and_t hb
    obtain ⟨i, hi, h⟩ := bindS h
    obtain ⟨ek, e1, h⟩ := bindS h
    obtain ⟨ea, e2, h⟩ := bindS h
    cases h
    have h1' : noSwap sc v = true ∨ ∃ es k2 q, v = .Tuple es k2 q := by
      rcases Bool.or_eq_true_iff.mp h1 with z | z
      · exact .inl z
      · unfold isTup at z
        split at z
        · exact .inr ⟨_, _, _, rfl⟩
        · cases z
    intro _ _ _ _ _ _
    exact ss_sub h1' h2 (ixO_ok hi) h3 h4 (ok.e _ _ _ e2) (ok.e _ _ _ e1)
  · obtain ⟨hb, h⟩ := ifS_some h
    obtain ⟨h1, hb⟩ := and_t hb
    obtain ⟨h2, hb⟩ := and_t hb
    obtain ⟨h3, h4⟩ := and_t hb
    obtain ⟨i, hi, h⟩ := bindS h
    obtain ⟨ea, e2, h⟩ := bindS h
    cases h
    intro _ _ _ _ _ _
    exact ss_fld (inB_ok h1) h2 (ixO_ok hi) h3 h4 (ok.e _ _ _ e2)
  · cases h
theorem augS_ok {sc : Sc} {t v : Expr} {op : Operator} {pos : Pos} {s : S} (h : augS r sc t op v = some s) : SS nm sc (.AugAssign t op v pos) s := by
  unfold augS at h
  obtain ⟨o, eo, h⟩ := bindS h
  obtain ⟨ho, h⟩ := ifS_some h
  rw [bopO_ok eo]
  split at h
  · obtain ⟨hl, h⟩ := ifS_some h
    obtain ⟨i, hi, h⟩ := bindS h
    obtain ⟨ea, e2, h⟩ := bindS h
    cases h
    intro _ _ _ _ _ _
    exact ss_aug ho (ixO_ok hi) hl (ok.e _ _ _ e2)
  · obtain ⟨hb, h⟩ := ifS_some h
    obtain ⟨h2, hb⟩ := and_t hb
    obtain ⟨h3, h4⟩ := and_t hb
    obtain ⟨i, hi, h⟩ := bindS h
    obtain ⟨ek, e1, h⟩ := bindS h
    obtain ⟨ea, e2, h⟩ := bindS h
    cases h
    intro _ _ _ _ _ _
    exact ss_augix ho h2 (ixO_ok hi) h3 h4 (ok.e _ _ _ e1) (ok.e _ _ _ e2)
  · cases h
theorem tryS_ok {sc : Sc} {x : Str} {hds : List ExceptHandler} {p1 p2 p3 pos : Pos} {s : S} (h : tryS nm.toNd sc x hds = some s) : SS nm sc (.Try [.Expr (.Call (.Name x p1) [] [] p2) p3] hds [] [] pos) s := by
  unfold tryS at h
  obtain ⟨v, ev, h⟩ := bindS h
  obtain ⟨i, hi, h⟩ := bindS h
  obtain ⟨j, hj, h⟩ := bindS h
  obtain ⟨hb, h⟩ := ifS_some h
  obtain ⟨h1, hb⟩ := and_t hb
  obtain ⟨h2, hb⟩ := and_t hb
  obtain ⟨h3, hb⟩ := and_t hb
  obtain ⟨h4, hb⟩ := and_t hb
  obtain ⟨h5, h6⟩ := and_t hb
  obtain ⟨l, e1, h⟩ := bindS h
  cases h
  intro _ _ _ _ _ _
  exact ss_tryf (ixO_ok hi) h1 h2 h3 (ixO_ok hj) (of_decide_eq_true h4) h5 (hdO_ok e1) (fun z => by subst z; cases h6)
theorem stepS_ok {sc : Sc} {py : Stmt} {s : S} (h : stepS nm.toNd r sc py = some s) : SS nm sc py s := by
  unfold stepS at h
  split at h
  · unfold exprS at h
    split at h
    · cases h
      intro _ _ _ _ _ _; exact ss_doc
    · obtain ⟨hl, h⟩ := ifS_some h
      obtain ⟨ea, e1, h⟩ := bindS h
      cases h
      intro _ _ _ _ _ _; exact ss_ex hl (ok.e _ _ _ e1)
  · cases h
    intro _ _ _ _ _ _; exact ss_retn
  · obtain ⟨ea, e1, h⟩ := bindS h
    cases h
    intro _ _ _ _ _ _; exact ss_ret (ok.e _ _ _ e1)
  · cases h
    intro _ _ _ _ _ _; exact ss_pass
  · cases h
    intro _ _ _ _ _ _; exact ss_brk
  · cases h
    intro _ _ _ _ _ _; exact ss_cnt
  · obtain ⟨ea, e1, h⟩ := bindS h
    obtain ⟨sa, e2, h⟩ := bindS h
    obtain ⟨sb, e3, h⟩ := bindS h
    cases h
    intro _ _ _ _ _ _; exact ss_if (ok.b _ _ _ e1) (ok.ss _ _ _ e2) (ok.ss _ _ _ e3)
  · obtain ⟨ea, e1, h⟩ := bindS h
    obtain ⟨sa, e2, h⟩ := bindS h
    cases h
    intro _ _ _ _ _ _; exact ss_while (ok.b _ _ _ e1) (ok.ss _ _ _ e2)
  · obtain ⟨hn, h⟩ := ifS_some h
    obtain ⟨it, e1, h⟩ := bindS h
    obtain ⟨t, e2, h⟩ := bindS h
    obtain ⟨sb, e3, h⟩ := bindS h
    cases h
    intro _ _ _ _ _ _; exact ss_for (itE_ok ok e1) (ok.tg _ _ _ e2) (fold_no ok hn) (ok.ss _ _ _ e3)
  · obtain ⟨fs, e0, h⟩ := bindS h
    obtain ⟨hb, h⟩ := ifS_some h
    obtain ⟨h1, h2⟩ := and_t hb
    obtain ⟨x, e1, h⟩ := bindS h
    cases h
    have q := ok.es _ _ _ e1
    intro _ _ _ _ _ _; exact ss_raise (excO_ok e0) h1 h2 q.plain q.ses
  · intro _ _ _ _ _ _; exact tryS_ok ok h
  · intro _ _ _ _ _ _; exact augS_ok ok h
  · intro _ _ _ _ _ _; exact asgS_ok ok h
  · cases h
theorem stepSs_ok {sc : Sc} {py : List Stmt} {s : Ss} (h : stepSs r sc py = some s) : SSs nm sc py s := by
  unfold stepSs at h
  split at h
  · cases h
    intro _ _ _ _ _ _; exact sss_nil
  · obtain ⟨x, e1, h⟩ := bindS h
    obtain ⟨xs, e2, h⟩ := bindS h
    cases h
    intro _ _ _ _ _ _; exact sss_cons (ok.s _ _ _ e1) (ok.ss _ _ _ e2)
end
/-! ### the translation -/
def Rc.nil : Rc := ⟨fun _ _ => none, fun _ _ => none, fun _ _ => none, fun _ _ => none, fun _ _ => none, fun _ _ => none, fun _ _ => none, fun _ _ => none⟩
def Rc.step (nd : Nd) (r : Rc) : Rc := ⟨stepE nd r, stepEs r, stepB r, stepBw r, stepTg r, stepTgs r, stepS nd r, stepSs r⟩
def Rc.at (nd : Nd) : Nat → Rc
  | 0 => .nil
  | n + 1 => (Rc.at nd n).step nd
/-- the text's lambdas: those that the translation knows -/
def lamsOf (nd : Nd) : List Str → List (Str × NameKind) → Expr → E → Prop := fun N ns py b => N.Nodup ∧ ∃ n, (Rc.at nd n).e ⟨N, ns, [], false, false⟩ py = some b
def nmOf (nd : Nd) : Nm := ⟨nd, lamsOf nd⟩
theorem Rc.at_ok (nd : Nd) : ∀ n, (Rc.at nd n).Ok (nmOf nd)
  | 0 => ⟨fun _ _ _ h => (by cases h), fun _ _ _ h => (by cases h), fun _ _ _ h => (by cases h), fun _ _ _ h => (by cases h), fun _ _ _ h => (by cases h), fun _ _ _ h => (by cases h), fun _ _ _ h => (by cases h), fun _ _ _ h => by cases h⟩
  | n + 1 => by
    have ok := Rc.at_ok nd n
    refine ⟨fun sc py x h => ?_, fun sc py x h => stepEs_ok ok h, fun sc py x h => ?_, fun sc py x h => ?_, fun sc py x h => stepTg_ok ok h, fun sc py x h => stepTgs_ok ok h, fun sc py x h => ?_, fun sc py x h => ?_⟩
    · intro _ _ _ _ _ _; exact stepE_ok ok (fun N ns py b hn e => ⟨hn, n, e⟩) h
    · intro _ _ _ _ _ _; exact stepB_ok ok h
    · intro _ _ _ _ _ _; exact stepBw_ok ok h
    · intro _ _ _ _ _ _; exact stepS_ok ok h
    · intro _ _ _ _ _ _; exact stepSs_ok ok h
theorem lams_ok {nd : Nd} {N : List Str} {ns : List (Str × NameKind)} {py : Expr} {b : E} (h : lamsOf nd N ns py b) : N.Nodup ∧ SE (nmOf nd) ⟨N, ns, [], false, false⟩ py b := by
  obtain ⟨a, n, e⟩ := h
  refine ⟨a, ?_⟩
  intro _ _ _ _ _ _
  exact (Rc.at_ok nd n).e _ _ _ e
end Zl

set_option Elab.async false
set_option linter.all false
set_option maxRecDepth 100000
set_option maxHeartbeats 4000000
/-! Z43: what is looked at behind the top. -/
namespace Zl
open PySem PySem.Spec PyProof.Rows L2
/-! ### the Hook -/
def asY (g : Addr → Option Obj) (n : Nat) : List Addr := sysModules :: cStatics :: He.asD g n
def frY (g : Addr → Option Obj) (n : Nat) : PySem.W.Frag := He.frT g (asY g n)
def obsK (fn : List He.DefD) (tf : List He.Defn) (ex : PySem.W.Frag → Bool) (g : Addr → Option Obj) (K : PySem.W.Frag) : Bool × List He.FnW :=
  ((fn.all fun d => d.ok K) && ((K.lookup sysModules).isSome && (ex K && He.tabsB g tf K)), fn.map fun d => He.fnW K d.at_)
def obsY (n : Nat) (fn : List He.DefD) (tf : List He.Defn) (ex : PySem.W.Frag → Bool) (g : Addr → Option Obj) : Bool × List He.FnW := obsK fn tf ex g (frY g n)
def valY (fn : List He.DefD) : Bool × List He.FnW := (true, fn.map He.DefD.val)
structure SaysY (fn : List He.DefD) (tf : List He.Defn) (ex : PySem.W.Frag → Bool) (h : Heap) (K : PySem.W.Frag) : Prop where
  defs : ∀ d ∈ fn, ∃ fd, FunD K d.name d.qual d.params d.body d.scope (d.dvs K) (d.kws K) (He.fAd K d.at_) fd
  sys : ∃ o, K.lookup sysModules = some o
  more : ex K = true
  hd : ∀ p ∈ tf, PySem.W.codeHdIn K (He.cT K p).1 (He.cT K p).2 = true
  out : ∀ p ∈ tf, K.lookup (He.cT K p).2 = none
  empty : ∀ p ∈ tf, h.get? (He.cT K p).2 = some { cls := .none, data := .fields #[] }
theorem saysY_of {n : Nat} {fn : List He.DefD} {tf : List He.Defn} {ex : PySem.W.Frag → Bool} {h : Heap} (e : obsY n fn tf ex h.get? = valY fn) : SaysY fn tf ex h (frY h.get? n) := by
  unfold obsY at e
  have lk : ∀ {a o}, h.get? a = some o → He.emptyTab o = true → (frY h.get? n).lookup a = none := fun q z => He.frT_none q z
  generalize frY h.get? n = K at e lk
  have e1 : ((fn.all fun d => d.ok K) && ((K.lookup sysModules).isSome && (ex K && He.tabsB h.get? tf K))) = true := congrArg (fun z : Bool × List He.FnW => z.1) e
  have e2 : (fn.map fun d => He.fnW K d.at_) = fn.map He.DefD.val := congrArg (fun z : Bool × List He.FnW => z.2) e
  obtain ⟨h1, e1⟩ := and_t e1
  obtain ⟨h2, e1⟩ := and_t e1
  obtain ⟨h3, h4⟩ := and_t e1
  have c : He.SaysD [] fn K := by
    show (_, _) = (_, _)
    rw [e2, h1]; rfl
  have key : ∀ p ∈ tf, PySem.W.codeHdIn K (He.cT K p).1 (He.cT K p).2 = true ∧ ∃ o, h.get? (He.cT K p).2 = some o ∧ He.emptyTab o = true := fun p hp => by
    obtain ⟨a, b⟩ := and_t (List.all_eq_true.mp h4 p hp)
    refine ⟨a, ?_⟩
    cases q : h.get? (He.cT K p).2 with
    | none => rw [q] at b; cases b
    | some o => rw [q] at b; exact ⟨o, rfl, b⟩
  refine ⟨fun d hd => c.defs hd, Option.isSome_iff_exists.mp h2, h3, fun p hp => (key p hp).1, fun p hp => ?_, fun p hp => ?_⟩
  · obtain ⟨_, o, q, z⟩ := key p hp
    exact lk q z
  · obtain ⟨_, o, q, z⟩ := key p hp
    rw [q, He.emptyTab_eq z]
def hookY (n : Nat) (fn : List He.DefD) (tf : List He.Defn) (ex : PySem.W.Frag → Bool) : PySem.W.Hook where
  α := Bool × List He.FnW
  obs := fun s => obsY n fn tf ex s.heap.get?
  val := fun _ => valY fn
  says := fun _ h => ∃ K : PySem.W.Frag, K.In h ∧ SaysY fn tf ex h K
  of := fun _ _ e => ⟨_, He.frT_in, saysY_of e⟩
  keeps := fun _ _ _ ⟨K, hK, c⟩ k => ⟨K, PySem.W.Frag.In.keeps hK k, ⟨c.defs, c.sys, c.more, c.hd, c.out, fun p hp => k _ _ (c.empty p hp)⟩⟩
theorem obsY_eq {n : Nat} {fn : List He.DefD} {tf : List He.Defn} {ex : PySem.W.Frag → Bool} {g : Addr → Option Obj} {s : Shared} (h : ∀ a, g a = s.heap.get? a) : obsY n fn tf ex g = (hookY n fn tf ex).obs s := by
  have e : g = s.heap.get? := funext h
  rw [e] <;> rfl
/-! ### what is looked at -/
def oexB (K : PySem.W.Frag) (C : Addr) : Bool := (match K.lookup C with
  | some ⟨.type t, _, .cls cd, sl⟩ => (match cd.mro, sl.toList with
    | .ref C' :: bm, [_, _, _, _, some (.builtin n), _] => decide (t = "type") && (decide (C' = C) && (decide (n = "ValueError.__new__") && (!cd.hasDel && (cd.hasDict && PySem.HandSPX.refsVE bm))))
    | _, _ => false)
  | _ => false) && (He.eqO (PySem.W.findIn K (.ref C) "__setattr__") (some (some (.builtin "object.__setattr__"))) && (decide (PySem.W.subIn K (.ref C) (.type "BaseException") = some true) && (decide (PySem.W.typeIn K (.ref C) = some (.type "type")) && PySem.W.keepIn K (.ref C))))
theorem oexB_ok {K : PySem.W.Frag} {C : Addr} (h : oexB K C = true) : OexC K C := by
  unfold oexB at h
  obtain ⟨h0, h⟩ := and_t h
  obtain ⟨h1, h⟩ := and_t h
  obtain ⟨h2, h⟩ := and_t h
  obtain ⟨h3, h4⟩ := and_t h
  refine ⟨?_, He.eqO_ok h1, of_decide_eq_true h2, of_decide_eq_true h3, h4⟩
  split at h0
  · rename_i t dd cd sl ho
    split at h0
    · rename_i C' bm k0 k1 k2 k3 n k5 hm hs
      obtain ⟨a1, h0⟩ := and_t h0
      obtain ⟨a2, h0⟩ := and_t h0
      obtain ⟨a3, h0⟩ := and_t h0
      obtain ⟨a4, h0⟩ := and_t h0
      obtain ⟨a5, a6⟩ := and_t h0
      have b1 := of_decide_eq_true a1
      have b2 := of_decide_eq_true a2
      have b3 := of_decide_eq_true a3
      subst b1 b2 b3
      obtain ⟨nm, bs, mro, ns, qn, hd, sn, sub, ab, col, del⟩ := cd
      dsimp only at hm a4 a5
      have a4 : del = false := by simpa using a4
      subst hm a4 a5
      have hsl : sl = #[k0, k1, k2, k3, some (.builtin "ValueError.__new__"), k5] := by
        obtain ⟨l⟩ := sl
        simp only at hs
        rw [hs]
      subst hsl
      exact ⟨nm, qn, ns, bs, bm, sn, sub, ab, col, dd, k0, k1, k2, k3, k5, ho, a6⟩
    · cases h0
  · cases h0
def iniB (K : PySem.W.Frag) (C : Addr) : Bool := He.eqO (PySem.W.specialIn K (.ref C) "__getattribute__") (some (some (.builtin "type.__getattribute__"))) && (PySem.W.readsIn K C (.type "type") && (match PySem.W.findCls K (.ref C) (.type "type") "__init__" with
  | some (.val (.builtin s)) => decide (s = "ValueError.__init__")
  | _ => false))
theorem iniB_ok {K : PySem.W.Frag} {C : Addr} (h : iniB K C = true) : IniC K C := by
  unfold iniB at h
  obtain ⟨h1, h⟩ := and_t h
  obtain ⟨h2, h3⟩ := and_t h
  refine ⟨He.eqO_ok h1, h2, ?_⟩
  split at h3
  · rename_i s e
    rw [e, of_decide_eq_true h3]
  · cases h3
/-- an own == and != -/
abbrev Heq : Type := List (Str × Str × Str)
def heqO (l : Heq) (n : Str) : Option (Str × Str) := l.lookup n
/-- where a function of the text stands -/
def pathOf (ms : List (Str × Str × Str)) (f : Str) : Str × Option Str := match ms.lookup f with
  | some (c, m) => (c, some m)
  | none => (f, none)
def wdY (K : PySem.W.Frag) (nd : Nd) (ms : List (Str × Str × Str)) (tbs : List (Addr × Addr)) : Wd where
  K := K
  FA := fun f => He.fAd K (pathOf ms f)
  CA := He.ga K
  okc := fun c => c ∈ nd.clss.map (·.1) ∨ c ∈ nd.cls0
  lams := lamsOf nd
  tbs := tbs
def clsB (nd : Nd) (hq : Heq) (ms : List (Str × Str × Str)) (K : PySem.W.Frag) (n : Str) : Bool :=
  (He.Fa.cls n).ok K && ((nd.flds.all fun f => (He.Fa.noat n f).ok K) && (He.eqO (PySem.W.findIn K (.ref (He.ga K n)) "__class__") (some (some (.builtin "object.__class__"))) && (He.eqO (PySem.W.specialIn K (.builtin "object.__class__") "__get__") (some (some (.builtin "getset_descriptor.__get__"))) &&
  (decide (PySem.W.takesIn K (.builtin "object.__class__") = some true) && (decide (PySem.W.mroIn K (He.ga K n) (.type "object") = some true) && ((nd.isas.all fun d => decide (PySem.W.kitOne K (.ref (He.ga K n)) (.ref (He.ga K d)) = some (decide (n = d)))) &&
  ((nd.tys.all fun t => decide (PySem.W.kitOne K (.ref (He.ga K n)) (.type t) = some false)) && (match heqO hq n with
    | none => true
    | some (q, r) => He.eqO (PySem.W.findIn K (.ref (He.ga K n)) "__eq__") (some (some (.ref (He.fAd K (pathOf ms q))))) && (He.eqO (PySem.W.findIn K (.ref (He.ga K n)) "__ne__") (some (some (.ref (He.fAd K (pathOf ms r))))) && (PySem.W.isFn K (.ref (He.fAd K (pathOf ms q))) && (PySem.W.isFn K (.ref (He.fAd K (pathOf ms r))) && PySem.W.notFirst K (He.ga K n) (.type "tuple"))))))))))))
def mk0B (K : PySem.W.Frag) (C : Addr) : Bool := PySem.W.makesIn K C && He.eqO (PySem.W.findIn K (.ref C) "__init__") (some (some (.builtin "object.__init__")))
def excB (K : PySem.W.Frag) (n : Str) (fs : List Str) : Bool := (He.Fa.glo n).ok K && (oexB K (He.ga K n) && (decide fs.Nodup && (decide (fs.length ≤ 100) && (He.eqO (PySem.W.findIn K (.ref (He.ga K n)) "__init__") (some (some (.ref (He.ma K (He.ga K n) "__init__")))) &&
  (decide (PySem.W.typeIn K (.ref (He.ma K (He.ga K n) "__init__")) = some (.type "function")) && fs.all fun f => He.eqO (PySem.W.findIn K (.ref (He.ga K n)) f) (some none))))))
def gndB (nd : Nd) (hq : Heq) (ms : List (Str × Str × Str)) (e0 : Str) (K : PySem.W.Frag) : Bool :=
  (nd.defs.all fun f => (He.Fa.glo f).ok K && (decide (ms.lookup f = none) && PySem.W.keepIn K (.ref (He.ga K f)))) &&
  ((nd.blts.all fun x => (He.Fa.free x).ok K) &&
  ((nd.imps.all fun x => He.eqO (PySem.W.nsIn K mainGlobals x) (some (some (.builtin (impId x))))) &&
  ((nd.isas.all fun d => (He.Fa.glo d).ok K && tysA.all fun a => decide (PySem.W.kitOne K (.type a) (.ref (He.ga K d)) = some false)) &&
  ((nd.clss.all fun p => (He.Fa.glo p.1).ok K && ((He.Fa.mkr p.1).ok K && (decide (pathOf ms p.2 = (p.1, some ("__init__" : PySem.Str))) && clsB nd hq ms K p.1))) &&
  ((nd.cls0.all fun n => (He.Fa.glo n).ok K && (mk0B K (He.ga K n) && clsB nd hq ms K n)) &&
  ((nd.excs.all fun p => excB K p.1 p.2 && (decide (nd.excs.lookup p.1 = some p.2) && nd.hnds.all fun d => decide (PySem.W.exmOne K (.ref (He.ga K p.1)) (.ref (He.ga K d)) = some (decide (p.1 = d))))) &&
  ((nd.hnds.all fun d => (He.Fa.glo d).ok K && (xfB K (He.ga K d) && nd.xfl.all fun f => He.eqO (PySem.W.findIn K (.ref (He.ga K d)) f) (some none))) &&
  ((He.Fa.glo e0).ok K && iniB K (He.ga K e0)))))))))
end Zl

set_option Elab.async false
set_option linter.all false
set_option maxRecDepth 100000
set_option maxHeartbeats 4000000
/-! Z44: the whole text: its defs keep their promises, to any depth of calls. -/
namespace Zl
open PySem PySem.Spec PyProof.Rows L2
/-- a def of the text -/
structure Tf where
  nm : PySem.Str
  at_ : PySem.Str × Option PySem.Str
  name : PySem.Str
  qual : PySem.Str
  ps : List PySem.Str
  N : List PySem.Str
  st : Stmt
  b : Ss
def Tf.d (t : Tf) : He.DefD := ⟨t.at_, t.name, t.qual, defArgs t.st, defBody t.st, defScope t.st, [], []⟩
def Tf.fn (t : Tf) : Fn := ⟨t.ps.length, t.N.length, t.b⟩
structure TfOk (nd : Nd) (t : Tf) : Prop where
  sc : FnScope t.N t.ps (defScope t.st)
  le : t.ps.length ≤ t.N.length
  tr : ∃ n, (Rc.at nd n).ss ⟨t.N, (defScope t.st).names, t.N, false, true⟩ (defBody t.st) = some t.b
  bd : ∀ (kV doc pm : Value) (an : Option Addr) (cdv ct : Value) (us : List Value), us.length = t.ps.length → bindArgs (PySem.W.fnOf t.name t.qual (defArgs t.st) (defBody t.st) (defScope t.st) .none kV doc pm an cdv ct) ⟨us, []⟩ = pure (t.ps.zip us)
def fnO (l : List Tf) (f : PySem.Str) : Option Tf := l.find? fun t => decide (t.nm = f)
theorem fnO_ok {l : List Tf} {f : PySem.Str} {t : Tf} (h : fnO l f = some t) : t ∈ l ∧ t.nm = f := by
  unfold fnO at h
  have := List.find?_some h
  exact ⟨List.mem_of_find?_eq_some h, by simpa using this⟩
def pgOf (nd : Nd) (hq : Heq) (con : PySem.Str → Option T) (l : List Tf) : Pg := ⟨fun f => (fnO l f).map Tf.fn, con, fun a b => decide (a = b), heqO hq, fun n => nd.excs.lookup n⟩
theorem lookup_mem' {α : Type} {x : PySem.Str} {v : α} : ∀ {l : List (PySem.Str × α)}, l.lookup x = some v → (x, v) ∈ l
  | [], h => by cases h
  | (k, u) :: l, h => by
    rw [List.lookup_cons] at h
    cases q : x == k with
    | true =>
      rw [q] at h
      cases h
      rw [beq_iff_eq.mp q]
      exact List.mem_cons_self
    | false => rw [q] at h; exact List.mem_cons_of_mem _ (lookup_mem' h)
section
variable {P : Program} {w : World} {K : PySem.W.Frag} {mg : PySem.Str → Option Value} {h : Heap} {tbs : List (Addr × Addr)} {tab : List (Addr × PySem.Str)} {nd : Nd} {hq : Heq} {ms : List (PySem.Str × PySem.Str × PySem.Str)} {e0 : PySem.Str} {con : PySem.Str → Option T} {l : List Tf}
theorem Pg.con_at (g : Pg) : ∀ n, (g.at n).con = g.con ∧ (g.at n).sub = g.sub ∧ (g.at n).heq = g.heq ∧ (g.at n).exf = g.exf
  | 0 => ⟨rfl, rfl, rfl, rfl⟩
  | _ + 1 => ⟨rfl, rfl, rfl, rfl⟩
theorem cls_f {c : Pr} (hs : c.sub = fun a b => decide (a = b)) (hh : c.heq = heqO hq) {n : PySem.Str} (g : clsB nd hq ms K n = true) : ClsF (nmOf nd) (wdY K nd ms tbs) c n := by
  unfold clsB at g
  obtain ⟨g1, g⟩ := and_t g
  obtain ⟨g2, g⟩ := and_t g
  obtain ⟨g3, g⟩ := and_t g
  obtain ⟨g4, g⟩ := and_t g
  obtain ⟨g5, g⟩ := and_t g
  obtain ⟨g6, g⟩ := and_t g
  obtain ⟨g7, g⟩ := and_t g
  obtain ⟨g8, g9⟩ := and_t g
  refine ⟨He.cls_ok g1, fun f hf => He.noat_ok (List.all_eq_true.mp g2 f hf), He.eqO_ok g3, He.eqO_ok g4, of_decide_eq_true g5, of_decide_eq_true g6, fun d hd => ?_, fun t ht => of_decide_eq_true (List.all_eq_true.mp g8 t ht), fun q r e => ?_⟩
  · rw [hs]
    exact of_decide_eq_true (List.all_eq_true.mp g7 d hd)
  · rw [hh] at e
    rw [e] at g9
    obtain ⟨a1, g9⟩ := and_t g9
    obtain ⟨a2, g9⟩ := and_t g9
    obtain ⟨a3, g9⟩ := and_t g9
    obtain ⟨a4, a5⟩ := and_t g9
    exact ⟨He.eqO_ok a1, He.eqO_ok a2, a3, a4, a5⟩
theorem pf_all (X : K.In h) (G : h.Ns mainGlobals mg) (gB : gndB nd hq ms e0 K = true) (hcon : ∀ x t, con x = some t → ∃ v u, mg x = some u ∧ RelV v u ∧ ∀ g H, Rep (wdY K nd ms tbs) g H v t)
    (hl : ∀ t ∈ l, TfOk nd t ∧ pathOf ms t.nm = t.at_ ∧ ∃ fd, FunD K t.name t.qual (defArgs t.st) (defBody t.st) (defScope t.st) [] [] (He.fAd K t.at_) fd)
    (hi : ∀ p ∈ nd.excs, ∃ fd ps, L2.Binds K fd ps [] ∧ ∀ base, FnOk P w K mg base (L2.CX P w) 2 (He.ma K (He.ga K p.1) "__init__") fd ps (spIni (He.ga K p.1) p.2)) :
    ∀ n, Pf (nmOf nd) P w (wdY K nd ms tbs) mg tab (2 * n + 2) ((pgOf nd hq con l).at n) := by
  have key : ∀ (n k : Nat), 2 ≤ k → (∀ f sl Q Xx, ((pgOf nd hq con l).at n).call f sl Q Xx → ∃ fd ps, L2.Binds K fd ps [] ∧ FnG P w K mg tbs k (He.fAd K (pathOf ms f)) fd ps (spT (wdY K nd ms tbs) tab (((pgOf nd hq con l).at n).call f))) →
      CloG P w (wdY K nd ms tbs) mg tab k ((pgOf nd hq con l).at n).clo → Pf (nmOf nd) P w (wdY K nd ms tbs) mg tab k ((pgOf nd hq con l).at n) := by
    intro n k hk hfn hclo
    obtain ⟨c1, c2, c3, c4⟩ := Pg.con_at (pgOf nd hq con l) n
    unfold gndB at gB
    obtain ⟨g1, g⟩ := and_t gB
    obtain ⟨g2, g⟩ := and_t g
    obtain ⟨g3, g⟩ := and_t g
    obtain ⟨g4, g⟩ := and_t g
    obtain ⟨g5, g⟩ := and_t g
    obtain ⟨g6, g⟩ := and_t g
    obtain ⟨g7, g⟩ := and_t g
    obtain ⟨g8, g9⟩ := and_t g
    have mo := Pg.mono (pgOf nd hq con l) n
    refine ⟨fun a b => mo.1 _ _ _ _ _ _ a b, hclo, fun a b => mo.2 _ _ _ _ _ _ a b, fun f hf => ?_, hfn, fun x t e => ?_, fun x hx => ?_, fun x hx => ?_, fun d hd => ?_, fun p hp => ?_, fun n hn => ?_, fun n hn => ?_, hk, fun N ns py b z => z, fun n fs e => ?_, fun p hp d hd => ?_, fun d hd => ?_, fun p hp => ?_⟩
    · obtain ⟨a1, a⟩ := and_t (List.all_eq_true.mp g1 f hf)
      obtain ⟨a2, a3⟩ := and_t a
      have e : pathOf ms f = (f, none) := by unfold pathOf; rw [of_decide_eq_true a2]
      show mg f = some (.ref (He.fAd K (pathOf ms f))) ∧ PySem.W.keepIn K (.ref (He.fAd K (pathOf ms f))) = true
      rw [e]
      exact ⟨He.glo_ok X G a1, a3⟩
    · rw [c1] at e
      exact hcon x t e
    · exact He.free_ok X G (List.all_eq_true.mp g2 x hx)
    · exact PySem.W.mg_of X G (He.eqO_ok (List.all_eq_true.mp g3 x hx))
    · obtain ⟨a1, a2⟩ := and_t (List.all_eq_true.mp g4 d hd)
      exact ⟨He.glo_ok X G a1, fun a ha => of_decide_eq_true (List.all_eq_true.mp a2 a ha)⟩
    · obtain ⟨a1, a⟩ := and_t (List.all_eq_true.mp g5 p hp)
      obtain ⟨a2, a⟩ := and_t a
      obtain ⟨a3, a4⟩ := and_t a
      refine ⟨He.glo_ok X G a1, .inl (List.mem_map.mpr ⟨p, hp, rfl⟩), ?_⟩
      show Mk K (He.ga K p.1) (He.fAd K (pathOf ms p.2))
      rw [of_decide_eq_true a3]
      exact He.mkr_ok a2
    · obtain ⟨a1, a⟩ := and_t (List.all_eq_true.mp g6 n hn)
      obtain ⟨a2, a3⟩ := and_t a
      obtain ⟨a2, a4⟩ := and_t a2
      exact ⟨He.glo_ok X G a1, .inr hn, a2, He.eqO_ok a4⟩
    · have hs : ((pgOf nd hq con l).at _).sub = fun a b => decide (a = b) := c2
      rcases hn with hn | hn
      · obtain ⟨p, hp, rfl⟩ := List.mem_map.mp hn
        obtain ⟨a1, a⟩ := and_t (List.all_eq_true.mp g5 p hp)
        obtain ⟨a2, a⟩ := and_t a
        obtain ⟨a3, a4⟩ := and_t a
        exact cls_f hs c3 a4
      · obtain ⟨a1, a⟩ := and_t (List.all_eq_true.mp g6 n hn)
        obtain ⟨a2, a3⟩ := and_t a
        exact cls_f hs c3 a3
    · rw [c4] at e
      exact lookup_mem' e
    · obtain ⟨a1, a⟩ := and_t (List.all_eq_true.mp g7 p hp)
      obtain ⟨a0, a2⟩ := and_t a
      exact of_decide_eq_true (List.all_eq_true.mp a2 d hd)
    · obtain ⟨a1, a⟩ := and_t (List.all_eq_true.mp g8 d hd)
      obtain ⟨a2, a3⟩ := and_t a
      exact ⟨He.glo_ok X G a1, xfB_ok a2, fun f hf => He.eqO_ok (List.all_eq_true.mp a3 f hf)⟩
    · obtain ⟨a1, a⟩ := and_t (List.all_eq_true.mp g7 p hp)
      obtain ⟨a0, a2⟩ := and_t a
      unfold excB at a1
      obtain ⟨b1, a1⟩ := and_t a1
      obtain ⟨b2, a1⟩ := and_t a1
      obtain ⟨b3, a1⟩ := and_t a1
      obtain ⟨b4, a1⟩ := and_t a1
      obtain ⟨b5, a1⟩ := and_t a1
      obtain ⟨b6, b7⟩ := and_t a1
      obtain ⟨fd, ps, bd, F⟩ := hi p hp
      refine ⟨He.glo_ok X G b1, ?_, oexB_ok b2, of_decide_eq_true b3, of_decide_eq_true b4, _, fd, ps, He.eqO_ok b5, of_decide_eq_true b6, bd, F⟩
      rw [c4]
      exact of_decide_eq_true a0
  intro n
  induction n with
  | zero => exact key 0 2 (Nat.le_refl _) (fun f sl Q Xx z => z.elim) (by intro b caps f c' q N cl o base A outer s H Q E S Γ Kr X' z; exact z.elim)
  | succ n ih =>
    refine key (n + 1) (2 * (n + 1) + 2) (by omega) (fun f sl Q Xx z => ?_) ?_
    · have z0 : (match (fnO l f).map Tf.fn with
          | some d => wpFn ((pgOf nd hq con l).at n) d sl Q Xx
          | none => False) := z
      cases e : fnO l f with
      | none => rw [e] at z0; exact z0.elim
      | some t =>
        obtain ⟨ht, en⟩ := fnO_ok e
        obtain ⟨ok, ep, fd, F⟩ := hl t ht
        obtain ⟨oc, od, dV, kV, doc, pm, an, cdv, ct, osl, efd, lk, hcd, hD, _⟩ := F.ex
        obtain ⟨m, tr⟩ := ok.tr
        have ec : ((pgOf nd hq con l).at (n + 1)).call f = wpFn ((pgOf nd hq con l).at n) t.fn := by
          funext sl Q Xx
          show (match (fnO l f).map Tf.fn with
            | some d => wpFn ((pgOf nd hq con l).at n) d sl Q Xx
            | none => False) = _
          rw [e]; rfl
        have hN : He.fAd K (pathOf ms f) = He.fAd K t.at_ := by rw [← en, ep]
        have hb : L2.Binds K fd t.ps [] := FunD.bindsN F fun kV doc pm an cdv ct us hz => ok.bd kV doc pm an cdv ct us hz
        subst efd
        refine ⟨_, t.ps, hb, ?_⟩
        rw [ec, hN]
        have ss : SSs (nmOf nd) ⟨t.N, (defScope t.st).names, t.N, false, true⟩ (defBody t.st) t.b := by
          intro _ _ _ _ _ _; exact (Rc.at_ok nd m).ss _ _ _ tr
        exact fn_g (W := wdY K nd ms tbs) ih lk hcd ok.sc rfl rfl ok.le ss
    · exact clo_g (W := wdY K nd ms tbs) ih fun N ns py b z => lams_ok z
end
end Zl

set_option Elab.async false
set_option linter.all false
set_option maxRecDepth 100000
set_option maxHeartbeats 4000000
/-! Z45: the end. -/
namespace Zl
open PySem PySem.Spec PyProof.Rows L2 LamX
theorem law_callY {P : Program} {w : World} {K : PySem.W.Frag} {mg mb : PySem.Str → Option Value} {fa a : Addr} {tb : List (Addr × Addr)} {sY : Shared} {vs : List Value} {ns : List Int}
    (kIn0 : K.In sY.heap) (nsG : sY.heap.Ns mainGlobals mg) (nb : sY.heap.Ns builtinsNs mb) (bltB : ∀ x : PySem.Str, x ≠ "__name__" → mb x = bootBuiltins x) (noL : sY.heap.NoLimit) (gen0 : sY.gens = #[]) (eT : ∀ pr ∈ tb, sY.heap.get? pr.2 = some { cls := .none, data := .fields #[] })
    (noT : ∀ pr ∈ tb, K.lookup pr.2 = none) (cdH : ∀ pr ∈ tb, PySem.W.CodeHd sY.heap pr.1 pr.2) (bmF : ∃ (bmo : Addr) (ob : Obj), mg "__builtins__" = some (.ref bmo) ∧ bmo ≠ builtinsNs ∧ sY.heap.get? bmo = some ob ∧ ob.cls = .type "module" ∧ ob.dict = some builtinsNs ∧ ob.data = .plain)
    (atA : sY.heap.get? a = some { cls := .type "list", data := .seq vs.toArray }) (isI : IntsAre vs ns) (szN : ns.length ≤ sizeLine)
    (F : ∀ base : Heap, K.In base → base.Ns mainGlobals mg → (∀ pr ∈ tb, TabB base mg pr.1 pr.2) → ∀ H, Env0 P w K mg base callerA [] sY H → (∀ pr ∈ tb, H pr.2 = some (.tbl #[])) → SqL K H a (ns.map V.int) →
      codeAny (model P w) callerA (.call (.ref fa) ⟨[.ref a], []⟩) (CR (L2.CX P w) [] P w H sY (fun v _ => v = .bl true) fun _ _ _ => False) sY) :
    codeAny (model P w) callerA (.call (.ref fa) ⟨[.ref a], []⟩) (fun r s' => r = .ok (.ret (.bool true)) ∧ OldK sY.heap s'.heap ∧ s'.os = sY.os ∧ AllBare s'.gens) sY := by
  have valR := vals_ints isI
  have lenR := isI.length
  have tblAt : ∀ ad : Addr, ad ∈ tb.map (·.2) → sY.heap.get? ad = some { cls := .none, data := .fields #[] } := fun ad nb => by
    obtain ⟨pr, pm, eq1⟩ := List.mem_map.mp nb
    rw [← eq1]
    exact eT pr pm
  have aNot : a ∉ tb.map (·.2) := fun ab => by
    have eq2 := tblAt a ab
    rw [atA] at eq2
    have z' : Data.seq vs.toArray _ = Data.fields #[] := congrArg Obj.data (Option.some.inj eq2)
    cases z'
  have inTb : ∀ pr ∈ tb, pr.2 ∈ tb.map (·.2) := fun pr pm => List.mem_map.mpr ⟨pr, pm, rfl⟩
  -- from an abstract heap in which nothing but the script and the tables may be tracked
  have main : ∀ H : Hp, (∀ pr ∈ tb, H pr.2 = some (.tbl #[])) → (∀ ad, H ad = none ∨ ad ∈ tb.map (·.2) ∨ ∃ obx xs, H ad = some (.frz obx (.lst xs))) → SqL K H a (ns.map V.int) → HOk P w H sY.heap → (∀ ad, H ad ≠ none → ad = a ∨ ad ∈ tb.map (·.2)) → (H a ≠ none → K.lookup a = none) →
      codeAny (model P w) callerA (.call (.ref fa) ⟨[.ref a], []⟩) (fun r s' => r = .ok (.ret (.bool true)) ∧ OldK sY.heap s'.heap ∧ s'.os = sY.os ∧ AllBare s'.gens) sY := by
    intro H tbH onlyT scrL heapK domA kNo
    have inBase : ∀ {ad : Addr} {obx : Obj}, sY.heap.get? ad = some obx → H ad = none → (hidT sY.heap H).get? ad = some obx := fun eq1 n => hidT_get eq1 n
    have noneD : ∀ {ad : Addr} {obx : Obj}, sY.heap.get? ad = some obx → (∀ vs n, obx.data ≠ .seq vs n) → obx.data ≠ .fields #[] → H ad = none := fun {ad obx} eq1 h1 h2 => by
      cases eq2 : H ad with
      | none => rfl
      | some uu =>
        rcases domA ad (by rw [eq2]; simp) with e' | e'
        · rw [e', atA] at eq1
          cases eq1
          exact (h1 _ _ rfl).elim
        · rw [tblAt ad e'] at eq1
          cases eq1
          exact (h2 rfl).elim
    have noneA : ∀ {ad : Addr} {obx : Obj} {ess : Array DictEntry} {epp : Nat}, sY.heap.get? ad = some obx → obx.data = .dict ess epp → H ad = none := fun {ad obx ess epp} eq1 d => by
      refine noneD eq1 (fun vs n ab => ?_) fun ab => ?_
      · rw [d] at ab
        cases ab
      · rw [d] at ab
        cases ab
    have nsUp : ∀ {ad : Addr} {mp : Str → Option Value}, sY.heap.Ns ad mp → (hidT sY.heap H).Ns ad mp := fun {ad mp} ⟨obx, ess, epp, eq1, d, r⟩ => ⟨obx, ess, epp, inBase eq1 (noneA eq1 d), d, r⟩
    have kInB : K.In (hidT sY.heap H) := fun ad obx eq1 => inBase (kIn0 ad obx eq1) (by
      cases eq2 : H ad with
      | none => rfl
      | some uu =>
        rcases domA ad (by rw [eq2]; simp) with e' | e'
        · rw [e'] at eq1 eq2
          rw [kNo (by rw [eq2]; simp)] at eq1
          cases eq1
        · obtain ⟨pr, pm, epp⟩ := List.mem_map.mp e'
          rw [← epp, noT pr pm] at eq1
          cases eq1)
    have modB : L2.Mod K mg (hidT sY.heap H) := ⟨kInB, nsUp nsG, ⟨mb, nsUp nb, bltB⟩, let ⟨mc, h1, h2⟩ := noL; ⟨mc, nsUp h1, h2⟩⟩
    have tbB : ∀ pr ∈ tb, TabB (hidT sY.heap H) mg pr.1 pr.2 := fun pr pm => by
      have hTp := eT pr pm
      refine ⟨?_, ?_, fun ab => ?_⟩
      · obtain ⟨obx, us, file, tf, flags, tg, inF, text, tt, e1, r1, r2, r3, r4, r5, r6, r7, r8, hne⟩ := cdH pr pm
        refine ⟨obx, us, file, tf, flags, tg, inF, text, tt, inBase e1 (noneD e1 (fun vs n ab => ?_) fun ab => ?_), r1, r2, r3, r4, r5, r6, r7, r8, hne⟩
        · rw [r2] at ab
          cases ab
        · rw [r2] at ab
          cases ab
          simp at r3
      · obtain ⟨bmo, ob, b1, b2, b3, b4, b5, b6⟩ := bmF
        have noG : bmo ≠ mainGlobals := fun eq2 => by
          obtain ⟨obx, ess, epp, eq1, hdd, _⟩ := nsG
          rw [eq2, eq1] at b3
          cases b3
          rw [hdd] at b6
          cases b6
        have noP : bmo ≠ pr.2 := fun eq2 => by
          rw [eq2, hTp] at b3
          cases b3
          cases b6
        refine ⟨bmo, ob, b1, b2, noG, noP, inBase b3 (noneD b3 (fun vs n ab => ?_) fun ab => ?_), b4, b5, b6⟩
        · rw [b6] at ab
          cases ab
        · rw [b6] at ab
          cases ab
      · obtain ⟨obx, ess, epp, eq1, hdd, _⟩ := nsG
        rw [ab, hTp] at eq1
        cases eq1
        cases hdd
    have env1 : Env0 P w K mg (hidT sY.heap H) callerA [] sY H := ⟨rfl, modB, fun ad obx eq1 => of_hidT eq1, Nat.le_of_eq (hidT_size _ _), trivial, fun ad nb => absurd (show ad ∈ ([] : List Addr) from nb) (by simp), heapK, .of_eq gen0⟩
    refine codeAny_mono (F _ kInB (nsUp nsG) tbB H env1 tbH scrL) fun r s' h => ?_
    cases r with
    | error eq1 => obtain ⟨_, _, _, _, _, _, _, _, _, _, _, _, ab⟩ := h; exact ab.elim
    | ok fl =>
      cases fl with
      | next => exact False.elim h
      | brk => exact False.elim h
      | cont => exact False.elim h
      | ret uu =>
        obtain ⟨v, H', os, bareG, unt, heapK', r', eq2⟩ := h
        have q' : v = .bl true := eq2
        subst q'
        obtain rfl : uu = Value.bool true := r'
        have stay : ∀ ad obx, ad ∉ tb.map (·.2) → sY.heap.get? ad = some obx → s'.heap.get? ad = some obx := fun ad obx nbb eq1 => by
          cases eq2 : H ad with
          | none => exact unt.keep ad obx eq1 eq2 (by intro ab; exact absurd (show ad ∈ ([] : List Addr) from ab) (by simp)) (by simp)
          | some uu =>
            rcases onlyT ad with ab | ab | ⟨ob, xs, ab⟩
            · rw [eq2] at ab; cases ab
            · exact absurd ab nbb
            · have z2 := unt.frzs ad ob _ ab
              obtain ⟨e1, _⟩ := heapK ad _ ab
              obtain ⟨e2, _⟩ := heapK' ad _ z2
              rw [eq1] at e1; cases e1
              exact e2
        have grew : ∀ pr ∈ tb, ∃ mor : Array Value, s'.heap.get? pr.2 = some { cls := .none, data := .fields mor } := fun pr pm => by
          obtain ⟨mor, ab⟩ := unt.tbls pr.2 #[] (tbH pr pm)
          exact ⟨_, heapK' pr.2 _ ab⟩
        refine ⟨rfl, ⟨fun ad obx eq1 => ?_, fun ad obx eq1 => ?_⟩, os, bareG⟩
        · by_cases nb : ad ∈ tb.map (·.2)
          · obtain ⟨pr, pm, epp⟩ := List.mem_map.mp nb
            obtain ⟨mor, hmo⟩ := grew pr pm
            rw [← epp] at eq1 ⊢
            rw [eT pr pm] at eq1
            cases eq1
            exact .inr (.inl ⟨((cdH pr pm).tab (eT pr pm)).isCodeTable, rfl, #[], mor, rfl, by rw [Array.empty_append]; exact hmo⟩)
          · exact .inl (stay ad obx nb eq1)
        · by_cases nb : ad ∈ tb.map (·.2)
          · obtain ⟨pr, pm, epp⟩ := List.mem_map.mp nb
            obtain ⟨mor, hmo⟩ := grew pr pm
            rw [← epp]
            exact ⟨_, hmo⟩
          · exact ⟨obx, stay ad obx nb eq1⟩
  cases lkK : K.lookup a with
  | some obx =>
    have eq1 := kIn0 a obx lkK
    rw [atA] at eq1
    cases eq1
    refine main (fun ad => if ad ∈ tb.map (·.2) then some (.tbl #[]) else none) (fun pr pm => if_pos (inTb pr pm)) (fun ad => ?_) (.inr ⟨_, vs.toArray, _, lkK, rfl, rfl, rfl, by rw [List.size_toArray, lenR]; exact szN, by simpa using valR⟩) (fun ad uu ab => ?_) (fun ad ab => ?_) fun ab => absurd (show (if a ∈ tb.map (·.2) then some (HO.tbl #[]) else none) = none from if_neg aNot) ab
    · by_cases nb : ad ∈ tb.map (·.2)
      · exact .inr (.inl nb)
      · exact .inl (if_neg nb)
    · by_cases nb : ad ∈ tb.map (·.2)
      · have z' := (if_pos nb).symm.trans ab
        cases z'
        exact tblAt ad nb
      · have z' := (if_neg nb).symm.trans ab
        cases z'
    · by_cases nb : ad ∈ tb.map (·.2)
      · exact .inr nb
      · exact absurd (if_neg nb) ab
  | none =>
    refine main (fun ad => if ad = a then some (.frz { cls := .type "list", data := .seq vs.toArray } (.lst (ns.map V.int))) else if ad ∈ tb.map (·.2) then some (.tbl #[]) else none) (fun pr pm => (if_neg (show ¬ pr.2 = a from fun ab => aNot (by rw [← ab]; exact inTb pr pm))).trans (if_pos (inTb pr pm))) (fun ad => ?_)
      (.inl (.inr ⟨{ cls := .type "list", data := .seq vs.toArray }, if_pos rfl⟩)) (fun ad uu ab => ?_) (fun ad ab => ?_) fun _ => lkK
    · by_cases nb : ad = a
      · exact .inr (.inr ⟨_, _, if_pos nb⟩)
      · by_cases hb3 : ad ∈ tb.map (·.2)
        · exact .inr (.inl hb3)
        · exact .inl ((if_neg nb).trans (if_neg hb3))
    · by_cases nb : ad = a
      · have z' := (if_pos nb).symm.trans ab
        cases z'
        rw [nb]
        exact ⟨atA, by rw [List.length_map]; exact szN, vs, _, valR, atA⟩
      · have z1 := (if_neg nb).symm.trans ab
        by_cases hb3 : ad ∈ tb.map (·.2)
        · have z' := (if_pos hb3).symm.trans z1
          cases z'
          exact tblAt ad hb3
        · have z' := (if_neg hb3).symm.trans z1
          cases z'
    · by_cases nb : ad = a
      · exact .inl nb
      · by_cases hb3 : ad ∈ tb.map (·.2)
        · exact .inr hb3
        · exact absurd ((if_neg nb).trans (if_neg hb3)) ab

end Zl

set_option Elab.async false
set_option linter.all false
set_option maxRecDepth 100000
set_option maxHeartbeats 4000000
/-! Z46: the law runs. -/
namespace Zl
open PySem PySem.Spec PyProof.Rows L2
theorem cells_mem {x : PySem.Str} {a : Addr} : ∀ {names : List (PySem.Str × NameKind)} {n : Nat} {acc : List (PySem.Str × Addr)}, (cellsFrom n names acc).lookup x = some a → (x, NameKind.cell) ∈ names ∨ acc.lookup x = some a
  | [], _, _, h => .inr h
  | (y, k) :: r, n, acc, h => by
    unfold cellsFrom at h
    split at h
    · rename_i hk
      have hk := eq_of_beq hk
      rcases cells_mem h with z | z
      · exact .inl (List.mem_cons_of_mem _ z)
      · rw [List.lookup_cons] at z
        cases q : x == y with
        | true =>
          rw [beq_iff_eq.mp q, ← hk]
          exact .inl List.mem_cons_self
        | false => rw [q] at z; exact .inr z
    · rcases cells_mem h with z | z
      · exact .inl (List.mem_cons_of_mem _ z)
      · exact .inr z
theorem repL_ints {W : Wd} {g : Gh} {H : Hp} : ∀ ns : List Int, RepL W g H (ns.map V.int) (ns.map T.int)
  | [] => .nil
  | n :: ns => .cons (.int n) (repL_ints ns)
/-- what the law's body is to do -/
def lawDn : Dn := ⟨fun _ => False, fun o ρ => (match retv ρ o with
  | some (t, _) => t = .bl true
  | none => False), fun _ => False, fun _ => False, noX⟩
section
variable {nm : Nm} {P : Program} {w : World} {W : Wd} {mg : PySem.Str → Option Value} {k : Nat} {c : Pr} {f cc PP a : Addr} {name qual x : PySem.Str} {params : Arguments} {body : List Stmt} {scope : Scope} {dV kV doc pm ct oc : Value} {an od : Option Addr} {osl : Array (Option Value)} {N : List PySem.Str} {b : Ss} {base : Heap} {s₁ : Shared} {H : Hp} {ns : List Int}
theorem law_go (pf : Pf nm P w W mg [(PP, qual ++ ".<locals>." ++ "<lambda>")] k c) (lk : W.K.lookup f = some ⟨oc, od, .func (PySem.W.fnOf name qual params body scope dV kV doc pm an (.ref cc) ct), osl⟩) (hcd : PySem.W.codeIn W.K (.ref cc) qual = true) (S : FnScope N [x] scope)
    (hcell : ∀ y ∈ scope.names, y.2 = .cell → scope.names.lookup y.1 = some .cell) (ss : SSs nm ⟨N, scope.names, N, true, true⟩ body b) (hle : 1 ≤ N.length) (htb : (cc, PP) ∈ W.tbs)
    (wish : wpSs c b ([.sh (.scr (ns.map T.int))] ++ List.replicate (N.length - 1) .no) lawDn) (hr : Room (k + 2) callerA) (e0 : Env0 P w W.K mg base callerA [] s₁ H) (bo : BaseOk W.tbs mg base) (hP : H PP = some (.tbl #[])) (hS : SqL W.K H a (ns.map V.int))
    (hbind : BindsTo s₁ (PySem.W.fnOf name qual params body scope dV kV doc pm an (.ref cc) ct) ⟨[.ref a], []⟩ [(x, .ref a)]) :
    codeAny (model P w) callerA (.call (.ref f) ⟨[.ref a], []⟩) (CR (L2.CX P w) [] P w H s₁ (fun v _ => v = .bl true) fun _ _ _ => False) s₁ := by
  refine LamX.run_ofS (CX := L2.CX P w) (us := [.ref a]) (vs := [.ref a]) lk hcd S hr e0 hbind (.cons rfl .nil) rfl fun hr2 => ⟨_, pss_sw, ?_⟩
  let X : Cx := cxOf (L2.CX P w) P w W.K mg base N qual scope f (.ref cc) callerA [] s₁ H (fun _ _ _ => False)
  let B : Fb := ⟨H, fun b => b = a ∧ ∃ vs, H a = some (.lst vs), true, fun _ => False, [], N, X.env.cells, [(PP, qual ++ ".<locals>." ++ "<lambda>")]⟩
  have e1 : (L2.start N [V.ref a])[0]? = some (some (.ref a)) := start_get rfl
  have slot0 : ∀ (i : Nat) u, ([Slot.sh (.scr (ns.map T.int))] ++ List.replicate (N.length - 1) Slot.no)[i]? = some u → (i = 0 ∧ u = .sh (.scr (ns.map T.int))) ∨ u = .no := fun i u h => by
    cases i with
    | zero => simp at h; exact .inl ⟨rfl, h.symm⟩
    | succ i =>
      rw [List.getElem?_append_right (by simp)] at h
      exact .inr (List.eq_of_mem_replicate (List.mem_of_getElem? h))
  have st : Sr W B ⟨B.S0, []⟩ ([.sh (.scr (ns.map T.int))] ++ List.replicate (N.length - 1) .no) (L2.start N [V.ref a]) H := by
    refine ⟨?_, ⟨fun a o h _ _ => h, fun b ⟨e, vs, h⟩ => (by subst e; exact ⟨_, h, fun ps z => by cases z⟩), fun a h => .inl h, fun p hp => ?_, fun a ps h => ⟨ps, h⟩, fun a z => z.elim⟩, fun i u h => ?_, fun i j a n x y => ?_, fun p hp => .inl hp⟩
    · unfold L2.start
      simp
    · rw [List.mem_singleton] at hp
      subst hp
      exact LamX.TabS.nil hP
    · rcases slot0 i u h with ⟨e, q⟩ | q
      · subst e; subst q
        refine ⟨.ref a, e1, .scr ?_ (repL_ints ns)⟩
        rcases hS with (h | h) | h
        · exact .inl ⟨⟨rfl, _, h⟩, h⟩
        · exact .inr (.inl h)
        · exact .inr (.inr h)
      · subst q; trivial
    · obtain ⟨⟨u, h1, h2⟩, _⟩ := x
      rcases slot0 i u h1 with ⟨_, q⟩ | q <;> subst q <;> cases h2
  have ok : Cok nm ⟨N, scope.names, N, true, true⟩ X W B k c (fun cls d _ H => False) := by
    refine ⟨rfl, rfl, rfl, S.nd, hr2, rfl, pf, rfl, S.kind, fun x _ => .inl rfl, bo, (fun p hp => by cases hp), rfl, (fun _ => rfl), (fun _ x a h => ?_), (fun _ x a h z => by cases z), ?_, (fun _ => ⟨rfl, cc, PP, rfl, htb, List.mem_cons_self, fun p hp _ => by rw [List.mem_singleton] at hp; rw [hp]; rfl⟩), fun _ => ⟨rfl, rfl⟩⟩
    · rcases cells_mem h with z | z
      · exact .inl (hcell _ z rfl)
      · cases z
    · exact takes_of (X := X) rfl rfl rfl rfl
  have po : PassesOwn (model X.prog X.w) X.A X.env X.xe := passes_of (X := X) rfl
  refine ss ok po st wish ⟨fun _ _ _ _ q => q.elim, fun _ _ _ _ q => q.elim, fun _ _ _ _ q => q.elim, fun o ρ' σ' H' g' v q k' s' r => ?_⟩ fun n fs q => q.elim
  have q : (match retv ρ' o with
    | some (t, _) => t = .bl true
    | none => False) := q
  show v = .bl true
  split at q
  · rename_i t fr er
    subst q
    unfold retv at er
    split at er
    · cases er
      cases fr with
      | false =>
        have r' : Rep W g' H' v (.bl true) := r
        cases r'; rfl
      | true => obtain ⟨_, _, _, w, _⟩ := r; exact w.elim
    · rename_i i
      have ri : σ'[i]? = some (some v) := r
      split at er
      · rename_i t' e0
        cases er
        obtain ⟨v', ev, rr⟩ := s'.sl i _ e0
        rw [ri] at ev; cases ev
        cases rr; rfl
      · rename_i t' e0
        cases er
        obtain ⟨v', ev, rr⟩ := s'.sl i _ e0
        rw [ri] at ev; cases ev
        cases rr; rfl
      · rename_i t' e0
        cases er
        obtain ⟨_, _, _, w, _⟩ := s'.sl i _ e0
        exact w.elim
      · cases er
  · exact q.elim
end
theorem walk_Y {l : PySem.W.OpenLaw} {n : Nat} {q : Program} {loose : List PySem.Str} {XP : (PySem.Str → Option Value) → Heap → Prop} {YP : World → Heap → Prop} {d : DefRec} (hn : l.most = some n) (hn2 : n ≤ sizeLine) (hdf : d.params.defaults = [])
    (F : ∀ (w : World) (mg : PySem.Str → Option Value) (fa : Addr) (h : Heap), YP w h → h.Ns mainGlobals mg → mg d.name = some (.ref fa) → ∃ (K : PySem.W.Frag) (cs : List (Addr × Addr)), K.In h ∧ (∀ p ∈ cs, h.get? p.2 = some { cls := .none, data := .fields #[] }) ∧ (∀ p ∈ cs, K.lookup p.2 = none) ∧ (∀ p ∈ cs, PySem.W.CodeHd h p.1 p.2) ∧
      ∀ ns : List Int, ns.length ≤ n → (∀ z ∈ ns, Builtin.Int.intBits z ≤ 1048576) → ∀ (base : Heap) (s₁ : Shared) (H : Hp) (a : Addr), K.In base → (∀ p ∈ cs, LamX.TabB base mg p.1 p.2) → Env0 l.prog w K mg base callerA [] s₁ H → (∀ p ∈ cs, H p.2 = some (.tbl #[])) → SqL K H a (ns.map V.int) →
        codeAny (model l.prog w) callerA (.call (.ref fa) ⟨[.ref a], []⟩) (CR (L2.CX l.prog w) [] l.prog w H s₁ (fun v _ => v = .bl true) fun _ _ _ => False) s₁) :
    PySem.W.WalkO q loose XP YP l.row.toRowW d [] (fun f vs => PySem.call f vs) := by
  refine Att.attach_callB hn hdf fun w sA sB mg mb fa ob pm cd doc ad vs ns G Y eo hd hcd hmg hobj hints hlen hbits hg => ?_
  obtain ⟨K, cs, KX, hT, nT, C, go⟩ := F w mg fa _ Y G.T.g hmg
  exact law_callY KX G.T.g G.T.b G.T.builtins G.T.nolimit hg hT nT C G.T.bmain hobj hints (Nat.le_trans hlen hn2) fun base kb _ tb H e0 hP hS => go ns hlen hbits base _ H ad kb tb e0 hP hS
end Zl

set_option Elab.async false
set_option linter.all false
set_option maxRecDepth 100000
set_option maxHeartbeats 4000000
/-! Z47: helpers of the laws. -/
namespace Zl
open PySem PySem.Spec PyProof.Rows L2
theorem fnO_lookup : ∀ (l : List Tf) (L : List (PySem.Str × Fn)) (f : PySem.Str), L = l.map (fun t => (t.nm, t.fn)) → (fnO l f).map Tf.fn = L.lookup f
  | [], L, f, h => by subst h; rfl
  | t :: l, L, f, h => by
    subst h
    rw [List.map_cons, List.lookup_cons]
    unfold fnO
    rw [List.find?_cons]
    cases q : f == t.nm with
    | true =>
      have : t.nm = f := (beq_iff_eq.mp q).symm
      rw [this]; simp
    | false =>
      have : ¬ t.nm = f := fun z => by rw [z] at q; simp at q
      simp only [decide_eq_false this]
      exact fnO_lookup l _ f rfl
end Zl

set_option Elab.async false
set_option linter.all false
set_option maxRecDepth 100000
set_option maxHeartbeats 4000000
/-! Z48: terms that only tell a value. -/
namespace Zl
open PySem
/-- e tells t, and nothing changes (fr = false: no new list or dict) -/
def Ev (fr : Bool) (c : Pr) (e : E) (ρ : Env) (t : T) : Prop := ∀ (K : KE') (X : KX), (∀ o, rd ρ o = some t → fz ρ o = some (t, ρ) → (fr = false → (∀ i, free ρ i = true → put ρ i o = some (ρ.set i (.sh t))) ∧ retv ρ o = some (t, false)) → K o ρ) → wpE c e ρ K X
/-- .. as a test -/
def Bv (c : Pr) (e : E) (ρ : Env) (k : Bool) : Prop := ∀ (K : Bool → Env → Prop) (X : KX), K k ρ → wpB c e ρ K X
section
variable {fa fb fd : Bool} {c : Pr} {ρ : Env} {a b e : E} {t u : T} {i : Nat}
theorem Ev.val {t : T} {f : Bool} {K : KE'} (h : ∀ o, rd ρ o = some t → fz ρ o = some (t, ρ) → (f = false → (∀ i, free ρ i = true → put ρ i o = some (ρ.set i (.sh t))) ∧ retv ρ o = some (t, false)) → K o ρ) : K (.val t f) ρ := h _ rfl rfl fun e => by
  subst e
  exact ⟨fun i hf => by unfold put; simp [hf], rfl⟩
theorem put_slot {j : Nat} (h : fz ρ (.slot j) = some (t, ρ)) : ∀ i, free ρ i = true → put ρ i (.slot j) = some (ρ.set i (.sh t)) := fun i hf => by
  unfold put
  dsimp only
  rw [h]
  simp [hf]
theorem ev_sh (h : ρ[i]? = some (.sh t)) : Ev false c (.nm i) ρ t := fun K X q => by
  unfold wpE
  rw [h]
  exact q _ (by unfold rd; simp [h]) (by unfold fz; simp [h]) fun _ => ⟨put_slot (by unfold fz; simp [h]), by unfold retv; simp [h]⟩
theorem ev_lk (h : ρ[i]? = some (.lk t)) : Ev false c (.nm i) ρ t := fun K X q => by
  unfold wpE
  rw [h]
  exact q _ (by unfold rd; simp [h]) (by unfold fz; simp [h]) fun _ => ⟨put_slot (by unfold fz; simp [h]), by unfold retv; simp [h]⟩
theorem ev_int {z : Int} : Ev false c (.int z) ρ (.int z) := fun K X q => by unfold wpE; exact Ev.val q
theorem ev_str {z : PySem.Str} : Ev false c (.str z) ρ (.str z) := fun K X q => by unfold wpE; exact Ev.val q
theorem ev_bl {z : Bool} : Ev false c (.bl z) ρ (.bl z) := fun K X q => by unfold wpE; exact Ev.val q
theorem ev_non : Ev false c .non ρ .non := fun K X q => by unfold wpE; exact Ev.val q
theorem ev_one {K : T → Prop} {o : Opd} (h : rd ρ o = some t) (q : K t) : one ρ o K := by unfold one; rw [h]; exact q
theorem ev_two {K : T → T → Prop} {o1 o2 : Opd} (h1 : rd ρ o1 = some t) (h2 : rd ρ o2 = some u) (q : K t u) : two ρ o1 o2 K := by unfold two; rw [h1, h2]; exact q
theorem ev_bin {op : Bop} {r : T} {f : Bool} (ha : Ev fa c a ρ t) (hb : Ev fb c b ρ u) (h : ∀ Q : KV, Q r f → opR op t u Q) : Ev f c (.bin op a b) ρ r := fun K X q => by
  unfold wpE
  exact ha _ _ fun o1 h1 _ _ => hb _ _ fun o2 h2 _ _ => ev_two h1 h2 (h _ (Ev.val q))
theorem ev_add {x y : Int} (ha : Ev fa c a ρ (.int x)) (hb : Ev fb c b ρ (.int y)) : Ev false c (.bin .add a b) ρ (.int (x + y)) := ev_bin (f := false) ha hb fun Q q => q
theorem ev_sub {x y : Int} (ha : Ev fa c a ρ (.int x)) (hb : Ev fb c b ρ (.int y)) : Ev false c (.bin .sub a b) ρ (.int (x - y)) := ev_bin (f := false) ha hb fun Q q => q
theorem ev_mul {x y : Int} (ha : Ev fa c a ρ (.int x)) (hb : Ev fb c b ρ (.int y)) (h : IntMulOk x y) : Ev false c (.bin .mul a b) ρ (.int (x * y)) := ev_bin (f := false) ha hb fun Q q => ⟨h, q⟩
theorem ev_fdiv {x y : Int} (ha : Ev fa c a ρ (.int x)) (hb : Ev fb c b ρ (.int y)) (h : y ≠ 0 ∧ y.natAbs.log2 < 9000) : Ev false c (.bin .fdiv a b) ρ (.int (x.fdiv y)) := ev_bin (f := false) ha hb fun Q q => ⟨h, q⟩
theorem ev_mod {x y : Int} (ha : Ev fa c a ρ (.int x)) (hb : Ev fb c b ρ (.int y)) (h : y ≠ 0) : Ev false c (.bin .mod a b) ρ (.int (x.fmod y)) := ev_bin (f := false) ha hb fun Q q => ⟨h, q⟩
theorem ev_pow {x y : Int} (ha : Ev fa c a ρ (.int x)) (hb : Ev fb c b ρ (.int y)) (h : 0 ≤ y ∧ y ≤ 1000000 ∧ x.natAbs < 2 ^ 64) : Ev false c (.bin .pow a b) ρ (.int (x ^ y.toNat)) := ev_bin (f := false) ha hb fun Q q => ⟨h, q⟩
theorem ev_neg {x : Int} (ha : Ev fa c a ρ (.int x)) : Ev false c (.neg a) ρ (.int (-x)) := fun K X q => by
  unfold wpE
  exact ha _ _ fun o h _ _ => ev_one h (Ev.val q)
theorem ev_not {k : Bool} (ha : Ev fa c a ρ t) (h : tru t = some k) : Ev false c (.not a) ρ (.bl (!k)) := fun K X q => by
  unfold wpE
  exact ha _ _ fun o ho _ _ => ev_one ho (by rw [h]; exact Ev.val q)
def notIns : T → Bool
  | .ins _ _ => false
  | _ => true
theorem cmpI_of {op : Cop} {o1 o2 : Opd} {Q : Bool → Env → Prop} {X : KX} (hn : notIns t = true) (h1 : rd ρ o1 = some t) (h2 : rd ρ o2 = some u) (h : cmpR op t u fun k => Q k ρ) : cmpI c op ρ o1 o2 Q X := by
  unfold cmpI
  refine ev_two h1 h2 ?_
  cases t <;> first | (cases op <;> exact h) | cases hn
theorem ev_cmp {op : Cop} {k : Bool} (hn : notIns t = true) (ha : Ev fa c a ρ t) (hb : Ev fb c b ρ u) (h : ∀ Q : Bool → Prop, Q k → cmpR op t u Q) : Ev false c (.cmp op a b) ρ (.bl k) := fun K X q => by
  unfold wpE
  exact ha _ _ fun o1 h1 _ _ => hb _ _ fun o2 h2 _ _ => cmpI_of hn h1 h2 (h _ (Ev.val q))
theorem bv_cmp {op : Cop} {k : Bool} (hn : notIns t = true) (ha : Ev fa c a ρ t) (hb : Ev fb c b ρ u) (h : ∀ Q : Bool → Prop, Q k → cmpR op t u Q) : Bv c (.cmp op a b) ρ k := fun K X q => by
  unfold wpB
  exact ha _ _ fun o1 h1 _ _ => hb _ _ fun o2 h2 _ _ => cmpI_of hn h1 h2 (h _ q)
theorem cr_lt {x y : Int} : ∀ Q : Bool → Prop, Q (decide (x < y)) → cmpR .lt (.int x) (.int y) Q := fun _ q => q
theorem cr_gt {x y : Int} : ∀ Q : Bool → Prop, Q (decide (y < x)) → cmpR .gt (.int x) (.int y) Q := fun _ q => q
theorem cr_ge {x y : Int} : ∀ Q : Bool → Prop, Q (decide (y ≤ x)) → cmpR .ge (.int x) (.int y) Q := fun _ q => q
theorem cr_le {x y : Int} : ∀ Q : Bool → Prop, Q (decide (x ≤ y)) → cmpR .le (.int x) (.int y) Q := fun _ q => q
def notStr : T → Bool
  | .str _ => false
  | _ => true
theorem cr_eq {d d' : PyData} (hs : notStr t = true) (h1 : t.pd = some d) (h2 : u.pd = some d') (s1 : SeqAt.shaped d = true) (s2 : SeqAt.shaped d' = true) : ∀ Q : Bool → Prop, Q (PyData.eqv d d') → cmpR .eq t u Q := fun Q q => by
  show eqR t u Q
  unfold eqR
  split
  · cases hs
  · rw [h1, h2]
    exact ⟨s1, s2, q⟩
theorem cr_ne {d d' : PyData} (hs : notStr t = true) (h1 : t.pd = some d) (h2 : u.pd = some d') (s1 : SeqAt.shaped d = true) (s2 : SeqAt.shaped d' = true) : ∀ Q : Bool → Prop, Q (!PyData.eqv d d') → cmpR .ne t u Q := fun Q q => by
  show eqR t u fun k => Q !k
  unfold eqR
  split
  · cases hs
  · rw [h1, h2]
    exact ⟨s1, s2, q⟩
theorem cr_eqI {x y : Int} : ∀ Q : Bool → Prop, Q (x == y) → cmpR .eq (.int x) (.int y) Q := cr_eq (d := .int x) (d' := .int y) rfl rfl rfl rfl rfl
theorem cr_neI {x y : Int} : ∀ Q : Bool → Prop, Q (!(x == y)) → cmpR .ne (.int x) (.int y) Q := cr_ne (d := .int x) (d' := .int y) rfl rfl rfl rfl rfl
theorem cr_eqS {x y : PySem.Str} : ∀ Q : Bool → Prop, Q (x == y) → cmpR .eq (.str x) (.str y) Q := fun _ q => q
theorem cr_neS {x y : PySem.Str} : ∀ Q : Bool → Prop, Q (!(x == y)) → cmpR .ne (.str x) (.str y) Q := fun _ q => q
theorem bv_not {k : Bool} (ha : Bv c a ρ k) : Bv c (.not a) ρ (!k) := fun K X q => by
  unfold wpB
  exact ha _ _ q
theorem ev_and {k : Bool} (ha : Ev fa c a ρ t) (ht : tru t = some k) (hb : k = true → Ev fb c b ρ u) (h0 : k = false → fa = false ∧ t = u) : Ev (k && fb) c (.and a b) ρ u := fun K X q => by
  unfold wpE
  refine ha _ _ fun o1 h1 h2 h3 => ev_one h1 ⟨k, ht, fun e => ?_, fun e => ?_⟩
  · subst e
    exact hb rfl _ _ q
  · subst e
    obtain ⟨e1, e2⟩ := h0 rfl
    subst e2
    exact q _ h1 h2 fun _ => h3 e1
theorem ev_or {k : Bool} (ha : Ev fa c a ρ t) (ht : tru t = some k) (hb : k = false → Ev fb c b ρ u) (h0 : k = true → fa = false ∧ t = u) : Ev (!k && fb) c (.or a b) ρ u := fun K X q => by
  unfold wpE
  refine ha _ _ fun o1 h1 h2 h3 => ev_one h1 ⟨k, ht, fun e => ?_, fun e => ?_⟩
  · subst e
    obtain ⟨e1, e2⟩ := h0 rfl
    subst e2
    exact q _ h1 h2 fun _ => h3 e1
  · subst e
    exact hb rfl _ _ q
theorem bv_and {k l : Bool} (ha : Bv c a ρ k) (hb : k = true → Bv c b ρ l) (h0 : k = false → l = false) : Bv c (.and a b) ρ l := fun K X q => by
  unfold wpB
  refine ha _ _ ⟨fun e => hb e _ _ q, fun e => ?_⟩
  rw [h0 e] at q; exact q
theorem bv_or {k l : Bool} (ha : Bv c a ρ k) (hb : k = false → Bv c b ρ l) (h0 : k = true → l = true) : Bv c (.or a b) ρ l := fun K X q => by
  unfold wpB
  refine ha _ _ ⟨fun e => ?_, fun e => hb e _ _ q⟩
  rw [h0 e] at q; exact q
theorem ev_isi {cs : List Cl} (ha : Ev fa c a ρ t) (h : tyOk t = true) : Ev false c (.isi a cs) ρ (.bl (cs.any (isaT c t))) := fun K X q => by
  unfold wpE
  exact ha _ _ fun o ho _ _ => ev_one ho ⟨h, Ev.val q⟩
theorem bv_isi {cs : List Cl} (ha : Ev fa c a ρ t) (h : tyOk t = true) : Bv c (.isi a cs) ρ (cs.any (isaT c t)) := fun K X q => by
  unfold wpB
  exact ev_isi ha h _ _ fun o ho _ _ => ev_one ho q
theorem ev_ix {x : T} (ha : Ev fa c a ρ t) (hb : Ev fb c b ρ u) (h : ∀ Q : T → Prop, Q x → ixR t u Q) : Ev false c (.ix a b) ρ x := fun K X q => by
  unfold wpE
  exact ha _ _ fun o1 h1 _ _ => hb _ _ fun o2 h2 _ _ => ev_two h1 h2 (h _ (Ev.val q))
theorem ir_tup {xs : List T} {z : Int} {x : T} (h : L2.atI xs z = some x) : ∀ Q : T → Prop, Q x → ixR (.tup xs) (.int z) Q := fun Q q => ⟨x, h, q⟩
theorem ir_lst {xs : List T} {z : Int} {x : T} (h : L2.atI xs z = some x) : ∀ Q : T → Prop, Q x → ixR (.lst xs) (.int z) Q := fun Q q => ⟨x, h, q⟩
/-- what a name holds, alone or not -/
def hold (ρ : Env) (i : Nat) : Option T := rd ρ (.slot i)
theorem ev_dix {kvs : List (Key × T)} {k : PySem.Str} {x : T} (h : ρ[i]? = some (.io (.dct kvs)) ∨ ρ[i]? = some (.ow (.dct kvs))) (hk : dlook kvs (.inr k) = some x) : Ev false c (.ix (.nm i) (.str k)) ρ x := fun K X q => by
  unfold wpE
  have r : rd ρ (.slot i) = some (.dct kvs) := by
    rcases h with h | h <;> (unfold rd; simp [h])
  have go : ∀ K' : KE', K' (.slot i) ρ → wpE c (.nm i) ρ K' X := fun K' z => by
    unfold wpE
    rcases h with h | h <;> (rw [h]; exact z)
  refine go _ ?_
  unfold wpE
  exact ev_two r rfl ⟨x, hk, Ev.val q⟩
theorem ev_blt1 {bt : Blt} {r : T} {f : Bool} (ha : Ev fa c a ρ t) (h : ∀ Q : KV, Q r f → bltR bt [t] Q) : Ev f c (.blt bt (.cons a .nil)) ρ r := fun K X q => by
  unfold wpE
  unfold wpEs
  refine ha _ _ fun o ho _ _ => ?_
  unfold wpEs
  dsimp only [rds]
  rw [ho]
  exact h _ (Ev.val q)
theorem ev_blt2 {bt : Blt} {r : T} {f : Bool} (ha : Ev fa c a ρ t) (hb : Ev fb c b ρ u) (h : ∀ Q : KV, Q r f → bltR bt [t, u] Q) : Ev f c (.blt bt (.cons a (.cons b .nil))) ρ r := fun K X q => by
  unfold wpE
  unfold wpEs
  refine ha _ _ fun o ho _ _ => ?_
  unfold wpEs
  refine hb _ _ fun o2 ho2 _ _ => ?_
  unfold wpEs
  dsimp only [rds]
  rw [ho, ho2]
  exact h _ (Ev.val q)
theorem ev_ite {d : E} {k : Bool} (hd : Bv c d ρ k) (h1 : k = true → Ev fa c a ρ t) (h2 : k = false → Ev fa c b ρ t) : Ev fa c (.ite d a b) ρ t := fun K X q => by
  unfold wpE
  exact hd _ _ ⟨fun e => h1 e _ _ q, fun e => h2 e _ _ q⟩
/-- a row of terms that only tell values -/
inductive Evs (c : Pr) (ρ : Env) : Es → List T → Prop
  | nil : Evs c ρ .nil []
  | cons {e : E} {es : Es} {t : T} {ts : List T} {fe : Bool} (h : Ev fe c e ρ t) (hs : Evs c ρ es ts) : Evs c ρ (.cons e es) (t :: ts)
theorem Evs.wp : ∀ {es : Es} {ts : List T}, Evs c ρ es ts → ∀ {K : List Opd → Env → Prop} {X : KX}, (∀ os, rds ρ os = some ts → fzs ρ os = some (ts, ρ) → os.length = ts.length → K os ρ) → wpEs c es ρ K X
  | _, _, .nil, K, X, q => by unfold wpEs; exact q [] rfl rfl rfl
  | _, _, .cons h hs, K, X, q => by
    unfold wpEs
    refine h _ _ fun o h1 h2 _ => hs.wp fun os r1 r2 r3 => q _ ?_ ?_ ?_
    · dsimp only [rds]; rw [h1, r1]
    · dsimp only [fzs]; rw [h2]; dsimp only; rw [r2]
    · rw [List.length_cons, List.length_cons, r3]
theorem ev_tup {es : Es} {ts : List T} (h : Evs c ρ es ts) : Ev false c (.tup es) ρ (.tup ts) := fun K X q => by
  unfold wpE
  refine h.wp fun os _ h2 _ => ?_
  rw [h2]
  exact Ev.val q
theorem ev_lst {es : Es} {ts : List T} (h : Evs c ρ es ts) : Ev true c (.lst es) ρ (.lst ts) := fun K X q => by
  unfold wpE
  refine h.wp fun os _ h2 _ => ?_
  rw [h2]
  exact Ev.val q
/-! ### calls -/
/-- no operand is a dict that its name holds -/
theorem cargs_of : ∀ {os : List Opd} {ts : List T}, fzs ρ os = some (ts, ρ) → (∀ (i : Nat), os.head? = some (.slot i) → (∃ t, ρ[i]? = some (.sh t)) ∨ ∃ t, ρ[i]? = some (.lk t)) → cargs ρ os = some (ts.map .sh, ρ) := by
  intro os ts h hh
  cases os with
  | nil => dsimp only [fzs] at h; cases h; rfl
  | cons o os =>
    dsimp only [fzs] at h
    cases e1 : fz ρ o with
    | none => rw [e1] at h; cases h
    | some p =>
      obtain ⟨t, ρ1⟩ := p
      rw [e1] at h
      dsimp only at h
      cases e2 : fzs ρ1 os with
      | none => rw [e2] at h; cases h
      | some p2 =>
        obtain ⟨us, ρ2⟩ := p2
        rw [e2] at h
        cases h
        have e0 : ρ1 = ρ := by
          cases o with
          | val t f => unfold fz at e1; cases e1; rfl
          | slot i =>
            rcases hh i rfl with ⟨u, q⟩ | ⟨u, q⟩ <;> (unfold fz at e1; simp [q] at e1; exact e1.2.symm)
        subst e0
        dsimp only [cargs]
        rw [e2]
        dsimp only
        cases o with
        | val t f => rw [e1]; rfl
        | slot i =>
          rcases hh i rfl with ⟨u, q⟩ | ⟨u, q⟩
          · simp [q, e1]
          · simp [q, e1]
theorem back_of {os : List Opd} {io : Option T} (hh : ∀ (i : Nat), os.head? = some (.slot i) → (∃ t, ρ[i]? = some (.sh t)) ∨ ∃ t, ρ[i]? = some (.lk t)) : back ρ os io = ρ := by
  cases os with
  | nil => rfl
  | cons o os =>
    cases o with
    | val t f => rfl
    | slot i =>
      rcases hh i rfl with ⟨u, q⟩ | ⟨u, q⟩ <;> (cases io <;> simp [back, lost, q])
theorem get_set_eqZ {s s0 : Slot} (h : ρ[i]? = some s0) : (ρ.set i s)[i]? = some s := by
  rw [List.getElem?_set_self (List.getElem?_eq_some_iff.mp h).1]
theorem ev_head {i : Nat} (h1 : fz ρ (.slot i) = some (t, ρ)) : (∃ t, ρ[i]? = some (.sh t)) ∨ ∃ t, ρ[i]? = some (.lk t) := by
  unfold fz at h1
  dsimp only at h1
  split at h1
  · rename_i u e; exact .inl ⟨u, e⟩
  · rename_i u e; exact .inr ⟨u, e⟩
  · rename_i u e
    simp at h1
    have := h1.2
    have z := get_set_eqZ (ρ := ρ) (i := i) (s := .sh u) e
    rw [this, e] at z; cases z
  · cases h1
end
end Zl

set_option Elab.async false
set_option linter.all false
set_option maxRecDepth 100000
set_option maxHeartbeats 4000000
/-! Z49: calls and statements over told values. -/
namespace Zl
open PySem
/-- a call that tells r, whatever it is used for -/
def Cv (fr : Bool) (c : Pr) (f : PySem.Str) (sl : List Slot) (r : T) : Prop := ∀ (Q : KR) (X : KX), (∀ io, Q r fr io) → c.call f sl Q X
/-- a call that raises -/
def Cx' (c : Pr) (f : PySem.Str) (sl : List Slot) (n : PySem.Str) (fs : List (PySem.Str × T)) : Prop := ∀ (Q : KR) (X : KX), X n fs → c.call f sl Q X
section
variable {fa fb fd : Bool} {c : Pr} {ρ : Env} {a b e : E} {t u : T} {i : Nat}
/-- rows of terms, none of them a dict that its name holds -/
theorem Evs.call : ∀ {es : Es} {ts : List T}, Evs c ρ es ts → ∀ {K : List Opd → Env → Prop} {X : KX}, (∀ os, cargs ρ os = some (ts.map .sh, ρ) → (∀ io, back ρ os io = ρ) → K os ρ) → wpEs c es ρ K X
  | _, _, .nil, K, X, q => by unfold wpEs; exact q [] rfl fun _ => rfl
  | _, _, .cons h hs, K, X, q => by
    unfold wpEs
    refine h _ _ fun o h1 h2 _ => hs.wp fun os r1 r2 r3 => ?_
    have hh : ∀ (i : Nat), (o :: os).head? = some (.slot i) → (∃ t, ρ[i]? = some (.sh t)) ∨ ∃ t, ρ[i]? = some (.lk t) := fun i hi => by
      simp at hi
      subst hi
      exact ev_head h2
    refine q _ (cargs_of (ts := _ :: _) ?_ hh) fun io => back_of hh
    dsimp only [fzs]
    rw [h2]
    dsimp only
    rw [r2]
theorem ev_call {f : PySem.Str} {es : Es} {ts : List T} {fr : Bool} (h : Evs c ρ es ts) (hc : Cv fr c f (ts.map .sh) t) : Ev fr c (.call f es) ρ t := fun K X q => by
  unfold wpE
  refine h.call fun os h1 h2 => ?_
  rw [h1]
  refine hc _ _ fun io => ?_
  rw [h2]
  exact Ev.val q
/-- .. that raises -/
theorem ex_call {f : PySem.Str} {es : Es} {ts : List T} {n : PySem.Str} {fs : List (PySem.Str × T)} {K : KE'} {X : KX} (h : Evs c ρ es ts) (hc : Cx' c f (ts.map .sh) n fs) (q : X n fs) : wpE c (.call f es) ρ K X := by
  unfold wpE
  refine h.call fun os h1 h2 => ?_
  rw [h1]
  exact hc _ _ q
/-- .. a test -/
theorem bv_val {k : Bool} (he : ∀ (K : Bool → Env → Prop) (X : KX), wpB c e ρ K X = wpE c e ρ (fun o ρ1 => one ρ1 o fun x => match tru x with
    | some k => K k ρ1
    | none => False) X) (ha : Ev fa c e ρ t) (h : tru t = some k) : Bv c e ρ k := fun K X q => by
  rw [he]
  exact ha _ _ fun o ho _ _ => ev_one ho (by rw [h]; exact q)
theorem bv_call {f : PySem.Str} {es : Es} {ts : List T} {fr k : Bool} (h : Evs c ρ es ts) (hc : Cv fr c f (ts.map .sh) t) (ht : tru t = some k) : Bv c (.call f es) ρ k := bv_val (fun K X => by unfold wpB; rfl) (ev_call h hc) ht
/-! ### statements -/
variable {s : S} {ss : Ss} {D : Dn}
theorem ws_set (h : Ev false c e ρ t) (hf : free ρ i = true) (q : wpSs c ss (ρ.set i (.sh t)) D) : wpSs c (.cons (.asg (.tg (.nm i)) e) ss) ρ D := by
  unfold wpSs
  unfold wpS
  refine h _ _ fun o h1 h2 h3 => ?_
  unfold wpX
  dsimp only
  rw [(h3 rfl).1 i hf]
  exact q
theorem ws_ret (h : Ev false c e ρ t) (q : ∀ o, retv ρ o = some (t, false) → D.rt o ρ) : wpSs c (.cons (.ret e) ss) ρ D := by
  unfold wpSs
  unfold wpS
  exact h _ _ fun o h1 h2 h3 => q o (h3 rfl).2
theorem ws_if {x y : Ss} {k : Bool} (h : Bv c e ρ k) (h1 : k = true → wpSs c x ρ { D with nx := fun ρ1 => wpSs c ss ρ1 D }) (h0 : k = false → wpSs c y ρ { D with nx := fun ρ1 => wpSs c ss ρ1 D }) : wpSs c (.cons (.if_ e x y) ss) ρ D := by
  unfold wpSs
  unfold wpS
  exact h _ _ ⟨h1, h0⟩
theorem ws_nil (h : D.nx ρ) : wpSs c .nil ρ D := by unfold wpSs; exact h
theorem ws_raise {n : PySem.Str} {es : Es} {ts : List T} {fs : List PySem.Str} (h : Evs c ρ es ts) (hx : c.exf n = some fs) (hl : fs.length = ts.length) (q : D.xx n (fs.zip ts)) : wpSs c (.cons (.raise n es) ss) ρ D := by
  unfold wpSs
  unfold wpS
  refine h.wp fun os _ h2 _ => ?_
  rw [h2, hx]
  exact ⟨hl, q⟩
/-- a def that tells r -/
theorem cv_fn {g : Pg} {n : Nat} {f : PySem.Str} {d : Fn} {sl : List Slot} {r : T} {fr : Bool} (hf : g.fn f = some d) (hl : sl.length = d.ps) (h : ∀ D : Dn, (∀ ρ o, retv ρ o = some (r, fr) → D.rt o ρ) → wpSs (g.at n) d.body (sl ++ List.replicate (d.n - d.ps) .no) D) : Cv fr (g.at (n + 1)) f sl r := fun Q X q => by
  show (match g.fn f with
    | some d => wpFn (g.at n) d sl Q X
    | none => False)
  rw [hf]
  refine ⟨hl, h _ fun ρ o e => ?_⟩
  dsimp only
  rw [e]
  exact q _
theorem cx_fn {g : Pg} {n : Nat} {f : PySem.Str} {d : Fn} {sl : List Slot} {nm : PySem.Str} {fs : List (PySem.Str × T)} (hf : g.fn f = some d) (hl : sl.length = d.ps) (h : ∀ D : Dn, D.xx nm fs → wpSs (g.at n) d.body (sl ++ List.replicate (d.n - d.ps) .no) D) : Cx' (g.at (n + 1)) f sl nm fs := fun Q X q => by
  show (match g.fn f with
    | some d => wpFn (g.at n) d sl Q X
    | none => False)
  rw [hf]
  exact ⟨hl, h _ q⟩
end
end Zl

set_option Elab.async false
set_option linter.all false
set_option maxRecDepth 100000
set_option maxHeartbeats 4000000
/-! Z50: dicts that their names hold, loops. -/
namespace Zl
open PySem
section
variable {fa fb fd fe : Bool} {c : Pr} {ρ : Env} {a b e : E} {t u : T} {i j : Nat} {s : S} {ss : Ss} {D : Dn} {K : KE'} {X : KX} {kvs : List (Key × T)}
/-- the slot of a dict that a name holds: its own, or the caller's -/
def pS (o : Bool) (kvs : List (Key × T)) : Slot := match o with
  | true => .ow (.dct kvs)
  | false => .io (.dct kvs)
theorem pS_rd {o : Bool} (h : ρ[i]? = some (pS o kvs)) : rd ρ (.slot i) = some (.dct kvs) := by
  cases o <;> (unfold rd; simp [h, pS])
theorem wp_pnm {o : Bool} (h : ρ[i]? = some (pS o kvs)) (q : K (.slot i) ρ) : wpE c (.nm i) ρ K X := by
  unfold wpE
  rw [h]
  cases o <;> exact q
theorem ev_pix {o : Bool} {k : PySem.Str} {x : T} (h : ρ[i]? = some (pS o kvs)) (hk : dlook kvs (.inr k) = some x) : Ev false c (.ix (.nm i) (.str k)) ρ x := fun K X q => by
  unfold wpE
  refine wp_pnm h ?_
  unfold wpE
  exact ev_two (pS_rd h) rfl ⟨x, hk, Ev.val q⟩
theorem ws_dput {o : Bool} {k : PySem.Str} (h : ρ[i]? = some (pS o kvs)) (hz : kvs.length < sizeLine) (he : Ev fe c e ρ t) (q : wpSs c ss (ρ.set i (pS o (dput kvs (.inr k) t))) D) : wpSs c (.cons (.asg (.ix i (.str k)) e) ss) ρ D := by
  unfold wpSs
  unfold wpS
  refine he _ _ fun o1 h1 h2 _ => ?_
  unfold wpX
  dsimp only
  rw [h2]
  refine ⟨?_, ?_⟩
  · unfold holdsC
    rw [h]
    cases o <;> rfl
  · unfold wpE
    refine ev_one (t := .str k) rfl ?_
    rw [h]
    cases o with
    | true => exact ⟨hz, q⟩
    | false => exact ⟨hz, q⟩
/-- a call whose first argument is such a dict -/
theorem wp_pcall {o : Bool} {f : PySem.Str} {es : Es} {ts : List T} (h : ρ[i]? = some (pS o kvs)) (hs : Evs c ρ es ts) (q : c.call f (.io (.dct kvs) :: ts.map .sh) (fun t fr io => ∃ kv', io = some (.dct kv') ∧ K (.val t fr) (ρ.set i (pS o kv'))) X) (hm : ∀ {Q Q' : KR}, (∀ t fr io, Q t fr io → Q' t fr io) → c.call f (.io (.dct kvs) :: ts.map .sh) Q X → c.call f (.io (.dct kvs) :: ts.map .sh) Q' X) : wpE c (.call f (.cons (.nm i) es)) ρ K X := by
  unfold wpE
  unfold wpEs
  refine wp_pnm h ?_
  refine hs.wp fun os r1 r2 r3 => ?_
  have e : cargs ρ (.slot i :: os) = some (.io (.dct kvs) :: ts.map .sh, ρ) := by
    dsimp only [cargs]
    rw [r2]
    dsimp only
    cases o <;> simp [h, pS]
  dsimp only
  rw [e]
  refine hm (fun t fr io ⟨kv', e1, e2⟩ => ?_) q
  subst e1
  have : back ρ (.slot i :: os) (some (.dct kv')) = ρ.set i (pS o kv') := by
    dsimp only [back]
    cases o <;> simp [h, pS]
  rw [this]
  exact e2
/-- a, b = x, y -/
theorem fzo_one {o : Opd} (h2 : fz ρ o = some (t, ρ)) (h3 : retv ρ o = some (t, false)) {os : List Opd} : fzo ρ (o :: os) = (fzo ρ os).map fun p => (.val t false :: p.1, p.2) := by
  cases o with
  | val u f =>
    have : u = t ∧ f = false := by simpa [retv] using h3
    obtain ⟨rfl, rfl⟩ := this
    show (match fzo ρ os with
      | some (r, ρ2) => some (Opd.val u false :: r, ρ2)
      | none => none) = _
    cases fzo ρ os <;> rfl
  | slot i =>
    show (match fz ρ (.slot i) with
      | some (t, ρ1) => (match fzo ρ1 os with
        | some (r, ρ2) => some (Opd.val t false :: r, ρ2)
        | none => none)
      | none => none) = _
    rw [h2]
    dsimp only
    cases fzo ρ os <;> rfl
theorem ws_par2 (h1 : Ev false c a ρ t) (h2 : Ev false c b ρ u) (hi : free ρ i = true) (hj : free (ρ.set i (.sh t)) j = true) (q : wpSs c ss ((ρ.set i (.sh t)).set j (.sh u)) D) : wpSs c (.cons (.par [i, j] (.cons a (.cons b .nil))) ss) ρ D := by
  unfold wpSs
  unfold wpS
  unfold wpEs
  refine h1 _ _ fun o1 r1 r2 r3 => ?_
  unfold wpEs
  refine h2 _ _ fun o2 s1 s2 s3 => ?_
  unfold wpEs
  have e : fzo ρ [o1, o2] = some ([.val t false, .val u false], ρ) := by
    rw [fzo_one r2 (r3 rfl).2, fzo_one s2 (s3 rfl).2]
    rfl
  dsimp only
  rw [e]
  have e2 : putAll ρ [i, j] [.val t false, .val u false] = some ((ρ.set i (.sh t)).set j (.sh u)) := by
    simp [putAll, put, hi, hj]
  dsimp only
  rw [e2]
  exact q
theorem ws_brk (h : D.bk ρ) : wpSs c (.cons .brk ss) ρ D := by unfold wpSs; unfold wpS; exact h
theorem ws_for {tg : Tg} {it : It} {body : Ss} {ts : List T} (hi : ∀ (K : List T → Env → Prop) (X : KX), K ts ρ → wpIt c it ρ K X) (q : forL (fun x ρ2 D2 => match stT x ρ2 tg with
      | some ρ3 => wpSs c body ρ3 D2
      | none => False) ts ρ { D with nx := fun ρ1 => wpSs c ss ρ1 D }) : wpSs c (.cons (.for_ tg it body) ss) ρ D := by
  unfold wpSs
  unfold wpS
  exact hi _ _ q
theorem it_rng {x y : Int} (ha : Ev fa c a ρ (.int x)) (hb : Ev fb c b ρ (.int y)) (h : -(2 ^ 62) ≤ x ∧ x < 2 ^ 62 ∧ -(2 ^ 62) ≤ y ∧ y < 2 ^ 62 ∧ (y - x).toNat ≤ sizeLine) : ∀ (K : List T → Env → Prop) (X : KX), K (rngT x y) ρ → wpIt c (.rng a b) ρ K X := fun K X q => by
  unfold wpIt
  exact ha _ _ fun o1 h1 _ _ => hb _ _ fun o2 h2 _ _ => ev_two h1 h2 ⟨h, q⟩
theorem it_val {xs : List T} (ha : Ev fa c a ρ t) (h : t = .lst xs ∨ t = .tup xs ∨ t = .scr xs) : ∀ (K : List T → Env → Prop) (X : KX), K xs ρ → wpIt c (.val a) ρ K X := fun K X q => by
  unfold wpIt
  refine ha _ _ fun o1 h1 h2 _ => ?_
  rw [h2]
  rcases h with h | h | h <;> subst h <;> exact q
end
end Zl

set_option Elab.async false
set_option linter.all false
set_option maxRecDepth 100000
set_option maxHeartbeats 4000000
/-! Z51: repr of told data; the pen in place; appends of tries. -/
namespace Zl
open PySem
/-! ### how long a shown datum is -/
structure ShD (d : PyData) (k n : Nat) : Prop where
  ok : d.showable = true
  dep : d.depth ≤ k
  len : d.shown.length ≤ n
structure ShA (ds : List PyData) (k n : Nat) : Prop where
  ok : PyData.showableAll ds = true
  dep : PyData.depthAll ds ≤ k
  len : piled (PyData.shownAll ds) ≤ n
theorem ShA.nil {k : Nat} : ShA [] k 0 := ⟨by unfold PyData.showableAll; rfl, by unfold PyData.depthAll; exact Nat.zero_le _, by unfold PyData.shownAll; rw [piled_nil]; exact Nat.le_refl _⟩
theorem ShA.cons {d : PyData} {ds : List PyData} {k n m : Nat} (h : ShD d k n) (hs : ShA ds k m) : ShA (d :: ds) k (n + 2 + m) := ⟨by unfold PyData.showableAll; rw [h.ok, hs.ok]; rfl, by unfold PyData.depthAll; exact Nat.max_le.mpr ⟨h.dep, hs.dep⟩, by unfold PyData.shownAll; rw [piled_cons]; have := h.len; have := hs.len; omega⟩
theorem listText_le : ∀ ts : List PySem.Str, (listText ts).length ≤ piled ts + 2
  | [] => by decide +kernel
  | t :: r => by
    have h := textFrom_length_pos r 1 (("[" : PySem.Str) ++ (if (0 : Nat) > 0 then ", " else "" : String) ++ t) (Nat.succ_pos 0)
    have e : ((("[" : PySem.Str) ++ (if (0 : Nat) > 0 then ", " else "" : String) ++ t)).length = 1 + t.length := by
      rw [strLen_append, strLen_append]; rfl
    have hX : (listText (t :: r)).length = (textFrom 0 "[" (t :: r)).length + 1 := by
      show (textFrom 0 "[" (t :: r) ++ "]").length = _
      rw [strLen_append]; rfl
    have hY : (textFrom 0 "[" (t :: r)).length = (textFrom 1 (("[" : PySem.Str) ++ (if (0 : Nat) > 0 then ", " else "" : String) ++ t) r).length := rfl
    rw [hX, hY, h, e, piled_cons]; omega
theorem tupleText_le (ts : List PySem.Str) : (tupleText ts).length ≤ piled ts + 3 := by
  unfold tupleText
  rw [strLen_append, strLen_append]
  have e1 : ((("(" : String) : PySem.Str)).length = 1 := rfl
  have e3 : (((if ts.length == 1 then ",)" else ")" : String) : PySem.Str)).length ≤ 2 := by split <;> decide
  rw [e1]
  cases ts with
  | nil => show 1 + 0 + _ ≤ _; omega
  | cons t r => have := join_length_add (t :: r) (by simp); omega
theorem ShD.lst {ds : List PyData} {k n : Nat} (h : ShA ds k n) : ShD (.list ds) (k + 1) (n + 2) := ⟨by unfold PyData.showable; exact h.ok, by unfold PyData.depth; have := h.dep; omega, by unfold PyData.shown; have := listText_le (PyData.shownAll ds); have := h.len; omega⟩
theorem ShD.tup {ds : List PyData} {k n : Nat} (h : ShA ds k n) : ShD (.tuple ds) (k + 1) (n + 3) := ⟨by unfold PyData.showable; exact h.ok, by unfold PyData.depth; have := h.dep; omega, by unfold PyData.shown; have := tupleText_le (PyData.shownAll ds); have := h.len; omega⟩
theorem ShD.le {d : PyData} {k k' n n' : Nat} (h : ShD d k n) (hk : k ≤ k') (hn : n ≤ n') : ShD d k' n' := ⟨h.ok, Nat.le_trans h.dep hk, Nat.le_trans h.len hn⟩
theorem ShD.int {z : Int} {k : Nat} (h : z.natAbs < 2 ^ 200) : ShD (.int z) k 62 := by
  refine ⟨?_, by unfold PyData.depth; exact Nat.zero_le _, ?_⟩
  · unfold PyData.showable
    refine decide_eq_true ?_
    by_cases hz : z.natAbs = 0
    · rw [hz]; decide
    · have := (Nat.log2_lt hz).mpr h; omega
  · unfold PyData.shown
    have h2 : (2 : Nat) ^ 200 < 10 ^ 61 := by decide
    have pos : ∀ x : Nat, x < 10 ^ 61 → (PySem.Str.ofString (toString (x : Int))).length ≤ 61 := fun x hx => PyProof.Rows.toString_length_le (by omega) (by decide) (by omega)
    cases z with
    | ofNat x =>
      have := pos x (by simp at h; omega)
      exact Nat.le_trans this (by decide)
    | negSucc x =>
      have h1 := pos (x + 1) (by simp at h; omega)
      rw [PyProof.Rows.ofString_length] at h1
      have e : (toString (Int.negSucc x)).toList.length = (toString ((x + 1 : Nat) : Int)).toList.length + 1 := by
        show ("-" ++ toString (x + 1)).toList.length = (toString (x + 1)).toList.length + 1
        rw [String.toList_append]
        simp
      show (PySem.Str.ofString (toString (Int.negSucc x))).length ≤ 62
      rw [PyProof.Rows.ofString_length, e]
      omega
theorem ShD.bl {b : Bool} {k : Nat} : ShD (.bool b) k 5 := ⟨by unfold PyData.showable; rfl, by unfold PyData.depth; exact Nat.zero_le _, by unfold PyData.shown; cases b <;> decide⟩
theorem ShD.non {k : Nat} : ShD .none k 4 := ⟨by unfold PyData.showable; rfl, by unfold PyData.depth; exact Nat.zero_le _, by unfold PyData.shown; decide⟩
theorem ShD.str {x : PySem.Str} {k n : Nat} (h : (reprText x).length ≤ n) : ShD (.str x) k n := ⟨by unfold PyData.showable; rfl, by unfold PyData.depth; exact Nat.zero_le _, by unfold PyData.shown; exact h⟩
theorem ShD.emp {k : Nat} : ShD (.dict []) (k + 1) 2 := ⟨by unfold PyData.showable; unfold PyData.showableKv; rfl, by unfold PyData.depth; unfold PyData.depthKv; omega, by decide +kernel⟩
/-! ### terms that may be read -/
/-- e tells t to a reader, and nothing changes -/
def Rv (c : Pr) (e : E) (ρ : Env) (t : T) : Prop := ∀ (K : KE') (X : KX), (∀ o, rd ρ o = some t → K o ρ) → wpE c e ρ K X
section
variable {fa fb fd fe : Bool} {c : Pr} {ρ ρ1 : Env} {a b e : E} {t u : T} {i j : Nat} {s : S} {ss : Ss} {D : Dn} {K : KE'} {X : KX} {kvs : List (Key × T)}
theorem Ev.rv (h : Ev fa c e ρ t) : Rv c e ρ t := fun K X q => h _ _ fun o h1 _ _ => q o h1
theorem rv_ow (h : ρ[i]? = some (.ow t)) : Rv c (.nm i) ρ t := fun K X q => by
  unfold wpE
  rw [h]
  exact q _ (by unfold rd; simp [h])
theorem rv_blt1 {bt : Blt} {r : T} {f : Bool} (ha : Rv c a ρ t) (h : ∀ Q : KV, Q r f → bltR bt [t] Q) : Ev f c (.blt bt (.cons a .nil)) ρ r := fun K X q => by
  unfold wpE
  unfold wpEs
  refine ha _ _ fun o ho => ?_
  unfold wpEs
  dsimp only [rds]
  rw [ho]
  exact h _ (Ev.val q)
/-- a value that repr may be asked of -/
def rpb : T → Bool
  | .lst _ => true
  | .tup _ => true
  | .dct _ => true
  | .int _ => true
  | .bl _ => true
  | .non => true
  | _ => false
theorem rp_ok {d : PyData} (hr : rpb t = true) (e : t.sd = some d) (h : ShD d 64 sizeLine) : ∀ Q : KV, Q (.str d.shown) false → bltR .repr [t] Q := fun Q q => by
  have h1 := h.ok
  have h2 := h.dep
  have h3 := h.len
  cases t with
  | lst xs =>
    unfold T.sd at e
    unfold bltR
    cases z : sds xs with
    | none => rw [z] at e; cases e
    | some ds =>
      rw [z] at e; cases e
      dsimp only
      rw [z]
      exact ⟨h1, h2, h3, q⟩
  | tup xs =>
    unfold T.sd at e
    unfold bltR
    cases z : sds xs with
    | none => rw [z] at e; cases e
    | some ds =>
      rw [z] at e; cases e
      dsimp only
      rw [z]
      exact ⟨h1, h2, h3, q⟩
  | dct kvs =>
    unfold T.sd at e
    unfold bltR
    split at e
    · rename_i z; cases e; exact ⟨z, q⟩
    · cases e
  | int z =>
    unfold T.sd at e
    cases e
    unfold PyData.showable at h1
    exact ⟨of_decide_eq_true h1, q⟩
  | bl z => unfold T.sd at e; cases e; exact q
  | non => unfold T.sd at e; cases e; exact q
  | _ => cases hr
theorem ev_repr {d : PyData} (ha : Rv c a ρ t) (hr : rpb t = true) (e : t.sd = some d) (h : ShD d 64 sizeLine) : Ev false c (.blt .repr (.cons a .nil)) ρ (.str d.shown) := rv_blt1 ha (rp_ok hr e h)
/-! ### stores, calls with the pen inside -/
theorem ws_asg {x : Tx} (h : wpE c e ρ (fun o ρ1 => wpX c x o ρ1 (fun ρ2 => wpSs c ss ρ2 D) D.xx) D.xx) : wpSs c (.cons (.asg x e) ss) ρ D := by
  unfold wpSs
  unfold wpS
  exact h
theorem wx_sh {Q : Env → Prop} (hf : free ρ i = true) (q : Q (ρ.set i (.sh t))) : wpX c (.tg (.nm i)) (.val t false) ρ Q X := by
  unfold wpX
  dsimp only
  unfold put
  dsimp only
  rw [if_pos hf]
  exact q
theorem wx_ow {Q : Env → Prop} (hf : free ρ i = true) (q : Q (ρ.set i (.ow t))) : wpX c (.tg (.nm i)) (.val t true) ρ Q X := by
  unfold wpX
  dsimp only
  unfold put
  dsimp only
  rw [if_pos hf]
  exact q
theorem ws_ow (h : Ev true c e ρ t) (hv : ∀ (K : KE') (X : KX), K (.val t true) ρ → wpE c e ρ K X) (hf : free ρ i = true) (q : wpSs c ss (ρ.set i (.ow t)) D) : wpSs c (.cons (.asg (.tg (.nm i)) e) ss) ρ D := ws_asg (hv _ _ (wx_ow hf q))
theorem wv_lst {es : Es} {ts : List T} (h : Evs c ρ es ts) : ∀ (K : KE') (X : KX), K (.val (.lst ts) true) ρ → wpE c (.lst es) ρ K X := fun K X q => by
  unfold wpE
  refine h.wp fun os _ h2 _ => ?_
  rw [h2]
  exact q
theorem ws_retW (h : wpE c e ρ D.rt D.xx) : wpSs c (.cons (.ret e) ss) ρ D := by
  unfold wpSs
  unfold wpS
  exact h
theorem ws_ifW {x y : Ss} (h : wpB c e ρ (fun k ρ1 => (k = true → wpSs c x ρ1 { D with nx := fun ρ2 => wpSs c ss ρ2 D }) ∧ (k = false → wpSs c y ρ1 { D with nx := fun ρ2 => wpSs c ss ρ2 D })) D.xx) : wpSs c (.cons (.if_ e x y) ss) ρ D := by
  unfold wpSs
  unfold wpS
  exact h
/-- a call whose first argument is the pen and whose second one may use it -/
theorem wp_pc1 {g : Pg} {n : Nat} {o : Bool} {f : PySem.Str} (h : ρ[i]? = some (pS o kvs))
    (q : wpE (g.at n) e ρ (fun o2 ρ1 => ∃ kv1 t, ρ1[i]? = some (pS o kv1) ∧ fz ρ1 o2 = some (t, ρ1) ∧ (g.at n).call f [.io (.dct kv1), .sh t] (fun t fr io => ∃ kv', io = some (.dct kv') ∧ K (.val t fr) (ρ1.set i (pS o kv'))) X) X) : wpE (g.at n) (.call f (.cons (.nm i) (.cons e .nil))) ρ K X := by
  unfold wpE
  unfold wpEs
  refine wp_pnm h ?_
  unfold wpEs
  refine wpE_mono (Pg.mono g n) _ _ _ _ _ _ ?_ (fun _ _ y => y) q
  intro o2 ρ1 ⟨kv1, t, h1, h2, h3⟩
  unfold wpEs
  have e : cargs ρ1 (.slot i :: [o2]) = some ([.io (.dct kv1), .sh t], ρ1) := by
    dsimp only [cargs, fzs]
    rw [h2]
    dsimp only
    cases o <;> simp [h1, pS]
  dsimp only
  rw [e]
  refine (Pg.mono g n).1 _ _ _ _ _ _ (fun t fr io ⟨kv', e1, e2⟩ => ?_) (fun _ _ y => y) h3
  subst e1
  have : back ρ1 (.slot i :: [o2]) (some (.dct kv')) = ρ1.set i (pS o kv') := by
    dsimp only [back]
    cases o <;> simp [h1, pS]
  rw [this]
  exact e2
/-- a comparison of which the left side uses the pen -/
theorem wb_cmpW {op : Cop} {Kb : Bool → Env → Prop} (h : wpE c a ρ (fun o1 ρ1 => wpE c b ρ1 (fun o2 ρ2 => cmpI c op ρ2 o1 o2 Kb X) X) X) : wpB c (.cmp op a b) ρ Kb X := by
  unfold wpB
  exact h
/-- behind the left side -/
theorem wc_val {op : Cop} {x : T} {f k : Bool} {Kb : Bool → Env → Prop} (hn : notIns x = true) (hb : Ev fb c b ρ u) (h : ∀ Q : Bool → Prop, Q k → cmpR op x u Q) (q : Kb k ρ) : wpE c b ρ (fun o2 ρ2 => cmpI c op ρ2 (.val x f) o2 Kb X) X := hb _ _ fun o2 h2 _ _ => cmpI_of hn rfl h2 (h _ q)
/-! ### tries -/
theorem ws_app (h0 : ∃ ys, ρ[i]? = some (.ow (.lst ys))) (h : wpE c e ρ (fun o ρ1 => ∃ t ρ2 xs, fz ρ1 o = some (t, ρ2) ∧ ρ2[i]? = some (.ow (.lst xs)) ∧ xs.length < sizeLine ∧ wpSs c ss (ρ2.set i (.ow (.lst (xs ++ [t])))) D) D.xx) (hm : Pr.Mono c) : wpSs c (.cons (.ex (.app i e)) ss) ρ D := by
  unfold wpSs
  unfold wpS
  unfold wpE
  obtain ⟨ys, h0⟩ := h0
  rw [h0]
  refine wpE_mono hm _ _ _ _ _ _ ?_ (fun _ _ y => y) h
  intro o ρ1 ⟨t, ρ2, xs, e1, e2, e3, q⟩
  dsimp only
  rw [e1]
  dsimp only
  rw [e2]
  exact ⟨e3, q⟩
theorem wp_try {cs : List Nat} (h : lkAll ρ cs = some ρ1) (hb : Ev fb c b ρ1 t) (q : K (.val (.tup [.clo e (capsOf ρ1 cs), t]) false) ρ1) : wpE c (.tup (.cons (.lam cs e) (.cons b .nil))) ρ K X := by
  unfold wpE
  unfold wpEs
  unfold wpE
  rw [h]
  dsimp only
  unfold wpEs
  refine hb _ _ fun o h1 h2 _ => ?_
  unfold wpEs
  have e1 : fzs ρ1 [o] = some ([t], ρ1) := by
    dsimp only [fzs]
    rw [h2]
  have e2 : fzs ρ1 [.val (.clo e (capsOf ρ1 cs)) false, o] = some ([.clo e (capsOf ρ1 cs), t], ρ1) := by
    show (match fzs ρ1 [o] with
      | some (ts, ρ2) => some (T.clo e (capsOf ρ1 cs) :: ts, ρ2)
      | none => none) = _
    rw [e1]
  dsimp only
  rw [e2]
  exact q
end
end Zl

set_option Elab.async false
set_option linter.all false
set_option maxRecDepth 100000
set_option maxHeartbeats 4000000
/-! Z52: the end, for any law over the layer. -/
namespace Zl
open PySem PySem.Spec PyProof.Rows L2
/-- the text of an own exception's __init__ -/
structure IniT (cn : Str) (fs : List Str) (x : He.DefD) : Prop where
  ex : ∃ (N ps : List Str) (self msg : Str) (j : Nat) (p1 p2 p3 p4 p5 p6 : Pos) (st : List Stmt) (pl : PySem.Env → Sem Bool), x.body = .Expr (.Call (.Attribute (.Name cn p1) "__init__" p2) [.Name self p3, .Constant (.str msg) j p4] [] p5) p6 :: st ∧ FnScope N ps x.scope ∧ ps.length = fs.length + 1 ∧ N[0]? = some self ∧ x.scope.names.lookup cn = some .globalImplicit ∧ StoL N st (fs.zipIdx 1) ∧ (∀ y ∈ N, x.scope.names.lookup y = some .local ∧ plainName y = true) ∧
    (∀ env, eval (.Call (.Attribute (.Name cn p1) "__init__" p2) [.Name self p3, .Constant (.str msg) j p4] [] p5) env = (do
      let ov ← eval (.Name cn p1) env
      standAt p2.atName
      let (f, first) ← holding [ov] (getMethod ov "__init__" (pl env))
      callWith p5 f first (backTo p5 (starEach [.Name self p3, .Constant (.str msg) j p4] env)) (backToKw p5 (keywordEach [] env)))) ∧
    (∀ (kV doc pm : Value) (an : Option Addr) (cdv ct : Value) (us : List Value), us.length = ps.length → bindArgs (PySem.W.fnOf x.name x.qual x.params x.body x.scope .none kV doc pm an cdv ct) ⟨us, []⟩ = pure (ps.zip us))
  pn : plainName cn = true
  ne : fs ≠ []
  d0 : x.dfl = []
  k0 : x.kwd = []
section
variable {P : Program} {w : World} {K : PySem.W.Frag} {mg : Str → Option Value} {h : Heap} {nd : Nd} {hq : Heq} {ms : List (Str × Str × Str)} {e0 : Str} {x : He.DefD} {n : Str} {fs : List Str}
theorem ini_all (X : K.In h) (G : h.Ns mainGlobals mg) (gB : gndB nd hq ms e0 K = true) (hm : (n, fs) ∈ nd.excs) (T : IniT e0 fs x) (hat : x.at_ = (n, some ("__init__" : PySem.Str))) (F : ∃ fd, FunD K x.name x.qual x.params x.body x.scope (x.dvs K) (x.kws K) (He.fAd K x.at_) fd) :
    ∃ fd ps, L2.Binds K fd ps [] ∧ ∀ base, FnOk P w K mg base (L2.CX P w) 2 (He.ma K (He.ga K n) "__init__") fd ps (spIni (He.ga K n) fs) := by
  obtain ⟨fd, F⟩ := F
  obtain ⟨N, ps, self, msg, j, p1, p2, p3, p4, p5, p6, st, pl, hb, S, hl, h0, hg, hst, vis, hc, bd⟩ := T.ex
  unfold gndB at gB
  obtain ⟨g1, g⟩ := and_t gB
  obtain ⟨g2, g⟩ := and_t g
  obtain ⟨g3, g⟩ := and_t g
  obtain ⟨g4, g⟩ := and_t g
  obtain ⟨g5, g⟩ := and_t g
  obtain ⟨g6, g⟩ := and_t g
  obtain ⟨g7, g⟩ := and_t g
  obtain ⟨g8, g9⟩ := and_t g
  obtain ⟨i1, i2⟩ := and_t g9
  obtain ⟨a1, a⟩ := and_t (List.all_eq_true.mp g7 (n, fs) hm)
  unfold excB at a1
  obtain ⟨b1, a1⟩ := and_t a1
  obtain ⟨b2, a1⟩ := and_t a1
  obtain ⟨b3, a1⟩ := and_t a1
  obtain ⟨b4, a1⟩ := and_t a1
  obtain ⟨b5, a1⟩ := and_t a1
  obtain ⟨b6, b7⟩ := and_t a1
  have ed : x.dvs K = [] := by unfold He.DefD.dvs; rw [T.d0]; rfl
  have ek : x.kws K = [] := by unfold He.DefD.kws; rw [T.k0]; rfl
  rw [ed, ek, hat] at F
  have bN : L2.Binds K fd ps [] := FunD.bindsN F fun kV doc pm an cdv ct us hz => bd kV doc pm an cdv ct us hz
  refine ⟨fd, ps, bN, fun base => ?_⟩
  obtain ⟨oc, od, dV, kV, doc, pm, an, cdv, ct, osl, rfl, lk, hcd, hD, _⟩ := F.ex
  have lk : K.lookup (He.ma K (He.ga K n) "__init__") = _ := lk
  rw [hb] at lk
  rw [hb]
  exact ini_ok lk hcd S hl h0 hg (He.glo_ok X G i1) T.pn (iniB_ok i2) (oexB_ok b2) hst T.ne (of_decide_eq_true b4) (fun i y hy => let z := vis y (List.mem_of_getElem? hy); ⟨.inl z.1, z.2⟩) (fun g hg => He.eqO_ok (List.all_eq_true.mp b7 g hg)) hc base
end
/-- what the end wants of the law's own text -/
structure LawT (nd : Nd) (t : Tf) (x : Str) : Prop where
  tr : ∃ n, (Rc.at nd n).ss ⟨t.N, (defScope t.st).names, t.N, true, true⟩ (defBody t.st) = some t.b
  sc : FnScope t.N [x] (defScope t.st)
  cell : ∀ y ∈ (defScope t.st).names, y.2 = .cell → (defScope t.st).names.lookup y.1 = some .cell
  at_ : t.at_ = (("law" : PySem.Str), none)
  nm : t.name = "law"
  ql : t.qual = "law"
  bd : ∀ (kV doc pm : Value) (an : Option Addr) (cdv ct : Value) (us : List Value), us.length = 1 → bindArgs (PySem.W.fnOf t.name t.qual (defArgs t.st) (defBody t.st) (defScope t.st) .none kV doc pm an cdv ct) ⟨us, []⟩ = pure ([x].zip us)
theorem walk_fin {l : PySem.W.OpenLaw} {n m : Nat} {q : Program} {loose : List Str} {XP : (Str → Option Value) → Heap → Prop} {d : DefRec} {nd : Nd} {hq : Heq} {ms : List (Str × Str × Str)} {e0 x : Str} {con : Str → Option T} {tfs : List Tf} {tL : Tf} {dfs : List He.DefD} {nx : Nat} {more : PySem.W.Frag → Bool} {c : Pg}
    (hn : l.most = some n) (hn2 : n ≤ sizeLine) (hdf : d.params.defaults = []) (hname : d.name = "law") (hm : ∀ K, more K = true → (He.Fa.glo "law").ok K = true ∧ gndB nd hq ms e0 K = true)
    (hcon : ∀ (K : PySem.W.Frag) (h : Heap) (mg : Str → Option Value) tbs, K.In h → h.Ns mainGlobals mg → more K = true → ∀ x t, con x = some t → ∃ v u, mg x = some u ∧ RelV v u ∧ ∀ g H, Rep (wdY K nd ms tbs) g H v t)
    (hT : ∀ t ∈ tfs, TfOk nd t ∧ pathOf ms t.nm = t.at_) (hD : ∀ t ∈ tfs, t.d ∈ dfs) (hL : tL.d ∈ dfs) (L : LawT nd tL x)
    (hx : ∀ p ∈ nd.excs, ∃ y ∈ dfs, IniT e0 p.2 y ∧ y.at_ = (p.1, some ("__init__" : PySem.Str))) (hc : pgOf nd hq con tfs = c) (hle : 1 ≤ tL.N.length) (hr : Room (2 * m + 4) callerA)
    (wish : ∀ ns : List Int, ns.length ≤ n → wpSs (c.at m) tL.b ([.sh (.scr (ns.map T.int))] ++ List.replicate (tL.N.length - 1) .no) lawDn) :
    PySem.W.WalkO q loose XP (hookY nx dfs [(("law" : PySem.Str), none)] more).says l.row.toRowW d [] (fun f vs => PySem.call f vs) := by
  refine walk_Y (n := n) hn hn2 hdf fun w mg fa h Y G hmg0 => ?_
  obtain ⟨K, KX, S⟩ := Y
  obtain ⟨gL, gB⟩ := hm K S.more
  have hmg : mg "law" = some (.ref (He.ga K "law")) := He.glo_ok KX G gL
  rw [hname] at hmg0
  have efa : fa = He.ga K "law" := by
    have := hmg0.symm.trans hmg
    exact Value.ref.inj (Option.some.inj this)
  subst efa
  have one : ((("law" : PySem.Str), none) : He.Defn) ∈ [((("law" : PySem.Str), none) : He.Defn)] := List.mem_cons_self
  obtain ⟨fd, F⟩ := S.defs tL.d hL
  have F : FunD K tL.name tL.qual (defArgs tL.st) (defBody tL.st) (defScope tL.st) [] [] (He.fAd K tL.at_) fd := F
  rw [L.at_] at F
  obtain ⟨oc, od, dV, kV, doc, pm, an, cdv, ct, osl, efd, lk, hcd, hDv, _⟩ := F.ex
  obtain ⟨cc, rfl⟩ := He.codeIn_ref hcd
  have ecc : He.codeOf K (("law" : PySem.Str), none) = cc := He.codeOf_eq lk (by rw [efd])
  have eT : He.cT K (("law" : PySem.Str), none) = (cc, He.tabOf K cc) := by unfold He.cT; rw [ecc]
  refine ⟨K, [(cc, He.tabOf K cc)], KX, fun p hp => ?_, fun p hp => ?_, fun p hp => ?_, fun ns hl hb base s₁ H a kb tb e0' hP hS => ?_⟩
  · rw [List.mem_singleton] at hp; subst hp
    have := S.empty _ one
    rw [eT] at this; exact this
  · rw [List.mem_singleton] at hp; subst hp
    have := S.out _ one
    rw [eT] at this; exact this
  · rw [List.mem_singleton] at hp; subst hp
    have := S.hd _ one
    rw [eT] at this
    exact PySem.W.codeHd_of_K KX this
  · have pf := pf_all (P := l.prog) (w := w) (h := h) (tbs := [(cc, He.tabOf K cc)]) (tab := [(He.tabOf K cc, "law" ++ ".<locals>." ++ "<lambda>")]) (con := con) (l := tfs) KX G gB (hcon K h mg _ KX G S.more) (fun t ht => ⟨(hT t ht).1, (hT t ht).2, S.defs t.d (hD t ht)⟩)
      (fun p hp => by
        obtain ⟨y, hy, hi, ha⟩ := hx p hp
        exact ini_all KX G gB hp hi ha (S.defs y hy)) m
    rw [hc] at pf
    have bo : BaseOk [(cc, He.tabOf K cc)] mg base := ⟨by
      obtain ⟨o, ho⟩ := S.sys
      exact ⟨o, kb _ _ ho⟩, tb⟩
    obtain ⟨mtr, tr⟩ := L.tr
    have ss : SSs (nmOf nd) ⟨tL.N, (defScope tL.st).names, tL.N, true, true⟩ (defBody tL.st) tL.b := by
      intro _ _ _ _ _ _; exact (Rc.at_ok nd mtr).ss _ _ _ tr
    have bA := FunD.bindsA (ps := [x]) F fun kV doc pm an cdv ct us hz => L.bd kV doc pm an cdv ct us hz
    subst efd
    rw [L.nm, L.ql] at lk
    rw [L.ql] at hcd
    have bA2 := bA s₁ [.ref a] rfl
    rw [L.nm, L.ql] at bA2
    exact law_go (nm := nmOf nd) (W := wdY K nd ms [(cc, He.tabOf K cc)]) pf lk hcd L.sc L.cell ss hle List.mem_cons_self (wish ns hl) hr e0' bo (hP _ List.mem_cons_self) hS bA2
end Zl

set_option Elab.async false
set_option linter.all false
set_option maxRecDepth 100000
set_option maxHeartbeats 0
/-! the terms of chainorders_k02_ratios -/
namespace Zk
open PySem PySem.Spec PyProof.Rows L2 Zl
def nd : Nd := ⟨["limit", "lot", "many", "number", "row", "table", "value", "what"], ["is_whole", "is_pair", "is_ratio", "lowest", "told", "summed", "lessened", "scaled", "parted", "below", "plus", "minus", "times", "share", "less", "_law_pen", "_law_draw", "_law_pick", "_law_gcd", "_law_q", "_law_plus", "_law_times", "_law_less", "_law_minus", "_law_share", "_law_number", "_law_handed", "_law_fault", "_law_are_due"], [], [], [(("BadNumber" : PySem.Str), ["what", "number"]), (("BadOrder" : PySem.Str), ["what", "value"]), (("BadLot" : PySem.Str), ["lot"]), (("BadRow" : PySem.Str), ["row"]), (("BadTable" : PySem.Str), ["table"]), (("Unlike" : PySem.Str), ["what"]), (("TooMany" : PySem.Str), ["what", "many", "limit"])], [], ["abs", "all", "bool", "int", "isinstance", "len", "list", "range", "repr", "tuple"], [], ["int", "bool", "str", "tuple", "list", "dict"], ["gcd"], ["BadLot", "BadNumber", "BadOrder", "BadRow", "BadTable", "TooMany", "Unlike"], ["limit", "lot", "many", "number", "row", "table", "value", "what"]⟩
def b0 : Ss := (.cons (.ret (.and (.isi (.nm 0) [.ty "int"]) (.not (.isi (.nm 0) [.ty "bool"])))) .nil)
def b1 : Ss := (.cons (.if_ (.or (.not (.isi (.nm 0) [.ty "tuple", .ty "list"])) (.cmp .ne (.blt .len (.cons (.nm 0) .nil)) (.int 2))) (.cons (.ret (.bl false)) .nil) .nil) (.cons (.ret (.and (.call "is_whole" (.cons (.ix (.nm 0) (.int 0)) .nil)) (.and (.call "is_whole" (.cons (.ix (.nm 0) (.int 1)) .nil)) (.cmp .gt (.ix (.nm 0) (.int 1)) (.int 0))))) .nil))
def b2 : Ss := (.cons (.ret (.or (.call "is_whole" (.cons (.nm 0) .nil)) (.and (.isi (.nm 0) [.ty "tuple"]) (.call "is_pair" (.cons (.nm 0) .nil))))) .nil)
def b3 : Ss := (.cons (.asg (.tg (.nm 2)) (.ite (.cmp .gt (.nm 1) (.int 0)) (.blt .gcd (.cons (.nm 0) (.cons (.nm 1) .nil))) (.neg (.blt .gcd (.cons (.nm 0) (.cons (.nm 1) .nil)))))) (.cons (.ret (.tup (.cons (.bin .fdiv (.nm 0) (.nm 2)) (.cons (.bin .fdiv (.nm 1) (.nm 2)) .nil)))) .nil))
def b4 : Ss := (.cons (.if_ (.call "is_whole" (.cons (.nm 0) .nil)) (.cons (.ret (.tup (.cons (.nm 0) (.cons (.int 1) .nil)))) .nil) .nil) (.cons (.if_ (.not (.call "is_pair" (.cons (.nm 0) .nil))) (.cons (.raise "BadRow" (.cons (.nm 0) .nil)) .nil) .nil) (.cons (.ret (.call "lowest" (.cons (.ix (.nm 0) (.int 0)) (.cons (.ix (.nm 0) (.int 1)) .nil)))) .nil)))
def b5 : Ss := (.cons (.ret (.call "lowest" (.cons (.bin .add (.bin .mul (.ix (.nm 0) (.int 0)) (.ix (.nm 1) (.int 1))) (.bin .mul (.ix (.nm 1) (.int 0)) (.ix (.nm 0) (.int 1)))) (.cons (.bin .mul (.ix (.nm 0) (.int 1)) (.ix (.nm 1) (.int 1))) .nil)))) .nil)
def b6 : Ss := (.cons (.ret (.call "lowest" (.cons (.bin .sub (.bin .mul (.ix (.nm 0) (.int 0)) (.ix (.nm 1) (.int 1))) (.bin .mul (.ix (.nm 1) (.int 0)) (.ix (.nm 0) (.int 1)))) (.cons (.bin .mul (.ix (.nm 0) (.int 1)) (.ix (.nm 1) (.int 1))) .nil)))) .nil)
def b7 : Ss := (.cons (.ret (.call "lowest" (.cons (.bin .mul (.ix (.nm 0) (.int 0)) (.ix (.nm 1) (.int 0))) (.cons (.bin .mul (.ix (.nm 0) (.int 1)) (.ix (.nm 1) (.int 1))) .nil)))) .nil)
def b8 : Ss := (.cons (.ret (.call "lowest" (.cons (.bin .mul (.ix (.nm 0) (.int 0)) (.ix (.nm 1) (.int 1))) (.cons (.bin .mul (.ix (.nm 0) (.int 1)) (.ix (.nm 1) (.int 0))) .nil)))) .nil)
def b9 : Ss := (.cons (.ret (.cmp .lt (.bin .mul (.ix (.nm 0) (.int 0)) (.ix (.nm 1) (.int 1))) (.bin .mul (.ix (.nm 1) (.int 0)) (.ix (.nm 0) (.int 1))))) .nil)
def b10 : Ss := (.cons (.par [2, 3] (.cons (.call "told" (.cons (.nm 0) .nil)) (.cons (.call "told" (.cons (.nm 1) .nil)) .nil))) (.cons (.ret (.call "summed" (.cons (.nm 2) (.cons (.nm 3) .nil)))) .nil))
def b11 : Ss := (.cons (.par [2, 3] (.cons (.call "told" (.cons (.nm 0) .nil)) (.cons (.call "told" (.cons (.nm 1) .nil)) .nil))) (.cons (.ret (.call "lessened" (.cons (.nm 2) (.cons (.nm 3) .nil)))) .nil))
def b12 : Ss := (.cons (.par [2, 3] (.cons (.call "told" (.cons (.nm 0) .nil)) (.cons (.call "told" (.cons (.nm 1) .nil)) .nil))) (.cons (.ret (.call "scaled" (.cons (.nm 2) (.cons (.nm 3) .nil)))) .nil))
def b13 : Ss := (.cons (.par [2, 3] (.cons (.call "told" (.cons (.nm 0) .nil)) (.cons (.call "told" (.cons (.nm 1) .nil)) .nil))) (.cons (.if_ (.cmp .eq (.ix (.nm 3) (.int 0)) (.int 0)) (.cons (.raise "BadNumber" (.cons (.str "share") (.cons (.int 0) .nil))) .nil) .nil) (.cons (.ret (.call "parted" (.cons (.nm 2) (.cons (.nm 3) .nil)))) .nil)))
def b14 : Ss := (.cons (.par [2, 3] (.cons (.call "told" (.cons (.nm 0) .nil)) (.cons (.call "told" (.cons (.nm 1) .nil)) .nil))) (.cons (.ret (.call "below" (.cons (.nm 2) (.cons (.nm 3) .nil)))) .nil))
def b15 : Ss := (.cons (.asg (.tg (.nm 1)) (.int 0)) (.cons (.for_ (.nm 2) (.val (.nm 0)) (.cons (.asg (.tg (.nm 1)) (.bin .mod (.blt .int (.cons (.bin .add (.bin .mul (.nm 1) (.int 107)) (.nm 2)) .nil)) (.int 999999613))) .nil)) (.cons (.ret (.dsp ["cells", "at", "digits", "count", "fold"] (.cons (.blt .list (.cons (.nm 0) .nil)) (.cons (.int 0) (.cons (.int 0) (.cons (.int 0) (.cons (.nm 1) .nil))))))) .nil)))
def b16 : Ss := (.cons (.asg (.ix 0 (.str "count")) (.bin .add (.ix (.nm 0) (.str "count")) (.int 1))) (.cons (.if_ (.and (.cmp .eq (.ix (.nm 0) (.str "digits")) (.int 0)) (.cmp .lt (.ix (.nm 0) (.str "at")) (.blt .len (.cons (.ix (.nm 0) (.str "cells")) .nil)))) (.cons (.asg (.tg (.nm 2)) (.ix (.ix (.nm 0) (.str "cells")) (.ix (.nm 0) (.str "at")))) (.cons (.asg (.ix 0 (.str "at")) (.bin .add (.ix (.nm 0) (.str "at")) (.int 1))) (.cons (.if_ (.cmp .ge (.nm 2) (.bin .pow (.int 10) (.int 18))) (.cons (.asg (.ix 0 (.str "digits")) (.bin .sub (.nm 2) (.bin .pow (.int 10) (.int 18)))) .nil) (.cons (.asg (.ix 0 (.str "fold")) (.bin .mod (.blt .int (.cons (.bin .add (.bin .mul (.ix (.nm 0) (.str "fold")) (.int 37993)) (.nm 2)) .nil)) (.int 2147483353))) .nil)) .nil))) .nil) (.cons (.if_ (.cmp .gt (.ix (.nm 0) (.str "digits")) (.int 0)) (.cons (.asg (.tg (.nm 3)) (.bin .mod (.blt .int (.cons (.ix (.nm 0) (.str "digits")) .nil)) (.nm 1))) (.cons (.asg (.ix 0 (.str "digits")) (.bin .fdiv (.ix (.nm 0) (.str "digits")) (.nm 1))) (.cons (.ret (.nm 3)) .nil))) .nil) (.cons (.asg (.tg (.nm 4)) (.bin .add (.bin .add (.ix (.nm 0) (.str "fold")) (.bin .mul (.ix (.nm 0) (.str "count")) (.int 7487))) (.int 83))) (.cons (.ret (.bin .mod (.bin .fdiv (.blt .int (.cons (.bin .mod (.bin .pow (.nm 4) (.int 35)) (.int 2305843009213693951)) .nil)) (.int 16)) (.nm 1))) .nil)))))
def b17 : Ss := (.cons (.ret (.ix (.nm 1) (.call "_law_draw" (.cons (.nm 0) (.cons (.blt .len (.cons (.nm 1) .nil)) .nil))))) .nil)
def b18 : Ss := (.cons (.par [0, 1] (.cons (.blt .abs (.cons (.nm 0) .nil)) (.cons (.blt .abs (.cons (.nm 1) .nil)) .nil))) (.cons (.for_ (.nm 2) (.rng (.int 0) (.bin .add (.int 4) (.bin .mul (.int 2) (.mth .bitlen (.blt .int (.cons (.nm 1) .nil)) .nil)))) (.cons (.if_ (.cmp .eq (.nm 1) (.int 0)) (.cons .brk .nil) .nil) (.cons (.par [0, 1] (.cons (.nm 1) (.cons (.bin .mod (.blt .int (.cons (.nm 0) .nil)) (.nm 1)) .nil))) .nil))) (.cons (.ret (.nm 0)) .nil)))
def b19 : Ss := (.cons (.asg (.tg (.nm 2)) (.call "_law_gcd" (.cons (.nm 0) (.cons (.nm 1) .nil)))) (.cons (.asg (.tg (.nm 2)) (.ite (.cmp .lt (.nm 1) (.int 0)) (.neg (.nm 2)) (.nm 2))) (.cons (.ret (.tup (.cons (.bin .fdiv (.nm 0) (.nm 2)) (.cons (.bin .fdiv (.nm 1) (.nm 2)) .nil)))) .nil)))
def b20 : Ss := (.cons (.ret (.call "_law_q" (.cons (.bin .add (.bin .mul (.ix (.nm 0) (.int 0)) (.ix (.nm 1) (.int 1))) (.bin .mul (.ix (.nm 1) (.int 0)) (.ix (.nm 0) (.int 1)))) (.cons (.bin .mul (.ix (.nm 0) (.int 1)) (.ix (.nm 1) (.int 1))) .nil)))) .nil)
def b21 : Ss := (.cons (.ret (.call "_law_q" (.cons (.bin .mul (.ix (.nm 0) (.int 0)) (.ix (.nm 1) (.int 0))) (.cons (.bin .mul (.ix (.nm 0) (.int 1)) (.ix (.nm 1) (.int 1))) .nil)))) .nil)
def b22 : Ss := (.cons (.ret (.cmp .lt (.bin .mul (.ix (.nm 0) (.int 0)) (.ix (.nm 1) (.int 1))) (.bin .mul (.ix (.nm 1) (.int 0)) (.ix (.nm 0) (.int 1))))) .nil)
def b23 : Ss := (.cons (.ret (.call "_law_q" (.cons (.bin .sub (.bin .mul (.ix (.nm 0) (.int 0)) (.ix (.nm 1) (.int 1))) (.bin .mul (.ix (.nm 1) (.int 0)) (.ix (.nm 0) (.int 1)))) (.cons (.bin .mul (.ix (.nm 0) (.int 1)) (.ix (.nm 1) (.int 1))) .nil)))) .nil)
def b24 : Ss := (.cons (.ret (.call "_law_q" (.cons (.bin .mul (.ix (.nm 0) (.int 0)) (.ix (.nm 1) (.int 1))) (.cons (.bin .mul (.ix (.nm 0) (.int 1)) (.ix (.nm 1) (.int 0))) .nil)))) .nil)
def b25 : Ss := (.cons (.asg (.tg (.nm 2)) (.bin .sub (.call "_law_draw" (.cons (.nm 0) (.cons (.bin .add (.bin .mul (.int 2) (.nm 1)) (.int 1)) .nil))) (.nm 1))) (.cons (.ret (.call "_law_q" (.cons (.nm 2) (.cons (.call "_law_pick" (.cons (.nm 0) (.cons (.lst (.cons (.int 1) (.cons (.int 1) (.cons (.int 1) (.cons (.int 2) (.cons (.int 3) .nil)))))) .nil))) .nil)))) .nil))
def b26 : Ss := (.cons (.if_ (.and (.cmp .eq (.ix (.nm 1) (.int 1)) (.int 1)) (.cmp .eq (.call "_law_draw" (.cons (.nm 0) (.cons (.int 2) .nil))) (.int 0))) (.cons (.ret (.ix (.nm 1) (.int 0))) .nil) .nil) (.cons (.asg (.tg (.nm 2)) (.call "_law_pick" (.cons (.nm 0) (.cons (.lst (.cons (.int 1) (.cons (.int 1) (.cons (.int 2) (.cons (.int 5) .nil))))) .nil)))) (.cons (.ret (.call "_law_pick" (.cons (.nm 0) (.cons (.lst (.cons (.tup (.cons (.bin .mul (.ix (.nm 1) (.int 0)) (.nm 2)) (.cons (.bin .mul (.ix (.nm 1) (.int 1)) (.nm 2)) .nil))) (.cons (.lst (.cons (.bin .mul (.ix (.nm 1) (.int 0)) (.nm 2)) (.cons (.bin .mul (.ix (.nm 1) (.int 1)) (.nm 2)) .nil))) .nil))) .nil)))) .nil)))
def b27 : Ss := (.cons (.tryf 0 [("BadLot", "lot", ["lot"]), ("BadNumber", "number", ["what", "number"]), ("BadOrder", "order", ["what", "value"]), ("BadRow", "row", ["row"]), ("BadTable", "table", ["table"]), ("TooMany", "many", ["what", "many", "limit"]), ("Unlike", "unlike", ["what"])]) (.cons (.ret .non) .nil))
def b28 : Ss := (.cons (.ret (.blt .all (.cons (.comp [1, 2] (.tp (.cons (.nm 1) (.cons (.nm 2) .nil))) (.val (.nm 0)) .none (.cmp .eq (.blt .repr (.cons (.call "_law_fault" (.cons (.nm 1) .nil)) .nil)) (.blt .repr (.cons (.nm 2) .nil)))) .nil))) .nil)
def b29 : Ss := (.cons (.asg (.tg (.nm 1)) (.call "_law_pen" (.cons (.nm 0) .nil))) (.cons (.for_ (.nm 2) (.rng (.int 0) (.int 6)) (.cons (.par [3, 4] (.cons (.call "_law_number" (.cons (.nm 1) (.cons (.call "_law_pick" (.cons (.nm 1) (.cons (.lst (.cons (.int 4) (.cons (.int 99999) .nil))) .nil))) .nil))) (.cons (.call "_law_number" (.cons (.nm 1) (.cons (.int 9) .nil))) .nil))) (.cons (.if_ (.cmp .eq (.call "_law_draw" (.cons (.nm 1) (.cons (.int 3) .nil))) (.int 0)) (.cons (.asg (.tg (.nm 3)) (.call "_law_q" (.cons (.bin .sub (.bin .mul (.ix (.nm 3) (.int 0)) (.int 5)) (.int 3)) (.cons (.int 999959) .nil)))) .nil) .nil) (.cons (.par [5, 6] (.cons (.call "_law_handed" (.cons (.nm 1) (.cons (.nm 3) .nil))) (.cons (.call "_law_handed" (.cons (.nm 1) (.cons (.nm 4) .nil))) .nil))) (.cons (.asg (.tg (.nm 7)) (.lst (.cons (.nm 3) (.cons (.call "_law_plus" (.cons (.nm 3) (.cons (.nm 4) .nil))) (.cons (.call "_law_minus" (.cons (.nm 3) (.cons (.nm 4) .nil))) (.cons (.call "_law_times" (.cons (.nm 3) (.cons (.nm 4) .nil))) (.cons (.call "_law_less" (.cons (.nm 3) (.cons (.nm 4) .nil))) .nil))))))) (.cons (.if_ (.cmp .ne (.blt .repr (.cons (.lst (.cons (.call "told" (.cons (.nm 5) .nil)) (.cons (.call "plus" (.cons (.nm 5) (.cons (.nm 6) .nil))) (.cons (.call "minus" (.cons (.nm 5) (.cons (.nm 6) .nil))) (.cons (.call "times" (.cons (.nm 5) (.cons (.nm 6) .nil))) (.cons (.call "less" (.cons (.nm 5) (.cons (.nm 6) .nil))) .nil)))))) .nil)) (.blt .repr (.cons (.nm 7) .nil))) (.cons (.ret (.bl false)) .nil) .nil) (.cons (.if_ (.cmp .ne (.blt .repr (.cons (.call "is_ratio" (.cons (.nm 5) .nil)) .nil)) (.blt .repr (.cons (.not (.isi (.nm 5) [.ty "list"])) .nil))) (.cons (.ret (.bl false)) .nil) .nil) (.cons (.if_ (.and (.cmp .ne (.ix (.nm 4) (.int 0)) (.int 0)) (.cmp .ne (.blt .repr (.cons (.call "share" (.cons (.nm 5) (.cons (.nm 6) .nil))) .nil)) (.blt .repr (.cons (.call "_law_share" (.cons (.nm 3) (.cons (.nm 4) .nil))) .nil)))) (.cons (.ret (.bl false)) .nil) .nil) .nil)))))))) (.cons (.asg (.tg (.nm 8)) (.call "_law_pick" (.cons (.nm 1) (.cons (.lst (.cons .non (.cons (.str "1") (.cons (.tup (.cons (.int 1) .nil)) (.cons (.tup (.cons (.int 1) (.cons (.int 0) .nil))) (.cons (.tup (.cons (.int 1) (.cons (.neg (.int 2)) .nil))) (.cons (.tup (.cons (.bl true) (.cons (.int 2) .nil))) (.cons (.tup (.cons (.int 1) (.cons (.bl true) .nil))) (.cons (.bl true) (.cons (.tup (.cons (.int 1) (.cons (.int 2) (.cons (.int 3) .nil)))) (.cons (.lst .nil) (.cons (.dsp [] .nil) .nil)))))))))))) .nil)))) (.cons (.asg (.tg (.tp (.cons (.nm 9) (.cons (.nm 10) .nil)))) (.tup (.cons (.call "_law_pick" (.cons (.nm 1) (.cons (.lst (.cons (.str "x") (.cons (.tup (.cons (.int 0) (.cons (.int 0) .nil))) (.cons .non .nil)))) .nil))) (.cons (.call "_law_pick" (.cons (.nm 1) (.cons (.lst (.cons (.int 0) (.cons (.tup (.cons (.int 0) (.cons (.int 6) .nil))) .nil))) .nil))) .nil)))) (.cons (.asg (.tg (.nm 11)) (.lst (.cons (.tup (.cons (.lam [8] (.call "told" (.cons (.nm 8) .nil))) (.cons (.tup (.cons (.str "row") (.cons (.nm 8) .nil))) .nil))) .nil))) (.cons (.ex (.app 11 (.tup (.cons (.lam [8, 9] (.call "plus" (.cons (.nm 8) (.cons (.nm 9) .nil)))) (.cons (.tup (.cons (.str "row") (.cons (.nm 8) .nil))) .nil))))) (.cons (.ex (.app 11 (.tup (.cons (.lam [8] (.call "minus" (.cons (.int 1) (.cons (.nm 8) .nil)))) (.cons (.tup (.cons (.str "row") (.cons (.nm 8) .nil))) .nil))))) (.cons (.ex (.app 11 (.tup (.cons (.lam [8, 9] (.call "times" (.cons (.nm 9) (.cons (.nm 8) .nil)))) (.cons (.tup (.cons (.str "row") (.cons (.nm 9) .nil))) .nil))))) (.cons (.ex (.app 11 (.tup (.cons (.lam [8] (.call "less" (.cons (.tup (.cons (.int 1) (.cons (.int 2) .nil))) (.cons (.nm 8) .nil)))) (.cons (.tup (.cons (.str "row") (.cons (.nm 8) .nil))) .nil))))) (.cons (.ex (.app 11 (.tup (.cons (.lam [8] (.call "share" (.cons (.nm 8) (.cons (.int 0) .nil)))) (.cons (.tup (.cons (.str "row") (.cons (.nm 8) .nil))) .nil))))) (.cons (.ex (.app 11 (.tup (.cons (.lam [8] (.call "share" (.cons (.int 1) (.cons (.nm 8) .nil)))) (.cons (.tup (.cons (.str "row") (.cons (.nm 8) .nil))) .nil))))) (.cons (.ex (.app 11 (.tup (.cons (.lam [10] (.call "share" (.cons (.int 3) (.cons (.nm 10) .nil)))) (.cons (.tup (.cons (.str "number") (.cons (.str "share") (.cons (.int 0) .nil)))) .nil))))) (.cons (.ret (.and (.cmp .is_ (.call "is_ratio" (.cons (.nm 8) .nil)) (.bl false)) (.call "_law_are_due" (.cons (.nm 11) .nil)))) .nil)))))))))))))
def fnL : List (PySem.Str × Fn) := [("is_whole", ⟨1, 1, b0⟩), ("is_pair", ⟨1, 1, b1⟩), ("is_ratio", ⟨1, 1, b2⟩), ("lowest", ⟨2, 3, b3⟩), ("told", ⟨1, 1, b4⟩), ("summed", ⟨2, 2, b5⟩), ("lessened", ⟨2, 2, b6⟩), ("scaled", ⟨2, 2, b7⟩), ("parted", ⟨2, 2, b8⟩), ("below", ⟨2, 2, b9⟩), ("plus", ⟨2, 4, b10⟩), ("minus", ⟨2, 4, b11⟩), ("times", ⟨2, 4, b12⟩), ("share", ⟨2, 4, b13⟩), ("less", ⟨2, 4, b14⟩), ("_law_pen", ⟨1, 3, b15⟩), ("_law_draw", ⟨2, 5, b16⟩), ("_law_pick", ⟨2, 2, b17⟩), ("_law_gcd", ⟨2, 3, b18⟩), ("_law_q", ⟨2, 3, b19⟩), ("_law_plus", ⟨2, 2, b20⟩), ("_law_times", ⟨2, 2, b21⟩), ("_law_less", ⟨2, 2, b22⟩), ("_law_minus", ⟨2, 2, b23⟩), ("_law_share", ⟨2, 2, b24⟩), ("_law_number", ⟨2, 3, b25⟩), ("_law_handed", ⟨2, 3, b26⟩), ("_law_fault", ⟨1, 2, b27⟩), ("_law_are_due", ⟨1, 3, b28⟩)]
def con0 : PySem.Str → Option T := fun _ => none
def hq : Heq := []
def pg : Pg := ⟨fun f => fnL.lookup f, con0, fun a b => decide (a = b), heqO hq, fun n => nd.excs.lookup n⟩
theorem fn0 : pg.fn "is_whole" = some ⟨1, 1, b0⟩ := by kernel_rfl
theorem fn1 : pg.fn "is_pair" = some ⟨1, 1, b1⟩ := by kernel_rfl
theorem fn2 : pg.fn "is_ratio" = some ⟨1, 1, b2⟩ := by kernel_rfl
theorem fn3 : pg.fn "lowest" = some ⟨2, 3, b3⟩ := by kernel_rfl
theorem fn4 : pg.fn "told" = some ⟨1, 1, b4⟩ := by kernel_rfl
theorem fn5 : pg.fn "summed" = some ⟨2, 2, b5⟩ := by kernel_rfl
theorem fn6 : pg.fn "lessened" = some ⟨2, 2, b6⟩ := by kernel_rfl
theorem fn7 : pg.fn "scaled" = some ⟨2, 2, b7⟩ := by kernel_rfl
theorem fn8 : pg.fn "parted" = some ⟨2, 2, b8⟩ := by kernel_rfl
theorem fn9 : pg.fn "below" = some ⟨2, 2, b9⟩ := by kernel_rfl
theorem fn10 : pg.fn "plus" = some ⟨2, 4, b10⟩ := by kernel_rfl
theorem fn11 : pg.fn "minus" = some ⟨2, 4, b11⟩ := by kernel_rfl
theorem fn12 : pg.fn "times" = some ⟨2, 4, b12⟩ := by kernel_rfl
theorem fn13 : pg.fn "share" = some ⟨2, 4, b13⟩ := by kernel_rfl
theorem fn14 : pg.fn "less" = some ⟨2, 4, b14⟩ := by kernel_rfl
theorem fn15 : pg.fn "_law_pen" = some ⟨1, 3, b15⟩ := by kernel_rfl
theorem fn16 : pg.fn "_law_draw" = some ⟨2, 5, b16⟩ := by kernel_rfl
theorem fn17 : pg.fn "_law_pick" = some ⟨2, 2, b17⟩ := by kernel_rfl
theorem fn18 : pg.fn "_law_gcd" = some ⟨2, 3, b18⟩ := by kernel_rfl
theorem fn19 : pg.fn "_law_q" = some ⟨2, 3, b19⟩ := by kernel_rfl
theorem fn20 : pg.fn "_law_plus" = some ⟨2, 2, b20⟩ := by kernel_rfl
theorem fn21 : pg.fn "_law_times" = some ⟨2, 2, b21⟩ := by kernel_rfl
theorem fn22 : pg.fn "_law_less" = some ⟨2, 2, b22⟩ := by kernel_rfl
theorem fn23 : pg.fn "_law_minus" = some ⟨2, 2, b23⟩ := by kernel_rfl
theorem fn24 : pg.fn "_law_share" = some ⟨2, 2, b24⟩ := by kernel_rfl
theorem fn25 : pg.fn "_law_number" = some ⟨2, 3, b25⟩ := by kernel_rfl
theorem fn26 : pg.fn "_law_handed" = some ⟨2, 3, b26⟩ := by kernel_rfl
theorem fn27 : pg.fn "_law_fault" = some ⟨1, 2, b27⟩ := by kernel_rfl
theorem fn28 : pg.fn "_law_are_due" = some ⟨1, 3, b28⟩ := by kernel_rfl
end Zk

set_option Elab.async false
set_option linter.all false
set_option maxRecDepth 100000
set_option maxHeartbeats 0
/-! the text of chainorders_k02_ratios -/
namespace Zk
open PySem PySem.Spec PyProof.Rows L2 Zl
def top (i : Nat) : Stmt := PySem.Challenge.pw_chainorders_k02_ratios.main.body.getD i (.Pass ⟨0, 0, 0, 0⟩)
def ms : List (PySem.Str × PySem.Str × PySem.Str) := []
def t0 : Tf := ⟨"is_whole", ("is_whole", none), "is_whole", "is_whole", ["value"], ["value"], top 11, b0⟩
theorem tr0 : (Rc.at nd 400).ss ⟨t0.N, (defScope t0.st).names, t0.N, false, true⟩ (defBody t0.st) = some t0.b := by kernel_rfl
theorem ok0 : TfOk nd t0 := ⟨C8.fnScope_by (by decide +kernel), by decide, ⟨400, tr0⟩, fun _ _ _ _ _ _ us hl => match us, hl with | [_], _ => rfl⟩
def t1 : Tf := ⟨"is_pair", ("is_pair", none), "is_pair", "is_pair", ["value"], ["value"], top 13, b1⟩
theorem tr1 : (Rc.at nd 400).ss ⟨t1.N, (defScope t1.st).names, t1.N, false, true⟩ (defBody t1.st) = some t1.b := by kernel_rfl
theorem ok1 : TfOk nd t1 := ⟨C8.fnScope_by (by decide +kernel), by decide, ⟨400, tr1⟩, fun _ _ _ _ _ _ us hl => match us, hl with | [_], _ => rfl⟩
def t2 : Tf := ⟨"is_ratio", ("is_ratio", none), "is_ratio", "is_ratio", ["value"], ["value"], top 14, b2⟩
theorem tr2 : (Rc.at nd 400).ss ⟨t2.N, (defScope t2.st).names, t2.N, false, true⟩ (defBody t2.st) = some t2.b := by kernel_rfl
theorem ok2 : TfOk nd t2 := ⟨C8.fnScope_by (by decide +kernel), by decide, ⟨400, tr2⟩, fun _ _ _ _ _ _ us hl => match us, hl with | [_], _ => rfl⟩
def t3 : Tf := ⟨"lowest", ("lowest", none), "lowest", "lowest", ["top", "bottom"], ["top", "bottom", "by"], top 15, b3⟩
theorem tr3 : (Rc.at nd 400).ss ⟨t3.N, (defScope t3.st).names, t3.N, false, true⟩ (defBody t3.st) = some t3.b := by kernel_rfl
theorem ok3 : TfOk nd t3 := ⟨C8.fnScope_by (by decide +kernel), by decide, ⟨400, tr3⟩, fun _ _ _ _ _ _ us hl => match us, hl with | [_, _], _ => rfl⟩
def t4 : Tf := ⟨"told", ("told", none), "told", "told", ["ratio"], ["ratio"], top 16, b4⟩
theorem tr4 : (Rc.at nd 400).ss ⟨t4.N, (defScope t4.st).names, t4.N, false, true⟩ (defBody t4.st) = some t4.b := by kernel_rfl
theorem ok4 : TfOk nd t4 := ⟨C8.fnScope_by (by decide +kernel), by decide, ⟨400, tr4⟩, fun _ _ _ _ _ _ us hl => match us, hl with | [_], _ => rfl⟩
def t5 : Tf := ⟨"summed", ("summed", none), "summed", "summed", ["one", "other"], ["one", "other"], top 17, b5⟩
theorem tr5 : (Rc.at nd 400).ss ⟨t5.N, (defScope t5.st).names, t5.N, false, true⟩ (defBody t5.st) = some t5.b := by kernel_rfl
theorem ok5 : TfOk nd t5 := ⟨C8.fnScope_by (by decide +kernel), by decide, ⟨400, tr5⟩, fun _ _ _ _ _ _ us hl => match us, hl with | [_, _], _ => rfl⟩
def t6 : Tf := ⟨"lessened", ("lessened", none), "lessened", "lessened", ["one", "other"], ["one", "other"], top 18, b6⟩
theorem tr6 : (Rc.at nd 400).ss ⟨t6.N, (defScope t6.st).names, t6.N, false, true⟩ (defBody t6.st) = some t6.b := by kernel_rfl
theorem ok6 : TfOk nd t6 := ⟨C8.fnScope_by (by decide +kernel), by decide, ⟨400, tr6⟩, fun _ _ _ _ _ _ us hl => match us, hl with | [_, _], _ => rfl⟩
def t7 : Tf := ⟨"scaled", ("scaled", none), "scaled", "scaled", ["one", "other"], ["one", "other"], top 19, b7⟩
theorem tr7 : (Rc.at nd 400).ss ⟨t7.N, (defScope t7.st).names, t7.N, false, true⟩ (defBody t7.st) = some t7.b := by kernel_rfl
theorem ok7 : TfOk nd t7 := ⟨C8.fnScope_by (by decide +kernel), by decide, ⟨400, tr7⟩, fun _ _ _ _ _ _ us hl => match us, hl with | [_, _], _ => rfl⟩
def t8 : Tf := ⟨"parted", ("parted", none), "parted", "parted", ["one", "other"], ["one", "other"], top 20, b8⟩
theorem tr8 : (Rc.at nd 400).ss ⟨t8.N, (defScope t8.st).names, t8.N, false, true⟩ (defBody t8.st) = some t8.b := by kernel_rfl
theorem ok8 : TfOk nd t8 := ⟨C8.fnScope_by (by decide +kernel), by decide, ⟨400, tr8⟩, fun _ _ _ _ _ _ us hl => match us, hl with | [_, _], _ => rfl⟩
def t9 : Tf := ⟨"below", ("below", none), "below", "below", ["one", "other"], ["one", "other"], top 21, b9⟩
theorem tr9 : (Rc.at nd 400).ss ⟨t9.N, (defScope t9.st).names, t9.N, false, true⟩ (defBody t9.st) = some t9.b := by kernel_rfl
theorem ok9 : TfOk nd t9 := ⟨C8.fnScope_by (by decide +kernel), by decide, ⟨400, tr9⟩, fun _ _ _ _ _ _ us hl => match us, hl with | [_, _], _ => rfl⟩
def t10 : Tf := ⟨"plus", ("plus", none), "plus", "plus", ["one", "other"], ["one", "other", "first", "second"], top 22, b10⟩
theorem tr10 : (Rc.at nd 400).ss ⟨t10.N, (defScope t10.st).names, t10.N, false, true⟩ (defBody t10.st) = some t10.b := by kernel_rfl
theorem ok10 : TfOk nd t10 := ⟨C8.fnScope_by (by decide +kernel), by decide, ⟨400, tr10⟩, fun _ _ _ _ _ _ us hl => match us, hl with | [_, _], _ => rfl⟩
def t11 : Tf := ⟨"minus", ("minus", none), "minus", "minus", ["one", "other"], ["one", "other", "first", "second"], top 23, b11⟩
theorem tr11 : (Rc.at nd 400).ss ⟨t11.N, (defScope t11.st).names, t11.N, false, true⟩ (defBody t11.st) = some t11.b := by kernel_rfl
theorem ok11 : TfOk nd t11 := ⟨C8.fnScope_by (by decide +kernel), by decide, ⟨400, tr11⟩, fun _ _ _ _ _ _ us hl => match us, hl with | [_, _], _ => rfl⟩
def t12 : Tf := ⟨"times", ("times", none), "times", "times", ["one", "other"], ["one", "other", "first", "second"], top 24, b12⟩
theorem tr12 : (Rc.at nd 400).ss ⟨t12.N, (defScope t12.st).names, t12.N, false, true⟩ (defBody t12.st) = some t12.b := by kernel_rfl
theorem ok12 : TfOk nd t12 := ⟨C8.fnScope_by (by decide +kernel), by decide, ⟨400, tr12⟩, fun _ _ _ _ _ _ us hl => match us, hl with | [_, _], _ => rfl⟩
def t13 : Tf := ⟨"share", ("share", none), "share", "share", ["one", "other"], ["one", "other", "first", "second"], top 25, b13⟩
theorem tr13 : (Rc.at nd 400).ss ⟨t13.N, (defScope t13.st).names, t13.N, false, true⟩ (defBody t13.st) = some t13.b := by kernel_rfl
theorem ok13 : TfOk nd t13 := ⟨C8.fnScope_by (by decide +kernel), by decide, ⟨400, tr13⟩, fun _ _ _ _ _ _ us hl => match us, hl with | [_, _], _ => rfl⟩
def t14 : Tf := ⟨"less", ("less", none), "less", "less", ["one", "other"], ["one", "other", "first", "second"], top 26, b14⟩
theorem tr14 : (Rc.at nd 400).ss ⟨t14.N, (defScope t14.st).names, t14.N, false, true⟩ (defBody t14.st) = some t14.b := by kernel_rfl
theorem ok14 : TfOk nd t14 := ⟨C8.fnScope_by (by decide +kernel), by decide, ⟨400, tr14⟩, fun _ _ _ _ _ _ us hl => match us, hl with | [_, _], _ => rfl⟩
def t15 : Tf := ⟨"_law_pen", ("_law_pen", none), "_law_pen", "_law_pen", ["script"], ["script", "fold", "cell"], top 28, b15⟩
theorem tr15 : (Rc.at nd 400).ss ⟨t15.N, (defScope t15.st).names, t15.N, false, true⟩ (defBody t15.st) = some t15.b := by kernel_rfl
theorem ok15 : TfOk nd t15 := ⟨C8.fnScope_by (by decide +kernel), by decide, ⟨400, tr15⟩, fun _ _ _ _ _ _ us hl => match us, hl with | [_], _ => rfl⟩
def t16 : Tf := ⟨"_law_draw", ("_law_draw", none), "_law_draw", "_law_draw", ["pen", "many"], ["pen", "many", "cell", "digit", "blend"], top 29, b16⟩
theorem tr16 : (Rc.at nd 400).ss ⟨t16.N, (defScope t16.st).names, t16.N, false, true⟩ (defBody t16.st) = some t16.b := by kernel_rfl
theorem ok16 : TfOk nd t16 := ⟨C8.fnScope_by (by decide +kernel), by decide, ⟨400, tr16⟩, fun _ _ _ _ _ _ us hl => match us, hl with | [_, _], _ => rfl⟩
def t17 : Tf := ⟨"_law_pick", ("_law_pick", none), "_law_pick", "_law_pick", ["pen", "some"], ["pen", "some"], top 30, b17⟩
theorem tr17 : (Rc.at nd 400).ss ⟨t17.N, (defScope t17.st).names, t17.N, false, true⟩ (defBody t17.st) = some t17.b := by kernel_rfl
theorem ok17 : TfOk nd t17 := ⟨C8.fnScope_by (by decide +kernel), by decide, ⟨400, tr17⟩, fun _ _ _ _ _ _ us hl => match us, hl with | [_, _], _ => rfl⟩
def t18 : Tf := ⟨"_law_gcd", ("_law_gcd", none), "_law_gcd", "_law_gcd", ["one", "two"], ["one", "two", "lap"], top 31, b18⟩
theorem tr18 : (Rc.at nd 400).ss ⟨t18.N, (defScope t18.st).names, t18.N, false, true⟩ (defBody t18.st) = some t18.b := by kernel_rfl
theorem ok18 : TfOk nd t18 := ⟨C8.fnScope_by (by decide +kernel), by decide, ⟨400, tr18⟩, fun _ _ _ _ _ _ us hl => match us, hl with | [_, _], _ => rfl⟩
def t19 : Tf := ⟨"_law_q", ("_law_q", none), "_law_q", "_law_q", ["top", "bottom"], ["top", "bottom", "by"], top 32, b19⟩
theorem tr19 : (Rc.at nd 400).ss ⟨t19.N, (defScope t19.st).names, t19.N, false, true⟩ (defBody t19.st) = some t19.b := by kernel_rfl
theorem ok19 : TfOk nd t19 := ⟨C8.fnScope_by (by decide +kernel), by decide, ⟨400, tr19⟩, fun _ _ _ _ _ _ us hl => match us, hl with | [_, _], _ => rfl⟩
def t20 : Tf := ⟨"_law_plus", ("_law_plus", none), "_law_plus", "_law_plus", ["one", "two"], ["one", "two"], top 33, b20⟩
theorem tr20 : (Rc.at nd 400).ss ⟨t20.N, (defScope t20.st).names, t20.N, false, true⟩ (defBody t20.st) = some t20.b := by kernel_rfl
theorem ok20 : TfOk nd t20 := ⟨C8.fnScope_by (by decide +kernel), by decide, ⟨400, tr20⟩, fun _ _ _ _ _ _ us hl => match us, hl with | [_, _], _ => rfl⟩
def t21 : Tf := ⟨"_law_times", ("_law_times", none), "_law_times", "_law_times", ["one", "two"], ["one", "two"], top 34, b21⟩
theorem tr21 : (Rc.at nd 400).ss ⟨t21.N, (defScope t21.st).names, t21.N, false, true⟩ (defBody t21.st) = some t21.b := by kernel_rfl
theorem ok21 : TfOk nd t21 := ⟨C8.fnScope_by (by decide +kernel), by decide, ⟨400, tr21⟩, fun _ _ _ _ _ _ us hl => match us, hl with | [_, _], _ => rfl⟩
def t22 : Tf := ⟨"_law_less", ("_law_less", none), "_law_less", "_law_less", ["one", "two"], ["one", "two"], top 35, b22⟩
theorem tr22 : (Rc.at nd 400).ss ⟨t22.N, (defScope t22.st).names, t22.N, false, true⟩ (defBody t22.st) = some t22.b := by kernel_rfl
theorem ok22 : TfOk nd t22 := ⟨C8.fnScope_by (by decide +kernel), by decide, ⟨400, tr22⟩, fun _ _ _ _ _ _ us hl => match us, hl with | [_, _], _ => rfl⟩
def t23 : Tf := ⟨"_law_minus", ("_law_minus", none), "_law_minus", "_law_minus", ["one", "two"], ["one", "two"], top 36, b23⟩
theorem tr23 : (Rc.at nd 400).ss ⟨t23.N, (defScope t23.st).names, t23.N, false, true⟩ (defBody t23.st) = some t23.b := by kernel_rfl
theorem ok23 : TfOk nd t23 := ⟨C8.fnScope_by (by decide +kernel), by decide, ⟨400, tr23⟩, fun _ _ _ _ _ _ us hl => match us, hl with | [_, _], _ => rfl⟩
def t24 : Tf := ⟨"_law_share", ("_law_share", none), "_law_share", "_law_share", ["one", "two"], ["one", "two"], top 37, b24⟩
theorem tr24 : (Rc.at nd 400).ss ⟨t24.N, (defScope t24.st).names, t24.N, false, true⟩ (defBody t24.st) = some t24.b := by kernel_rfl
theorem ok24 : TfOk nd t24 := ⟨C8.fnScope_by (by decide +kernel), by decide, ⟨400, tr24⟩, fun _ _ _ _ _ _ us hl => match us, hl with | [_, _], _ => rfl⟩
def t25 : Tf := ⟨"_law_number", ("_law_number", none), "_law_number", "_law_number", ["pen", "most"], ["pen", "most", "top"], top 38, b25⟩
theorem tr25 : (Rc.at nd 400).ss ⟨t25.N, (defScope t25.st).names, t25.N, false, true⟩ (defBody t25.st) = some t25.b := by kernel_rfl
theorem ok25 : TfOk nd t25 := ⟨C8.fnScope_by (by decide +kernel), by decide, ⟨400, tr25⟩, fun _ _ _ _ _ _ us hl => match us, hl with | [_, _], _ => rfl⟩
def t26 : Tf := ⟨"_law_handed", ("_law_handed", none), "_law_handed", "_law_handed", ["pen", "ratio"], ["pen", "ratio", "by"], top 39, b26⟩
theorem tr26 : (Rc.at nd 400).ss ⟨t26.N, (defScope t26.st).names, t26.N, false, true⟩ (defBody t26.st) = some t26.b := by kernel_rfl
theorem ok26 : TfOk nd t26 := ⟨C8.fnScope_by (by decide +kernel), by decide, ⟨400, tr26⟩, fun _ _ _ _ _ _ us hl => match us, hl with | [_, _], _ => rfl⟩
def t27 : Tf := ⟨"_law_fault", ("_law_fault", none), "_law_fault", "_law_fault", ["work"], ["work", "fault"], top 40, b27⟩
theorem tr27 : (Rc.at nd 400).ss ⟨t27.N, (defScope t27.st).names, t27.N, false, true⟩ (defBody t27.st) = some t27.b := by kernel_rfl
theorem ok27 : TfOk nd t27 := ⟨C8.fnScope_by (by decide +kernel), by decide, ⟨400, tr27⟩, fun _ _ _ _ _ _ us hl => match us, hl with | [_], _ => rfl⟩
def t28 : Tf := ⟨"_law_are_due", ("_law_are_due", none), "_law_are_due", "_law_are_due", ["tries"], ["tries", "work", "due"], top 41, b28⟩
theorem tr28 : (Rc.at nd 400).ss ⟨t28.N, (defScope t28.st).names, t28.N, false, true⟩ (defBody t28.st) = some t28.b := by kernel_rfl
theorem ok28 : TfOk nd t28 := ⟨C8.fnScope_by (by decide +kernel), by decide, ⟨400, tr28⟩, fun _ _ _ _ _ _ us hl => match us, hl with | [_], _ => rfl⟩
def t29 : Tf := ⟨"law", ("law", none), "law", "law", ["script"], ["script", "pen", "lap", "one", "two", "a", "b", "due", "bad", "odd", "zero", "tries"], top 42, b29⟩
theorem tr29 : (Rc.at nd 400).ss ⟨t29.N, (defScope t29.st).names, t29.N, true, true⟩ (defBody t29.st) = some t29.b := by kernel_rfl
def tfs : List Tf := [t0, t1, t2, t3, t4, t5, t6, t7, t8, t9, t10, t11, t12, t13, t14, t15, t16, t17, t18, t19, t20, t21, t22, t23, t24, t25, t26, t27, t28]
theorem tfs_ok : ∀ t ∈ tfs, TfOk nd t ∧ pathOf ms t.nm = t.at_ := by
  intro t h
  simp only [tfs, List.mem_cons, List.not_mem_nil, or_false] at h
  rcases h with h | h | h | h | h | h | h | h | h | h | h | h | h | h | h | h | h | h | h | h | h | h | h | h | h | h | h | h | h
  · subst h; exact ⟨ok0, by decide +kernel⟩
  · subst h; exact ⟨ok1, by decide +kernel⟩
  · subst h; exact ⟨ok2, by decide +kernel⟩
  · subst h; exact ⟨ok3, by decide +kernel⟩
  · subst h; exact ⟨ok4, by decide +kernel⟩
  · subst h; exact ⟨ok5, by decide +kernel⟩
  · subst h; exact ⟨ok6, by decide +kernel⟩
  · subst h; exact ⟨ok7, by decide +kernel⟩
  · subst h; exact ⟨ok8, by decide +kernel⟩
  · subst h; exact ⟨ok9, by decide +kernel⟩
  · subst h; exact ⟨ok10, by decide +kernel⟩
  · subst h; exact ⟨ok11, by decide +kernel⟩
  · subst h; exact ⟨ok12, by decide +kernel⟩
  · subst h; exact ⟨ok13, by decide +kernel⟩
  · subst h; exact ⟨ok14, by decide +kernel⟩
  · subst h; exact ⟨ok15, by decide +kernel⟩
  · subst h; exact ⟨ok16, by decide +kernel⟩
  · subst h; exact ⟨ok17, by decide +kernel⟩
  · subst h; exact ⟨ok18, by decide +kernel⟩
  · subst h; exact ⟨ok19, by decide +kernel⟩
  · subst h; exact ⟨ok20, by decide +kernel⟩
  · subst h; exact ⟨ok21, by decide +kernel⟩
  · subst h; exact ⟨ok22, by decide +kernel⟩
  · subst h; exact ⟨ok23, by decide +kernel⟩
  · subst h; exact ⟨ok24, by decide +kernel⟩
  · subst h; exact ⟨ok25, by decide +kernel⟩
  · subst h; exact ⟨ok26, by decide +kernel⟩
  · subst h; exact ⟨ok27, by decide +kernel⟩
  · subst h; exact ⟨ok28, by decide +kernel⟩
theorem pg_eq : pgOf nd hq con0 tfs = pg := by
  unfold pgOf pg
  congr 1
  funext f
  show (fnO tfs f).map Tf.fn = fnL.lookup f
  exact fnO_lookup tfs fnL f (by kernel_rfl)
def tLaw : Tf := t29
theorem trLaw : (Rc.at nd 400).ss ⟨tLaw.N, (defScope tLaw.st).names, tLaw.N, true, true⟩ (defBody tLaw.st) = some b29 := tr29
theorem scLaw : FnScope tLaw.N ["script"] (defScope tLaw.st) := C8.fnScope_by (by decide +kernel)
theorem cellLaw : ∀ y ∈ (defScope tLaw.st).names, y.2 = .cell → (defScope tLaw.st).names.lookup y.1 = some .cell := by decide +kernel
def x0 : He.DefD := ⟨("BadNumber", some "__init__"), "__init__", "BadNumber.__init__", defArgs (inClass (top 3) 0), defBody (inClass (top 3) 0), defScope (inClass (top 3) 0), [], []⟩
def x1 : He.DefD := ⟨("BadOrder", some "__init__"), "__init__", "BadOrder.__init__", defArgs (inClass (top 4) 0), defBody (inClass (top 4) 0), defScope (inClass (top 4) 0), [], []⟩
def x2 : He.DefD := ⟨("BadLot", some "__init__"), "__init__", "BadLot.__init__", defArgs (inClass (top 5) 0), defBody (inClass (top 5) 0), defScope (inClass (top 5) 0), [], []⟩
def x3 : He.DefD := ⟨("BadRow", some "__init__"), "__init__", "BadRow.__init__", defArgs (inClass (top 6) 0), defBody (inClass (top 6) 0), defScope (inClass (top 6) 0), [], []⟩
def x4 : He.DefD := ⟨("BadTable", some "__init__"), "__init__", "BadTable.__init__", defArgs (inClass (top 7) 0), defBody (inClass (top 7) 0), defScope (inClass (top 7) 0), [], []⟩
def x5 : He.DefD := ⟨("Unlike", some "__init__"), "__init__", "Unlike.__init__", defArgs (inClass (top 8) 0), defBody (inClass (top 8) 0), defScope (inClass (top 8) 0), [], []⟩
def x6 : He.DefD := ⟨("TooMany", some "__init__"), "__init__", "TooMany.__init__", defArgs (inClass (top 9) 0), defBody (inClass (top 9) 0), defScope (inClass (top 9) 0), [], []⟩
def dfs : List He.DefD := tfs.map Tf.d ++ [tLaw.d, x0, x1, x2, x3, x4, x5, x6]
end Zk

set_option Elab.async false
set_option linter.all false
set_option maxRecDepth 100000
set_option maxHeartbeats 0
/-! the head of chainorders_k02_ratios -/
namespace Zk
open PySem PySem.Spec PyProof.Rows L2 Zl
def exB (K : PySem.W.Frag) : Bool := (He.Fa.glo "law").ok K && gndB nd hq ms "OrderError" K
def tfL : List He.Defn := [("law", none)]
def loose_0 : List PySem.Str := ["OrderError", "BadNumber", "BadOrder", "BadLot", "BadRow", "BadTable", "Unlike", "TooMany", "is_whole", "is_pair", "is_ratio", "lowest", "told", "summed", "lessened", "scaled", "parted", "below", "plus", "minus", "times", "share", "less", "_law_pen", "_law_draw", "_law_pick", "_law_gcd", "_law_q", "_law_plus", "_law_times"]
def loose_1 : List PySem.Str := ["_law_less", "_law_minus", "_law_share", "_law_number", "_law_handed", "_law_fault", "_law_are_due"]
def loose : List PySem.Str := loose_0 ++ loose_1
abbrev R : PySem.W.OpenRow := PySem.W.OpenLaw.row PySem.Challenge.rw_chainorders_k02_ratios
abbrev hk : PySem.W.Hook := hookY 5 dfs tfL exB
def ob (s : PySem.W.SharedT) : Bool × List He.FnW := obsY 5 dfs tfL exB (HandSHeadRun.getT s)
theorem ob_eq (s : PySem.W.SharedT) : ob s = hk.obs s.abs := obsY_eq (HandSHeadRun.getT_eq s)
theorem run (w : World) : HandSHeadRun.RunEqI R (PySem.W.view R.prog [0, 42]) hk ob 20000 loose w := by
  unfold HandSHeadRun.RunEqI
  kernel_rfl
end Zk

set_option Elab.async false
set_option linter.all false
set_option maxRecDepth 100000
set_option maxHeartbeats 4000000
namespace Zk
open PySem Zl
def Sm (x : Int) : Prop := x.natAbs < 2 ^ 64
theorem sm_mul {x : Int} (y : Int) (h : Sm x) : IntMulOk x y := IntMulOk.of_left (by
  unfold Sm at h
  unfold Builtin.Int.intBits
  split
  · omega
  · rename_i z
    have z : x.natAbs ≠ 0 := by simpa using z
    have := (Nat.log2_lt z).mpr h
    omega)
theorem sm_log {x : Int} (h : Sm x) : x.natAbs.log2 < 9000 := by
  unfold Sm at h
  by_cases z : x.natAbs = 0
  · rw [z]; decide
  · have := (Nat.log2_lt z).mpr h
    omega
def isW : T → Bool
  | .int _ => true
  | _ => false
theorem any1 {c : Pr} {t : T} {n : String} : [Cl.ty n].any (isaT c t) = tyb t n := by simp [isaT]
theorem any2 {c : Pr} {t : T} {n m : String} : [Cl.ty n, Cl.ty m].any (isaT c t) = (tyb t n || tyb t m) := by simp [isaT]
theorem cv_whole {n : Nat} {t : T} (ht : tyOk t = true) : Cv false (pg.at (n + 1)) "is_whole" [.sh t] (.bl (isW t)) := cv_fn fn0 rfl fun D q => by
  refine ws_ret (t := .bl (isW t)) ?_ (q _)
  have h1 : Ev false (pg.at n) (.isi (.nm 0) [.ty "int"]) ([Slot.sh t] ++ List.replicate (1 - 1) .no) (.bl (tyb t "int")) := by
    have := ev_isi (c := pg.at n) (cs := [.ty "int"]) (ρ := [Slot.sh t] ++ List.replicate (1 - 1) .no) (ev_sh (i := 0) rfl) ht
    rw [any1] at this; exact this
  have h2 : Ev false (pg.at n) (.isi (.nm 0) [.ty "bool"]) ([Slot.sh t] ++ List.replicate (1 - 1) .no) (.bl (tyb t "bool")) := by
    have := ev_isi (c := pg.at n) (cs := [.ty "bool"]) (ρ := [Slot.sh t] ++ List.replicate (1 - 1) .no) (ev_sh (i := 0) rfl) ht
    rw [any1] at this; exact this
  have h3 := ev_not h2 rfl
  have e : tyb t "int" = false ∧ isW t = false ∨ tyb t "int" = true ∧ isW t = (!tyb t "bool") := by
    cases t <;> simp [tyb, tabB, tyT, isW]
  have h4 := ev_and (fb := false) (u := .bl (isW t)) h1 rfl (fun z => by
    rcases e with e | e
    · rw [e.1] at z; cases z
    · have := h3; rw [← e.2] at this; exact this) (fun z => by
    rcases e with e | e
    · rw [e.1, e.2]; exact ⟨rfl, rfl⟩
    · rw [e.1] at z; cases z)
  rw [Bool.and_false] at h4
  exact h4
theorem cv_n {n : Nat} {f : PySem.Str} {sl : List Slot} {r r' : T} {fr : Bool} (h : Cv fr (pg.at n) f sl r) (e : r = r') : Cv fr (pg.at n) f sl r' := e ▸ h
theorem ev_n {c : Pr} {fr : Bool} {x : E} {ρ : Zl.Env} {r r' : T} (h : Ev fr c x ρ r) (e : r = r') : Ev fr c x ρ r' := e ▸ h
theorem bv_n {c : Pr} {x : E} {ρ : Zl.Env} {r r' : Bool} (h : Bv c x ρ r) (e : r = r') : Bv c x ρ r' := e ▸ h
/-- a pair of integers of which the second is above 0 -/
def isPs : List T → Bool
  | [.int _, .int b] => decide (0 < b)
  | _ => false
def isP : T → Bool
  | .tup xs => isPs xs
  | .lst xs => isPs xs
  | _ => false
/-- a value whose parts may be asked for their types -/
def okT : T → Prop
  | .tup xs => ∀ x ∈ xs, tyOk x = true
  | .lst xs => ∀ x ∈ xs, tyOk x = true
  | t => tyOk t = true
theorem okT_ty {t : T} (h : okT t) : tyOk t = true := by cases t <;> first | rfl | exact h
section
variable {n : Nat} {t : T}
theorem pair_seq {xs : List T} (hx : ∀ x ∈ xs, tyOk x = true) (he : t = .tup xs ∨ t = .lst xs) : Cv false (pg.at (n + 2)) "is_pair" [.sh t] (.bl (isPs xs)) := cv_fn fn1 rfl fun D q => by
  have hn : Ev false (pg.at (n + 1)) (.nm 0) ([Slot.sh t] ++ List.replicate (1 - 1) .no) t := ev_sh rfl
  have ht : tyOk t = true := by rcases he with e | e <;> subst e <;> rfl
  have hln : Ev false (pg.at (n + 1)) (.blt .len (.cons (.nm 0) .nil)) ([Slot.sh t] ++ List.replicate (1 - 1) .no) (.int xs.length) := ev_blt1 hn fun Q q => by
    rcases he with e | e <;> subst e <;> exact q
  have hne : Bv (pg.at (n + 1)) (.cmp .ne (.blt .len (.cons (.nm 0) .nil)) (.int 2)) ([Slot.sh t] ++ List.replicate (1 - 1) .no) (!((xs.length : Int) == 2)) := bv_cmp rfl hln ev_int cr_neI
  have hty : Bv (pg.at (n + 1)) (.not (.isi (.nm 0) [.ty "tuple", .ty "list"])) ([Slot.sh t] ++ List.replicate (1 - 1) .no) false := by
    have := bv_not (bv_isi (cs := [.ty "tuple", .ty "list"]) hn ht)
    refine bv_n this ?_
    rw [any2]
    rcases he with e | e <;> subst e <;> simp [tyb, tabB, tyT]
  refine ws_if (k := !((xs.length : Int) == 2)) (bv_or hty (fun _ => hne) (fun z => by cases z)) (fun z => ?_) fun z => ?_
  · refine ws_ret (t := .bl (isPs xs)) (ev_n ev_bl ?_) (q _)
    match xs, z with
    | [], _ => rfl
    | [a], _ => cases a <;> rfl
    | [_, _], z => simp at z
    | a :: b :: _ :: _, _ => cases a <;> first | rfl | (cases b <;> rfl)
  · refine ws_nil ?_
    have : ∃ a b, xs = [a, b] := by
      match xs, z with
      | [], z => simp at z
      | [_], z => simp at z
      | [a, b], _ => exact ⟨a, b, rfl⟩
      | a :: b :: d :: r, z => simp at z; omega
    obtain ⟨a, b, rfl⟩ := this
    have h0 : Ev false (pg.at (n + 1)) (.ix (.nm 0) (.int 0)) ([Slot.sh t] ++ List.replicate (1 - 1) .no) a := ev_ix hn ev_int fun Q q => by
      rcases he with e | e <;> subst e <;> exact ⟨a, rfl, q⟩
    have h1 : Ev false (pg.at (n + 1)) (.ix (.nm 0) (.int 1)) ([Slot.sh t] ++ List.replicate (1 - 1) .no) b := ev_ix hn ev_int fun Q q => by
      rcases he with e | e <;> subst e <;> exact ⟨b, rfl, q⟩
    have c0 := ev_call (.cons h0 .nil) (cv_whole (n := n) (hx a (by simp)))
    have c1 := ev_call (.cons h1 .nil) (cv_whole (n := n) (hx b (by simp)))
    refine ws_ret (t := .bl (isPs [a, b])) ?_ (q _)
    have inner : Ev false (pg.at (n + 1)) (.and (.call "is_whole" (.cons (.ix (.nm 0) (.int 1)) .nil)) (.cmp .gt (.ix (.nm 0) (.int 1)) (.int 0))) ([Slot.sh t] ++ List.replicate (1 - 1) .no) (.bl (match b with
        | .int z => decide (0 < z)
        | _ => false)) := by
      have := ev_and (fb := false) (u := .bl (match b with
        | .int z => decide (0 < z)
        | _ => false)) c1 rfl (fun z => by
          cases b with
          | int y => exact ev_cmp rfl h1 ev_int cr_gt
          | _ => cases z) (fun z => ⟨rfl, by cases b <;> first | rfl | cases z⟩)
      rw [Bool.and_false] at this
      exact this
    have := ev_and (fb := false) (u := .bl (isPs [a, b])) c0 rfl (fun z => by
        cases a with
        | int y => refine ev_n inner ?_; cases b <;> rfl
        | _ => cases z) (fun z => ⟨rfl, by cases a <;> first | rfl | cases z⟩)
    rw [Bool.and_false] at this
    exact this
theorem cv_pair (h : okT t) : Cv false (pg.at (n + 2)) "is_pair" [.sh t] (.bl (isP t)) := by
  have other : tyb t "tuple" = false → tyb t "list" = false → isP t = false → Cv false (pg.at (n + 2)) "is_pair" [.sh t] (.bl (isP t)) := fun h1 h2 h3 => cv_fn fn1 rfl fun D q => by
    have hn : Ev false (pg.at (n + 1)) (.nm 0) ([Slot.sh t] ++ List.replicate (1 - 1) .no) t := ev_sh rfl
    have hty : Bv (pg.at (n + 1)) (.not (.isi (.nm 0) [.ty "tuple", .ty "list"])) ([Slot.sh t] ++ List.replicate (1 - 1) .no) true := by
      have := bv_not (bv_isi (cs := [.ty "tuple", .ty "list"]) hn (okT_ty h))
      refine bv_n this ?_
      rw [any2, h1, h2]; rfl
    refine ws_if (k := true) (bv_or hty (fun z => by cases z) (fun z => rfl)) (fun z => ?_) fun z => by cases z
    rw [h3] at q
    exact ws_ret ev_bl (q _)
  cases t with
  | tup xs => exact pair_seq h (.inl rfl)
  | lst xs => exact pair_seq h (.inr rfl)
  | scr xs => cases h
  | fn xs => cases h
  | clo xs => cases h
  | _ => exact other (by simp [tyb, tabB, tyT]) (by simp [tyb, tabB, tyT]) rfl
end
end Zk

set_option Elab.async false
set_option linter.all false
set_option maxRecDepth 100000
set_option maxHeartbeats 4000000
namespace Zk
open PySem Zl
def gd (a b : Int) : Int := if 0 < b then (Nat.gcd a.natAbs b.natAbs : Nat) else -(Nat.gcd a.natAbs b.natAbs : Nat)
def low (a b : Int) : Int × Int := (a.fdiv (gd a b), b.fdiv (gd a b))
def T2 (p : Int × Int) : T := .tup [.int p.1, .int p.2]
theorem gd_ne {a b : Int} (hb : b ≠ 0) : gd a b ≠ 0 := by
  have : Nat.gcd a.natAbs b.natAbs ≠ 0 := fun z => hb (by have := Nat.eq_zero_of_gcd_eq_zero_right z; omega)
  unfold gd
  split <;> omega
theorem gd_sm {a b : Int} (hb : b ≠ 0) (h : Sm b) : Sm (gd a b) := by
  have h1 : Nat.gcd a.natAbs b.natAbs ≤ b.natAbs := Nat.le_of_dvd (by omega) (Nat.gcd_dvd_right _ _)
  unfold Sm at *
  unfold gd
  split <;> omega
section
variable {n : Nat}
theorem cv_lowest {a b : Int} (hb : b ≠ 0) (hs : Sm b) : Cv false (pg.at (n + 1)) "lowest" [.sh (.int a), .sh (.int b)] (T2 (low a b)) := cv_fn fn3 rfl fun D q => by
  have n0 : Ev false (pg.at n) (.nm 0) ([Slot.sh (.int a), .sh (.int b)] ++ List.replicate (3 - 2) .no) (.int a) := ev_sh rfl
  have n1 : Ev false (pg.at n) (.nm 1) ([Slot.sh (.int a), .sh (.int b)] ++ List.replicate (3 - 2) .no) (.int b) := ev_sh rfl
  have g0 : Ev false (pg.at n) (.blt .gcd (.cons (.nm 0) (.cons (.nm 1) .nil))) ([Slot.sh (.int a), .sh (.int b)] ++ List.replicate (3 - 2) .no) (.int (Nat.gcd a.natAbs b.natAbs : Nat)) := ev_blt2 n0 n1 fun Q q => q
  refine ws_set (t := .int (gd a b)) (ev_ite (bv_cmp rfl n1 ev_int cr_gt) (fun z => ?_) fun z => ?_) rfl ?_
  · refine ev_n g0 ?_
    unfold gd; rw [if_pos (of_decide_eq_true z)]
  · refine ev_n (ev_neg g0) ?_
    unfold gd; rw [if_neg (of_decide_eq_false z)]
  · have hd : gd a b ≠ 0 ∧ (gd a b).natAbs.log2 < 9000 := ⟨gd_ne hb, sm_log (gd_sm hb hs)⟩
    exact ws_ret (ev_tup (.cons (ev_fdiv (ev_sh rfl) (ev_sh rfl) hd) (.cons (ev_fdiv (ev_sh rfl) (ev_sh rfl) hd) .nil))) (q _)
theorem cv_told_int {z : Int} : Cv false (pg.at (n + 3)) "told" [.sh (.int z)] (T2 (z, 1)) := cv_fn fn4 rfl fun D q => by
  have c0 := bv_call (Evs.cons (ev_sh (c := pg.at (n + 2)) (ρ := [Slot.sh (.int z)] ++ List.replicate (1 - 1) .no) (i := 0) rfl) .nil) (cv_whole (n := n + 1) (t := .int z) rfl) rfl
  exact ws_if (k := true) c0 (fun _ => ws_ret (ev_tup (.cons (ev_sh rfl) (.cons ev_int .nil))) (q _)) fun z => by cases z
theorem cv_told_seq {t : T} {a b : Int} (he : t = .tup [.int a, .int b] ∨ t = .lst [.int a, .int b]) (hb : 0 < b) (hs : Sm b) : Cv false (pg.at (n + 3)) "told" [.sh t] (T2 (low a b)) := cv_fn fn4 rfl fun D q => by
  have ht : tyOk t = true := by rcases he with e | e <;> subst e <;> rfl
  have ok : okT t := by rcases he with e | e <;> subst e <;> (intro x hx; simp at hx; rcases hx with h | h <;> subst h <;> rfl)
  have hp : isP t = true := by rcases he with e | e <;> subst e <;> exact decide_eq_true hb
  have hw : isW t = false := by rcases he with e | e <;> subst e <;> rfl
  have hn : Ev false (pg.at (n + 2)) (.nm 0) ([Slot.sh t] ++ List.replicate (1 - 1) .no) t := ev_sh rfl
  have c0 := bv_call (Evs.cons hn .nil) (cv_n (cv_whole (n := n + 1) ht) (by rw [hw])) rfl
  have c1 := bv_not (bv_call (Evs.cons hn .nil) (cv_n (cv_pair (n := n) ok) (by rw [hp])) rfl)
  refine ws_if (k := false) c0 (fun z => by cases z) fun _ => ws_nil ?_
  refine ws_if (k := false) c1 (fun z => by cases z) fun _ => ws_nil ?_
  have h0 : Ev false (pg.at (n + 2)) (.ix (.nm 0) (.int 0)) ([Slot.sh t] ++ List.replicate (1 - 1) .no) (.int a) := ev_ix hn ev_int fun Q q => by
    rcases he with e | e <;> subst e <;> exact ⟨.int a, rfl, q⟩
  have h1 : Ev false (pg.at (n + 2)) (.ix (.nm 0) (.int 1)) ([Slot.sh t] ++ List.replicate (1 - 1) .no) (.int b) := ev_ix hn ev_int fun Q q => by
    rcases he with e | e <;> subst e <;> exact ⟨.int b, rfl, q⟩
  exact ws_ret (ev_call (.cons h0 (.cons h1 .nil)) (cv_lowest (n := n + 1) (by omega) hs)) (q _)
theorem exf_at (m : Nat) : (pg.at m).exf = fun n => nd.excs.lookup n := (Pg.con_at pg m).2.2.2
theorem exf_row (m : Nat) : (pg.at m).exf "BadRow" = some [("row" : PySem.Str)] := by rw [exf_at]; kernel_rfl
theorem exf_num (m : Nat) : (pg.at m).exf "BadNumber" = some [("what" : PySem.Str), ("number" : PySem.Str)] := by rw [exf_at]; kernel_rfl
theorem cx_told {t : T} (ok : okT t) (hw : isW t = false) (hp : isP t = false) : Cx' (pg.at (n + 3)) "told" [.sh t] "BadRow" [("row", t)] := cx_fn fn4 rfl fun D q => by
  have hn : Ev false (pg.at (n + 2)) (.nm 0) ([Slot.sh t] ++ List.replicate (1 - 1) .no) t := ev_sh rfl
  have c0 := bv_call (Evs.cons hn .nil) (cv_n (cv_whole (n := n + 1) (okT_ty ok)) (by rw [hw])) rfl
  have c1 := bv_not (bv_call (Evs.cons hn .nil) (cv_n (cv_pair (n := n) ok) (by rw [hp])) rfl)
  refine ws_if (k := false) c0 (fun z => by cases z) fun _ => ws_nil ?_
  refine ws_if (k := true) c1 (fun _ => ?_) fun z => by cases z
  exact ws_raise (fs := ["row"]) (.cons hn .nil) (exf_row _) rfl q
/-- the parts of a told pair -/
theorem ev_p0 {c : Pr} {ρ : Zl.Env} {i : Nat} {p : Int × Int} (h : ρ[i]? = some (.sh (T2 p))) : Ev false c (.ix (.nm i) (.int 0)) ρ (.int p.1) := ev_ix (ev_sh h) ev_int fun Q q => ⟨.int p.1, rfl, q⟩
theorem ev_p1 {c : Pr} {ρ : Zl.Env} {i : Nat} {p : Int × Int} (h : ρ[i]? = some (.sh (T2 p))) : Ev false c (.ix (.nm i) (.int 1)) ρ (.int p.2) := ev_ix (ev_sh h) ev_int fun Q q => ⟨.int p.2, rfl, q⟩
/-- a told ratio of middle size -/
structure Rt (p : Int × Int) : Prop where
  pos : 0 < p.2
  s1 : p.1.natAbs < 2 ^ 31
  s2 : p.2 < 2 ^ 31
theorem Rt.m1 {p : Int × Int} (h : Rt p) : Sm p.1 := by have := h.s1; unfold Sm; omega
theorem Rt.m2 {p : Int × Int} (h : Rt p) : Sm p.2 := by have := h.s2; have := h.pos; unfold Sm; omega
theorem sm_pp {x y : Int} (hx : x.natAbs < 2 ^ 31) (hy : y.natAbs < 2 ^ 31) : Sm (x * y) := by
  unfold Sm
  rw [Int.natAbs_mul]
  calc x.natAbs * y.natAbs < 2 ^ 31 * 2 ^ 31 := Nat.mul_lt_mul'' hx hy
    _ ≤ 2 ^ 64 := by decide
theorem Rt.n2 {p : Int × Int} (h : Rt p) : p.2.natAbs < 2 ^ 31 := by have := h.s2; have := h.pos; omega
def sumP (p q : Int × Int) : Int × Int := low (p.1 * q.2 + q.1 * p.2) (p.2 * q.2)
def lesP (p q : Int × Int) : Int × Int := low (p.1 * q.2 - q.1 * p.2) (p.2 * q.2)
def sclP (p q : Int × Int) : Int × Int := low (p.1 * q.1) (p.2 * q.2)
def parP (p q : Int × Int) : Int × Int := low (p.1 * q.2) (p.2 * q.1)
def belP (p q : Int × Int) : Bool := decide (p.1 * q.2 < q.1 * p.2)
variable {p q : Int × Int}
theorem den_ne (hp : Rt p) (hq : Rt q) : p.2 * q.2 ≠ 0 := Int.ne_of_gt (Int.mul_pos hp.pos hq.pos)
section
variable {c : Pr} {ρ : Zl.Env} (h0 : ρ[0]? = some (.sh (T2 p))) (h1 : ρ[1]? = some (.sh (T2 q))) (hp : Rt p) (hq : Rt q)
include h0 h1 hp hq
theorem ev_sum : Ev false c (.bin .add (.bin .mul (.ix (.nm 0) (.int 0)) (.ix (.nm 1) (.int 1))) (.bin .mul (.ix (.nm 1) (.int 0)) (.ix (.nm 0) (.int 1)))) ρ (.int (p.1 * q.2 + q.1 * p.2)) := ev_add (ev_mul (ev_p0 h0) (ev_p1 h1) (sm_mul _ hp.m1)) (ev_mul (ev_p0 h1) (ev_p1 h0) (sm_mul _ hq.m1))
theorem ev_les : Ev false c (.bin .sub (.bin .mul (.ix (.nm 0) (.int 0)) (.ix (.nm 1) (.int 1))) (.bin .mul (.ix (.nm 1) (.int 0)) (.ix (.nm 0) (.int 1)))) ρ (.int (p.1 * q.2 - q.1 * p.2)) := ev_sub (ev_mul (ev_p0 h0) (ev_p1 h1) (sm_mul _ hp.m1)) (ev_mul (ev_p0 h1) (ev_p1 h0) (sm_mul _ hq.m1))
theorem ev_den : Ev false c (.bin .mul (.ix (.nm 0) (.int 1)) (.ix (.nm 1) (.int 1))) ρ (.int (p.2 * q.2)) := ev_mul (ev_p1 h0) (ev_p1 h1) (sm_mul _ hp.m2)
theorem ev_num : Ev false c (.bin .mul (.ix (.nm 0) (.int 0)) (.ix (.nm 1) (.int 0))) ρ (.int (p.1 * q.1)) := ev_mul (ev_p0 h0) (ev_p0 h1) (sm_mul _ hp.m1)
theorem ev_x0 : Ev false c (.bin .mul (.ix (.nm 0) (.int 0)) (.ix (.nm 1) (.int 1))) ρ (.int (p.1 * q.2)) := ev_mul (ev_p0 h0) (ev_p1 h1) (sm_mul _ hp.m1)
theorem ev_x1 : Ev false c (.bin .mul (.ix (.nm 0) (.int 1)) (.ix (.nm 1) (.int 0))) ρ (.int (p.2 * q.1)) := ev_mul (ev_p1 h0) (ev_p0 h1) (sm_mul _ hp.m2)
theorem ev_y0 : Ev false c (.bin .mul (.ix (.nm 1) (.int 0)) (.ix (.nm 0) (.int 1))) ρ (.int (q.1 * p.2)) := ev_mul (ev_p0 h1) (ev_p1 h0) (sm_mul _ hq.m1)
end
theorem cv_summed (hp : Rt p) (hq : Rt q) : Cv false (pg.at (n + 2)) "summed" [.sh (T2 p), .sh (T2 q)] (T2 (sumP p q)) := cv_fn fn5 rfl fun D k =>
  ws_ret (ev_call (.cons (ev_sum rfl rfl hp hq) (.cons (ev_den rfl rfl hp hq) .nil)) (cv_lowest (n := n) (den_ne hp hq) (sm_pp hp.n2 hq.n2))) (k _)
theorem cv_lessened (hp : Rt p) (hq : Rt q) : Cv false (pg.at (n + 2)) "lessened" [.sh (T2 p), .sh (T2 q)] (T2 (lesP p q)) := cv_fn fn6 rfl fun D k =>
  ws_ret (ev_call (.cons (ev_les rfl rfl hp hq) (.cons (ev_den rfl rfl hp hq) .nil)) (cv_lowest (n := n) (den_ne hp hq) (sm_pp hp.n2 hq.n2))) (k _)
theorem cv_scaled (hp : Rt p) (hq : Rt q) : Cv false (pg.at (n + 2)) "scaled" [.sh (T2 p), .sh (T2 q)] (T2 (sclP p q)) := cv_fn fn7 rfl fun D k =>
  ws_ret (ev_call (.cons (ev_num rfl rfl hp hq) (.cons (ev_den rfl rfl hp hq) .nil)) (cv_lowest (n := n) (den_ne hp hq) (sm_pp hp.n2 hq.n2))) (k _)
theorem cv_parted (hp : Rt p) (hq : Rt q) (h0 : q.1 ≠ 0) : Cv false (pg.at (n + 2)) "parted" [.sh (T2 p), .sh (T2 q)] (T2 (parP p q)) := cv_fn fn8 rfl fun D k =>
  ws_ret (ev_call (.cons (ev_x0 rfl rfl hp hq) (.cons (ev_x1 rfl rfl hp hq) .nil)) (cv_lowest (n := n) (Int.mul_ne_zero (Int.ne_of_gt hp.pos) h0) (sm_pp hp.n2 hq.s1))) (k _)
theorem cv_below (hp : Rt p) (hq : Rt q) : Cv false (pg.at (n + 1)) "below" [.sh (T2 p), .sh (T2 q)] (.bl (belP p q)) := cv_fn fn9 rfl fun D k =>
  ws_ret (ev_cmp rfl (ev_x0 rfl rfl hp hq) (ev_y0 rfl rfl hp hq) cr_lt) (k _)
end
end Zk

set_option Elab.async false
set_option linter.all false
set_option maxRecDepth 100000
set_option maxHeartbeats 4000000
namespace Zk
open PySem Zl
/-! the pen -/
def penL (cells : List Int) (a : Nat) (dg ct fd : Int) : List (Key × T) := [(.inr "cells", .lst (cells.map .int)), (.inr "at", .int a), (.inr "digits", .int dg), (.inr "count", .int ct), (.inr "fold", .int fd)]
section
variable {cells : List Int} {a a' : Nat} {dg ct fd z : Int}
theorem dl_cells : dlook (penL cells a dg ct fd) (.inr "cells") = some (.lst (cells.map .int)) := by kernel_rfl
theorem dl_at : dlook (penL cells a dg ct fd) (.inr "at") = some (.int a) := by kernel_rfl
theorem dl_digits : dlook (penL cells a dg ct fd) (.inr "digits") = some (.int dg) := by kernel_rfl
theorem dl_count : dlook (penL cells a dg ct fd) (.inr "count") = some (.int ct) := by kernel_rfl
theorem dl_fold : dlook (penL cells a dg ct fd) (.inr "fold") = some (.int fd) := by kernel_rfl
theorem dp_at : dput (penL cells a dg ct fd) (.inr "at") (.int (a' : Nat)) = penL cells a' dg ct fd := by kernel_rfl
theorem dp_digits : dput (penL cells a dg ct fd) (.inr "digits") (.int z) = penL cells a z ct fd := by kernel_rfl
theorem dp_count : dput (penL cells a dg ct fd) (.inr "count") (.int z) = penL cells a dg z fd := by kernel_rfl
theorem dp_fold : dput (penL cells a dg ct fd) (.inr "fold") (.int z) = penL cells a dg ct z := by kernel_rfl
theorem pen_len : (penL cells a dg ct fd).length < sizeLine := by show 5 < sizeLine; decide
end
/-- a pen, drawn from at most m times -/
def PenS (cells : List Int) (m : Nat) (kvs : List (Key × T)) : Prop := ∃ (a : Nat) (dg ct fd : Int), kvs = penL cells a dg ct fd ∧ a ≤ cells.length ∧ 0 ≤ dg ∧ 0 ≤ ct ∧ ct ≤ m ∧ 0 ≤ fd ∧ fd < 2147483353
def fnD (sl : List Slot) (Q : KR) (X : KX) : Dn := ⟨fun ρ => Q .non false (ioOf sl ρ), fun o ρ => (match retv ρ o with
      | some (t, fr) => Q t fr (ioOf sl ρ)
      | none => False), fun _ => False, fun _ => False, X⟩
theorem call_fn {g : Pg} {n : Nat} {f : PySem.Str} {d : Fn} {sl : List Slot} {Q : KR} {X : KX} (hf : g.fn f = some d) (hl : sl.length = d.ps) (h : wpSs (g.at n) d.body (sl ++ List.replicate (d.n - d.ps) .no) (fnD sl Q X)) : (g.at (n + 1)).call f sl Q X := by
  show (match g.fn f with
    | some d => wpFn (g.at n) d sl Q X
    | none => False)
  rw [hf]
  exact ⟨hl, h⟩
theorem fnD_rt {kvs kvs' : List (Key × T)} {ss : List Slot} {Q : KR} {X : KX} {ρ : Zl.Env} {o : Opd} {t : T} (h : retv ρ o = some (t, false)) (h0 : ρ[0]? = some (.io (.dct kvs'))) (q : Q t false (some (.dct kvs'))) : (fnD (.io (.dct kvs) :: ss) Q X).rt o ρ := by
  show (match retv ρ o with
      | some (t, fr) => Q t fr (ioOf (.io (.dct kvs) :: ss) ρ)
      | none => False)
  rw [h]
  have : ioOf (.io (.dct kvs) :: ss) ρ = some (.dct kvs') := by
    unfold ioOf
    rw [h0]; rfl
  dsimp only
  rw [this]
  exact q
theorem mod_b {x m : Int} (h : 0 < m) : 0 ≤ x.fmod m ∧ x.fmod m < m := ⟨Int.fmod_nonneg_of_pos x h, Int.fmod_lt_of_pos x h⟩
section
variable {n : Nat} {cells : List Int} {many : Int} {Q : KR} {X : KX}
def drawTail : Ss := (.cons (.if_ (.cmp .gt (.ix (.nm 0) (.str "digits")) (.int 0)) (.cons (.asg (.tg (.nm 3)) (.bin .mod (.blt .int (.cons (.ix (.nm 0) (.str "digits")) .nil)) (.nm 1))) (.cons (.asg (.ix 0 (.str "digits")) (.bin .fdiv (.ix (.nm 0) (.str "digits")) (.nm 1))) (.cons (.ret (.nm 3)) .nil))) .nil) (.cons (.asg (.tg (.nm 4)) (.bin .add (.bin .add (.ix (.nm 0) (.str "fold")) (.bin .mul (.ix (.nm 0) (.str "count")) (.int 7487))) (.int 83))) (.cons (.ret (.bin .mod (.bin .fdiv (.blt .int (.cons (.bin .mod (.bin .pow (.nm 4) (.int 35)) (.int 2305843009213693951)) .nil)) (.int 16)) (.nm 1))) .nil)))
theorem ev_toint {fa : Bool} {c : Pr} {e : E} {ρ : Zl.Env} {x : Int} (h : Ev fa c e ρ (.int x)) : Ev false c (.blt .int (.cons e .nil)) ρ (.int x) := ev_blt1 h fun Q q => q
theorem draw_tail {kvs0 : List (Key × T)} {s : Slot} {a : Nat} {dg ct fd : Int} {m : Nat} (hm : m < 2 ^ 40) (h1 : a ≤ cells.length) (h2 : 0 ≤ dg) (h3 : 0 ≤ ct) (h3' : ct ≤ m) (h4 : 0 ≤ fd) (h5 : fd < 2147483353) (h6 : 0 < many) (h6' : many < 2 ^ 40)
    (hQ : ∀ d kvs', 0 ≤ d → d < many → PenS cells m kvs' → Q (.int d) false (some (.dct kvs'))) :
    wpSs (pg.at n) drawTail [.io (.dct (penL cells a dg ct fd)), .sh (.int many), s, .no, .no] (fnD [.io (.dct kvs0), .sh (.int many)] Q X) := by
  unfold drawTail
  have smM : Sm many := by unfold Sm; omega
  have hd : many ≠ 0 ∧ many.natAbs.log2 < 9000 := ⟨by omega, sm_log smM⟩
  have e0 : ([Slot.io (.dct (penL cells a dg ct fd)), .sh (.int many), s, .no, .no] : Zl.Env)[0]? = some (pS false (penL cells a dg ct fd)) := rfl
  have dgE := ev_pix (c := pg.at n) e0 dl_digits
  refine ws_if (bv_cmp rfl dgE ev_int cr_gt) (fun z => ?_) fun z => ws_nil ?_
  · refine ws_set (ev_mod (ev_toint dgE) (ev_sh rfl) hd.1) rfl ?_
    refine ws_dput (o := false) (kvs := penL cells a dg ct fd) rfl pen_len (ev_fdiv (ev_pix (o := false) (kvs := penL cells a dg ct fd) rfl dl_digits) (ev_sh rfl) hd) ?_
    rw [dp_digits]
    refine ws_ret (ev_sh rfl) fun o e => fnD_rt (X := X) e rfl (hQ _ _ (mod_b h6).1 (mod_b h6).2 ⟨a, _, ct, fd, rfl, h1, Int.fdiv_nonneg h2 (by omega), h3, h3', h4, h5⟩)
  · have foldE := ev_pix (c := pg.at n) e0 dl_fold
    have cntE := ev_pix (c := pg.at n) e0 dl_count
    refine ws_set (ev_add (ev_add foldE (ev_mul cntE ev_int (sm_mul _ (by unfold Sm; omega)))) ev_int) rfl ?_
    have hp : 0 ≤ (35 : Int) ∧ (35 : Int) ≤ 1000000 ∧ (fd + ct * 7487 + 83).natAbs < 2 ^ 64 := ⟨by decide, by decide, by omega⟩
    refine ws_ret (ev_mod (ev_fdiv (ev_toint (ev_mod (ev_pow (ev_sh rfl) ev_int hp) ev_int (by decide))) ev_int ⟨by decide, by decide⟩) (ev_sh rfl) hd.1) fun o e => fnD_rt (X := X) e rfl (hQ _ _ (mod_b h6).1 (mod_b h6).2 ⟨a, dg, ct, fd, rfl, h1, h2, h3, h3', h4, h5⟩)
theorem draw_ok {kvs : List (Key × T)} {m : Nat} (hm : m + 1 < 2 ^ 40) (hp : PenS cells m kvs) (h6 : 0 < many) (h6' : many < 2 ^ 40) (hQ : ∀ d kvs', 0 ≤ d → d < many → PenS cells (m + 1) kvs' → Q (.int d) false (some (.dct kvs'))) :
    (pg.at (n + 1)).call "_law_draw" [.io (.dct kvs), .sh (.int many)] Q X := by
  obtain ⟨a, dg, ct, fd, rfl, h1, h2, h3, h3', h4, h5⟩ := hp
  refine call_fn fn16 rfl ?_
  show wpSs (pg.at n) b16 [.io (.dct (penL cells a dg ct fd)), .sh (.int many), .no, .no, .no] _
  refine ws_dput (o := false) (kvs := penL cells a dg ct fd) rfl pen_len (ev_add (ev_pix (o := false) (kvs := penL cells a dg ct fd) rfl dl_count) ev_int) ?_
  rw [dp_count]
  show wpSs (pg.at n) _ [.io (.dct (penL cells a dg (ct + 1) fd)), .sh (.int many), .no, .no, .no] _
  have e0 : ([Slot.io (.dct (penL cells a dg (ct + 1) fd)), .sh (.int many), .no, .no, .no] : Zl.Env)[0]? = some (pS false (penL cells a dg (ct + 1) fd)) := rfl
  have dgE := ev_pix (c := pg.at n) e0 dl_digits
  have atE := ev_pix (c := pg.at n) e0 dl_at
  have ceE := ev_pix (c := pg.at n) e0 dl_cells
  have lnE : Ev false (pg.at n) (.blt .len (.cons (.ix (.nm 0) (.str "cells")) .nil)) [Slot.io (.dct (penL cells a dg (ct + 1) fd)), .sh (.int many), .no, .no, .no] (.int cells.length) := ev_blt1 ceE fun Q q => by
    show Q (.int (cells.map T.int).length) false
    rw [List.length_map]; exact q
  have tst := bv_and (l := decide (dg = 0) && decide ((a : Int) < cells.length)) (bv_cmp rfl dgE ev_int cr_eqI) (fun z => bv_n (bv_cmp rfl atE lnE cr_lt) (by
    have : dg = 0 := by simpa using z
    simp [this])) (fun z => by
    have : ¬ dg = 0 := by simpa using z
    simp [this])
  have fin : ∀ (s : Slot) (a' : Nat) (dg' fd' : Int), a' ≤ cells.length → 0 ≤ dg' → 0 ≤ fd' → fd' < 2147483353 → wpSs (pg.at n) drawTail [.io (.dct (penL cells a' dg' (ct + 1) fd')), .sh (.int many), s, .no, .no] (fnD [.io (.dct (penL cells a dg ct fd)), .sh (.int many)] Q X) := fun s a' dg' fd' g1 g2 g3 g4 => draw_tail (m := m + 1) hm g1 g2 (by omega) (by omega) g3 g4 h6 h6' hQ
  refine ws_if tst (fun z => ?_) fun z => ws_nil (fin .no a dg fd h1 h2 h4 h5)
  have z1 : dg = 0 ∧ a < cells.length := by
    simp at z; exact ⟨z.1, by omega⟩
  obtain ⟨cell, hc⟩ : ∃ cell, cells[a]? = some cell := ⟨_, List.getElem?_eq_getElem z1.2⟩
  have ixE : Ev false (pg.at n) (.ix (.ix (.nm 0) (.str "cells")) (.ix (.nm 0) (.str "at"))) [Slot.io (.dct (penL cells a dg (ct + 1) fd)), .sh (.int many), .no, .no, .no] (.int cell) := ev_ix ceE atE (ir_lst (by
    unfold L2.atI L2.ixN
    rw [if_pos (by omega)]
    simp [z1.2]
    exact (List.getElem?_eq_some_iff.mp hc).2))
  refine ws_set ixE rfl ?_
  refine ws_dput (o := false) (kvs := penL cells a dg (ct + 1) fd) rfl pen_len (ev_n (ev_add (ev_pix (o := false) (kvs := penL cells a dg (ct + 1) fd) rfl dl_at) ev_int) (show T.int ((a : Int) + 1) = T.int ((a + 1 : Nat) : Int) by simp)) ?_
  rw [dp_at]
  show wpSs (pg.at n) _ [.io (.dct (penL cells (a + 1) dg (ct + 1) fd)), .sh (.int many), .sh (.int cell), .no, .no] _
  have pw : Ev false (pg.at n) (.bin .pow (.int 10) (.int 18)) [Slot.io (.dct (penL cells (a + 1) dg (ct + 1) fd)), .sh (.int many), .sh (.int cell), .no, .no] (.int (10 ^ (18 : Int).toNat)) := ev_pow ev_int ev_int ⟨by decide, by decide, by decide⟩
  refine ws_if (bv_cmp rfl (ev_sh rfl) pw cr_ge) (fun y => ?_) fun y => ?_
  · refine ws_dput (o := false) (kvs := penL cells (a + 1) dg (ct + 1) fd) rfl pen_len (ev_sub (ev_sh rfl) pw) ?_
    rw [dp_digits]
    exact ws_nil (c := pg.at n) (ws_nil (c := pg.at n) (fin (.sh (.int cell)) (a + 1) _ fd z1.2 (by have := of_decide_eq_true y; omega) h4 h5))
  · refine ws_dput (o := false) (kvs := penL cells (a + 1) dg (ct + 1) fd) rfl pen_len (ev_mod (ev_toint (ev_add (ev_mul (ev_pix (o := false) (kvs := penL cells (a + 1) dg (ct + 1) fd) rfl dl_fold) ev_int (sm_mul _ (by unfold Sm; omega))) (ev_sh rfl))) ev_int (by decide)) ?_
    rw [dp_fold]
    exact ws_nil (c := pg.at n) (ws_nil (c := pg.at n) (fin (.sh (.int cell)) (a + 1) dg _ z1.2 h2 (mod_b (by decide)).1 (mod_b (by decide)).2))
end
end Zk

set_option Elab.async false
set_option linter.all false
set_option maxRecDepth 100000
set_option maxHeartbeats 4000000
namespace Zk
open PySem Zl
theorem wp_pc {n : Nat} {ρ : Zl.Env} {i : Nat} {o : Bool} {kvs : List (Key × T)} {f : PySem.Str} {es : Es} {ts : List T} {K : KE'} {X : KX} (h : ρ[i]? = some (pS o kvs)) (hs : Evs (pg.at n) ρ es ts)
    (q : (pg.at n).call f (.io (.dct kvs) :: ts.map .sh) (fun t fr io => ∃ kv', io = some (.dct kv') ∧ K (.val t fr) (ρ.set i (pS o kv'))) X) : wpE (pg.at n) (.call f (.cons (.nm i) es)) ρ K X :=
  wp_pcall h hs q fun hh x => (Pg.mono pg n).1 _ _ _ _ _ _ hh (fun _ _ y => y) x
/-! ### the greatest common divisor -/
def bodyG : Ss := (.cons (.if_ (.cmp .eq (.nm 1) (.int 0)) (.cons .brk .nil) .nil) (.cons (.par [0, 1] (.cons (.nm 1) (.cons (.bin .mod (.blt .int (.cons (.nm 0) .nil)) (.nm 1)) .nil))) .nil))
def stepG (c : Pr) : T → Zl.Env → Dn → Prop := fun x ρ2 D2 => match stT x ρ2 (.nm 2) with
      | some ρ3 => wpSs c bodyG ρ3 D2
      | none => False
def frS (s : Slot) : Prop := s = .no ∨ ∃ t, s = .sh t
theorem stT_g {t : T} {x y : Int} {s : Slot} (hs : frS s) : stT t [.sh (.int x), .sh (.int y), s] (.nm 2) = some [.sh (.int x), .sh (.int y), .sh t] := by
  rcases hs with rfl | ⟨u, rfl⟩ <;> simp [stT, free]
theorem fmod_nat {x y : Nat} : (x : Int).fmod (y : Int) = ((x % y : Nat) : Int) := by
  rw [Int.fmod_eq_emod_of_nonneg _ (by omega)]; rfl
theorem gcd_zero {c : Pr} {ts : List T} {x : Nat} {s : Slot} (hs : frS s) {D : Dn} (q : ∀ s' (y' : Nat), frS s' → D.nx [.sh (.int x), .sh (.int (y' : Nat)), s']) : forL (stepG c) ts [.sh (.int x), .sh (.int (0 : Nat)), s] D := by
  cases ts with
  | nil => exact q s 0 hs
  | cons t ts =>
    unfold forL
    show stepG c t _ _
    unfold stepG
    rw [stT_g hs]
    refine ws_if (k := true) (bv_n (bv_cmp rfl (ev_sh (t := .int (0 : Nat)) rfl) ev_int cr_eqI) (by simp)) (fun _ => ws_brk (q (.sh t) 0 (.inr ⟨t, rfl⟩))) fun z => by cases z
theorem gcd_step {c : Pr} {t : T} {ts : List T} {x y : Nat} {s : Slot} (hs : frS s) (hy : y ≠ 0) {D : Dn} (q : forL (stepG c) ts [.sh (.int y), .sh (.int (x % y : Nat)), .sh t] D) : forL (stepG c) (t :: ts) [.sh (.int x), .sh (.int y), s] D := by
  unfold forL
  show stepG c t _ _
  unfold stepG
  rw [stT_g hs]
  have hb : Bv c (.cmp .eq (.nm 1) (.int 0)) [.sh (.int x), .sh (.int y), .sh t] false := bv_n (bv_cmp rfl (ev_sh (t := .int y) rfl) ev_int cr_eqI) (by simp; omega)
  refine ws_if (k := false) hb (fun z => by cases z) fun _ => ws_nil (c := c) ?_
  refine ws_par2 (t := .int y) (u := .int (x % y : Nat)) (ev_sh rfl) (ev_n (ev_mod (ev_toint (ev_sh rfl)) (ev_sh rfl) (by omega)) (by rw [fmod_nat])) rfl rfl (ws_nil (c := c) q)
theorem gcd_loop {c : Pr} : ∀ (m : Nat) (ts : List T) (x y : Nat) (s : Slot), frS s → y < 2 ^ m → 2 * m ≤ ts.length → ∀ D : Dn, (∀ s' (y' : Nat), frS s' → D.nx [.sh (.int (Nat.gcd x y)), .sh (.int (y' : Nat)), s']) → forL (stepG c) ts [.sh (.int x), .sh (.int y), s] D
  | 0, ts, x, y, s, hs, hy, hl, D, q => by
    have : y = 0 := by omega
    subst this
    rw [Nat.gcd_zero_right] at q
    exact gcd_zero hs q
  | m + 1, ts, x, y, s, hs, hy, hl, D, q => by
    by_cases h0 : y = 0
    · subst h0
      rw [Nat.gcd_zero_right] at q
      exact gcd_zero hs q
    · match ts, hl with
      | t :: t2 :: r, hl =>
        refine gcd_step hs h0 ?_
        have e1 : Nat.gcd x y = Nat.gcd y (x % y) := by rw [Nat.gcd_comm x y, Nat.gcd_rec y x, Nat.gcd_comm]
        by_cases h1 : x % y = 0
        · rw [e1, h1, Nat.gcd_zero_right] at q
          rw [h1]
          exact gcd_zero (.inr ⟨_, rfl⟩) q
        · refine gcd_step (.inr ⟨_, rfl⟩) h1 ?_
          have e2 : Nat.gcd y (x % y) = Nat.gcd (x % y) (y % (x % y)) := by rw [Nat.gcd_comm y, Nat.gcd_rec (x % y) y, Nat.gcd_comm]
          rw [e1, e2] at q
          have h2 : x % y < y := Nat.mod_lt _ (by omega)
          have h3 : y % (x % y) < x % y := Nat.mod_lt _ (by omega)
          have h4 : y % (x % y) ≤ y - x % y := by
            have := Nat.mod_add_div y (x % y)
            have h5 : 1 ≤ y / (x % y) := (Nat.le_div_iff_mul_le (by omega)).mpr (by omega)
            have h6 : x % y ≤ x % y * (y / (x % y)) := Nat.le_mul_of_pos_right _ h5
            omega
          exact gcd_loop m r _ _ _ (.inr ⟨_, rfl⟩) (by rw [Nat.pow_succ] at hy; omega) (by simp at hl; omega) D q
      | [], hl => simp at hl
      | [_], hl => simp at hl; omega
theorem ev_bits {fa : Bool} {c : Pr} {e : E} {ρ : Zl.Env} {x : Int} (h : Ev fa c e ρ (.int x)) : Ev false c (.mth .bitlen e .nil) ρ (.int (Builtin.Int.intBits x : Nat)) := fun K X q => by
  unfold wpE
  refine h _ _ fun o h1 h2 _ => ev_one h1 ⟨trivial, ?_⟩
  unfold wpEs
  dsimp only
  rw [h1]
  exact Ev.val (f := false) q
theorem bits_lt (y : Nat) : y < 2 ^ Builtin.Int.intBits (y : Int) := by
  unfold Builtin.Int.intBits
  split
  · rename_i h; have : (y : Int) = 0 := by simpa using h
    omega
  · rename_i h
    have : y ≠ 0 := fun z => h (by simp [z])
    have := Nat.lt_log2_self (n := y)
    simpa using this
theorem cv_gcd {n : Nat} {a b : Int} (hb : Sm b) : Cv false (pg.at (n + 1)) "_law_gcd" [.sh (.int a), .sh (.int b)] (.int (Nat.gcd a.natAbs b.natAbs : Nat)) := cv_fn fn18 rfl fun D q => by
  show wpSs (pg.at n) b18 [.sh (.int a), .sh (.int b), .no] D
  have ab : ∀ {z : Int} {i : Nat} {ρ : Zl.Env}, ρ[i]? = some (.sh (.int z)) → Ev false (pg.at n) (.blt .abs (.cons (.nm i) .nil)) ρ (.int (z.natAbs : Nat)) := fun {z i ρ} h => ev_n (ev_blt1 (r := .int (if z < 0 then -z else z)) (ev_sh h) fun Q q => q) (by congr 1; split <;> omega)
  refine ws_par2 (ab rfl) (ab rfl) rfl rfl ?_
  show wpSs (pg.at n) _ [.sh (.int (a.natAbs : Nat)), .sh (.int (b.natAbs : Nat)), .no] D
  have hbits : Builtin.Int.intBits ((b.natAbs : Nat) : Int) ≤ 64 := by
    unfold Sm at hb
    unfold Builtin.Int.intBits
    split
    · omega
    · rename_i h
      have z : ((b.natAbs : Nat) : Int).natAbs ≠ 0 := by simpa using h
      have := (Nat.log2_lt (n := ((b.natAbs : Nat) : Int).natAbs) (k := 64) z).mpr (by rw [Int.natAbs_natCast]; exact hb)
      omega
  refine ws_for (it_rng ev_int (ev_add ev_int (ev_mul ev_int (ev_bits (ev_toint (ev_sh rfl))) (sm_mul _ (by unfold Sm; decide)))) ⟨by decide, by decide, by omega, by omega, by rw [sizeLine_eq]; omega⟩) ?_
  refine gcd_loop (c := pg.at n) (Builtin.Int.intBits ((b.natAbs : Nat) : Int)) _ a.natAbs b.natAbs .no (.inl rfl) (bits_lt _) ?_ _ fun s' y' hs => ?_
  · unfold rngT
    rw [List.length_map, List.length_range]
    omega
  · exact ws_ret (c := pg.at n) (ev_sh rfl) (q _)
end Zk

set_option Elab.async false
set_option linter.all false
set_option maxRecDepth 100000
set_option maxHeartbeats 4000000
namespace Zk
open PySem Zl
/-! ### lowest terms -/
structure Low (p : Int × Int) : Prop where
  pos : 0 < p.2
  cop : Nat.gcd p.1.natAbs p.2.natAbs = 1
theorem gd_dvd {a b : Int} : gd a b ∣ a ∧ gd a b ∣ b := by
  have h1 : ((Nat.gcd a.natAbs b.natAbs : Nat) : Int) ∣ a := Int.ofNat_dvd_left.mpr (Nat.gcd_dvd_left _ _)
  have h2 : ((Nat.gcd a.natAbs b.natAbs : Nat) : Int) ∣ b := Int.ofNat_dvd_left.mpr (Nat.gcd_dvd_right _ _)
  unfold gd
  split
  · exact ⟨h1, h2⟩
  · exact ⟨Int.neg_dvd.mpr h1, Int.neg_dvd.mpr h2⟩
theorem low_mul {a b : Int} : (low a b).1 * gd a b = a ∧ (low a b).2 * gd a b = b := by
  obtain ⟨h1, h2⟩ := gd_dvd (a := a) (b := b)
  unfold low
  dsimp only
  exact ⟨Int.fdiv_mul_cancel h1, Int.fdiv_mul_cancel h2⟩
theorem gd_abs {a b : Int} : (gd a b).natAbs = Nat.gcd a.natAbs b.natAbs := by unfold gd; split <;> omega
theorem low_ok {a b : Int} (hb : b ≠ 0) : Low (low a b) := by
  obtain ⟨h1, h2⟩ := low_mul (a := a) (b := b)
  have hg := gd_ne (a := a) hb
  constructor
  · have hs : 0 < b ↔ 0 < gd a b := by
      have : Nat.gcd a.natAbs b.natAbs ≠ 0 := fun z => hb (by have := Nat.eq_zero_of_gcd_eq_zero_right z; omega)
      unfold gd
      split <;> constructor <;> intro h <;> omega
    rcases Int.lt_trichotomy (gd a b) 0 with z | z | z
    · have hb' : b < 0 := by
        rcases Int.lt_trichotomy b 0 with y | y | y
        · exact y
        · exact absurd y hb
        · have := hs.mp y; omega
      rcases Int.lt_trichotomy (low a b).2 0 with y | y | y
      · have := Int.mul_pos_of_neg_of_neg y z; rw [h2] at this; omega
      · rw [y] at h2; omega
      · exact y
    · exact absurd z hg
    · have hb' : 0 < b := hs.mpr z
      rcases Int.lt_trichotomy (low a b).2 0 with y | y | y
      · have := Int.mul_neg_of_neg_of_pos y z; rw [h2] at this; omega
      · rw [y] at h2; omega
      · exact y
  · have e : Nat.gcd ((low a b).1.natAbs * (gd a b).natAbs) ((low a b).2.natAbs * (gd a b).natAbs) = (gd a b).natAbs := by
      rw [← Int.natAbs_mul, ← Int.natAbs_mul, h1, h2, gd_abs]
    rw [Nat.gcd_mul_right] at e
    have hp : 0 < (gd a b).natAbs := by omega
    exact Nat.eq_of_mul_eq_mul_right hp (by rw [Nat.one_mul]; exact e)
theorem low_le {a b : Int} (hb : b ≠ 0) : (low a b).1.natAbs ≤ a.natAbs ∧ (low a b).2.natAbs ≤ b.natAbs := by
  obtain ⟨h1, h2⟩ := low_mul (a := a) (b := b)
  have hg := gd_ne (a := a) hb
  have hp : 1 ≤ (gd a b).natAbs := by omega
  constructor
  · have : a.natAbs = (low a b).1.natAbs * (gd a b).natAbs := by rw [← Int.natAbs_mul, h1]
    rw [this]
    exact Nat.le_mul_of_pos_right _ hp
  · have : b.natAbs = (low a b).2.natAbs * (gd a b).natAbs := by rw [← Int.natAbs_mul, h2]
    rw [this]
    exact Nat.le_mul_of_pos_right _ hp
/-- told again: the same -/
theorem low_back {p : Int × Int} (h : Low p) {y : Int} (hy : 0 < y) : low (p.1 * y) (p.2 * y) = p := by
  have e : gd (p.1 * y) (p.2 * y) = y := by
    unfold gd
    rw [if_pos (Int.mul_pos h.pos hy), Int.natAbs_mul, Int.natAbs_mul, Nat.gcd_mul_right, h.cop, Nat.one_mul]
    omega
  unfold low
  rw [e, Int.mul_fdiv_cancel _ (by omega), Int.mul_fdiv_cancel _ (by omega)]
/-! ### the law's own -/
section
variable {n : Nat} {p q : Int × Int}
theorem cv_q {a b : Int} (hb : b ≠ 0) (hs : Sm b) : Cv false (pg.at (n + 2)) "_law_q" [.sh (.int a), .sh (.int b)] (T2 (low a b)) := cv_fn fn19 rfl fun D k => by
  show wpSs (pg.at (n + 1)) b19 [.sh (.int a), .sh (.int b), .no] D
  refine ws_set (ev_call (.cons (ev_sh rfl) (.cons (ev_sh rfl) .nil)) (cv_gcd (n := n) (a := a) hs)) rfl ?_
  show wpSs (pg.at (n + 1)) _ [.sh (.int a), .sh (.int b), .sh (.int (Nat.gcd a.natAbs b.natAbs : Nat))] D
  refine ws_set (t := .int (gd a b)) (ev_ite (bv_cmp rfl (ev_sh (t := .int b) rfl) ev_int cr_lt) (fun z => ?_) fun z => ?_) rfl ?_
  · refine ev_n (ev_neg (ev_sh rfl)) ?_
    have := of_decide_eq_true z
    unfold gd; rw [if_neg (by omega)]
  · refine ev_n (ev_sh rfl) ?_
    have := of_decide_eq_false z
    unfold gd; rw [if_pos (by omega)]
  · have hd : gd a b ≠ 0 ∧ (gd a b).natAbs.log2 < 9000 := ⟨gd_ne hb, sm_log (gd_sm hb hs)⟩
    exact ws_ret (ev_tup (.cons (ev_fdiv (ev_sh rfl) (ev_sh rfl) hd) (.cons (ev_fdiv (ev_sh rfl) (ev_sh rfl) hd) .nil))) (k _)
theorem cv_lplus (hp : Rt p) (hq : Rt q) : Cv false (pg.at (n + 3)) "_law_plus" [.sh (T2 p), .sh (T2 q)] (T2 (sumP p q)) := cv_fn fn20 rfl fun D k =>
  ws_ret (ev_call (.cons (ev_sum rfl rfl hp hq) (.cons (ev_den rfl rfl hp hq) .nil)) (cv_q (n := n) (den_ne hp hq) (sm_pp hp.n2 hq.n2))) (k _)
theorem cv_ltimes (hp : Rt p) (hq : Rt q) : Cv false (pg.at (n + 3)) "_law_times" [.sh (T2 p), .sh (T2 q)] (T2 (sclP p q)) := cv_fn fn21 rfl fun D k =>
  ws_ret (ev_call (.cons (ev_num rfl rfl hp hq) (.cons (ev_den rfl rfl hp hq) .nil)) (cv_q (n := n) (den_ne hp hq) (sm_pp hp.n2 hq.n2))) (k _)
theorem cv_lless (hp : Rt p) (hq : Rt q) : Cv false (pg.at (n + 1)) "_law_less" [.sh (T2 p), .sh (T2 q)] (.bl (belP p q)) := cv_fn fn22 rfl fun D k =>
  ws_ret (ev_cmp rfl (ev_x0 rfl rfl hp hq) (ev_y0 rfl rfl hp hq) cr_lt) (k _)
theorem cv_lminus (hp : Rt p) (hq : Rt q) : Cv false (pg.at (n + 3)) "_law_minus" [.sh (T2 p), .sh (T2 q)] (T2 (lesP p q)) := cv_fn fn23 rfl fun D k =>
  ws_ret (ev_call (.cons (ev_les rfl rfl hp hq) (.cons (ev_den rfl rfl hp hq) .nil)) (cv_q (n := n) (den_ne hp hq) (sm_pp hp.n2 hq.n2))) (k _)
theorem cv_lshare (hp : Rt p) (hq : Rt q) (h0 : q.1 ≠ 0) : Cv false (pg.at (n + 3)) "_law_share" [.sh (T2 p), .sh (T2 q)] (T2 (parP p q)) := cv_fn fn24 rfl fun D k =>
  ws_ret (ev_call (.cons (ev_x0 rfl rfl hp hq) (.cons (ev_x1 rfl rfl hp hq) .nil)) (cv_q (n := n) (Int.mul_ne_zero (Int.ne_of_gt hp.pos) h0) (sm_pp hp.n2 hq.s1))) (k _)
/-! ### the program's sums -/
variable {t u : T}
theorem cv_plus (ht : ∀ m, Cv false (pg.at (m + 3)) "told" [.sh t] (T2 p)) (hu : ∀ m, Cv false (pg.at (m + 3)) "told" [.sh u] (T2 q)) (hp : Rt p) (hq : Rt q) : Cv false (pg.at (n + 4)) "plus" [.sh t, .sh u] (T2 (sumP p q)) := cv_fn fn10 rfl fun D k =>
  ws_par2 (ev_call (.cons (ev_sh rfl) .nil) (ht n)) (ev_call (.cons (ev_sh rfl) .nil) (hu n)) rfl rfl (ws_ret (ev_call (.cons (ev_sh rfl) (.cons (ev_sh rfl) .nil)) (cv_summed (n := n + 1) hp hq)) (k _))
theorem cv_minus (ht : ∀ m, Cv false (pg.at (m + 3)) "told" [.sh t] (T2 p)) (hu : ∀ m, Cv false (pg.at (m + 3)) "told" [.sh u] (T2 q)) (hp : Rt p) (hq : Rt q) : Cv false (pg.at (n + 4)) "minus" [.sh t, .sh u] (T2 (lesP p q)) := cv_fn fn11 rfl fun D k =>
  ws_par2 (ev_call (.cons (ev_sh rfl) .nil) (ht n)) (ev_call (.cons (ev_sh rfl) .nil) (hu n)) rfl rfl (ws_ret (ev_call (.cons (ev_sh rfl) (.cons (ev_sh rfl) .nil)) (cv_lessened (n := n + 1) hp hq)) (k _))
theorem cv_times (ht : ∀ m, Cv false (pg.at (m + 3)) "told" [.sh t] (T2 p)) (hu : ∀ m, Cv false (pg.at (m + 3)) "told" [.sh u] (T2 q)) (hp : Rt p) (hq : Rt q) : Cv false (pg.at (n + 4)) "times" [.sh t, .sh u] (T2 (sclP p q)) := cv_fn fn12 rfl fun D k =>
  ws_par2 (ev_call (.cons (ev_sh rfl) .nil) (ht n)) (ev_call (.cons (ev_sh rfl) .nil) (hu n)) rfl rfl (ws_ret (ev_call (.cons (ev_sh rfl) (.cons (ev_sh rfl) .nil)) (cv_scaled (n := n + 1) hp hq)) (k _))
theorem cv_less (ht : ∀ m, Cv false (pg.at (m + 3)) "told" [.sh t] (T2 p)) (hu : ∀ m, Cv false (pg.at (m + 3)) "told" [.sh u] (T2 q)) (hp : Rt p) (hq : Rt q) : Cv false (pg.at (n + 4)) "less" [.sh t, .sh u] (.bl (belP p q)) := cv_fn fn14 rfl fun D k =>
  ws_par2 (ev_call (.cons (ev_sh rfl) .nil) (ht n)) (ev_call (.cons (ev_sh rfl) .nil) (hu n)) rfl rfl (ws_ret (ev_call (.cons (ev_sh rfl) (.cons (ev_sh rfl) .nil)) (cv_below (n := n + 2) hp hq)) (k _))
theorem cv_share (ht : ∀ m, Cv false (pg.at (m + 3)) "told" [.sh t] (T2 p)) (hu : ∀ m, Cv false (pg.at (m + 3)) "told" [.sh u] (T2 q)) (hp : Rt p) (hq : Rt q) (h0 : q.1 ≠ 0) : Cv false (pg.at (n + 4)) "share" [.sh t, .sh u] (T2 (parP p q)) := cv_fn fn13 rfl fun D k =>
  ws_par2 (ev_call (.cons (ev_sh rfl) .nil) (ht n)) (ev_call (.cons (ev_sh rfl) .nil) (hu n)) rfl rfl (ws_if (k := false) (bv_n (bv_cmp rfl (ev_p0 (p := q) rfl) ev_int cr_eqI) (by simp [h0])) (fun z => by cases z) fun _ => ws_nil (c := pg.at (n + 3)) (ws_ret (ev_call (.cons (ev_sh rfl) (.cons (ev_sh rfl) .nil)) (cv_parted (n := n + 1) hp hq h0)) (k _)))
/-! ### .. that raise -/
theorem par_e1 {c : Pr} {ρ : Zl.Env} {ss : Ss} {D : Dn} {nm : PySem.Str} {fs : List (PySem.Str × T)} {b : E} (h0 : ρ[0]? = some (.sh t)) (hx : Cx' c "told" [.sh t] nm fs) (k : D.xx nm fs) : wpSs c (.cons (.par [2, 3] (.cons (.call "told" (.cons (.nm 0) .nil)) (.cons b .nil))) ss) ρ D := by
  unfold wpSs
  unfold wpS
  unfold wpEs
  exact ex_call (.cons (ev_sh h0) .nil) hx k
theorem par_e2 {c : Pr} {ρ : Zl.Env} {ss : Ss} {D : Dn} {nm : PySem.Str} {fs : List (PySem.Str × T)} {r : T} {fr : Bool} (h0 : ρ[0]? = some (.sh t)) (h1 : ρ[1]? = some (.sh u)) (ht : Cv fr c "told" [.sh t] r) (hx : Cx' c "told" [.sh u] nm fs) (k : D.xx nm fs) : wpSs c (.cons (.par [2, 3] (.cons (.call "told" (.cons (.nm 0) .nil)) (.cons (.call "told" (.cons (.nm 1) .nil)) .nil))) ss) ρ D := by
  unfold wpSs
  unfold wpS
  unfold wpEs
  refine ev_call (.cons (ev_sh h0) .nil) ht _ _ fun o _ _ _ => ?_
  unfold wpEs
  exact ex_call (.cons (ev_sh h1) .nil) hx k
def bin5 : List PySem.Str := ["plus", "minus", "times", "share", "less"]
theorem cx_e1 {nm : PySem.Str} {fs : List (PySem.Str × T)} (hx : Cx' (pg.at (n + 3)) "told" [.sh t] nm fs) : Cx' (pg.at (n + 4)) "plus" [.sh t, .sh u] nm fs ∧ Cx' (pg.at (n + 4)) "minus" [.sh t, .sh u] nm fs ∧ Cx' (pg.at (n + 4)) "times" [.sh t, .sh u] nm fs ∧ Cx' (pg.at (n + 4)) "share" [.sh t, .sh u] nm fs ∧ Cx' (pg.at (n + 4)) "less" [.sh t, .sh u] nm fs :=
  ⟨cx_fn fn10 rfl fun D k => par_e1 rfl hx k, cx_fn fn11 rfl fun D k => par_e1 rfl hx k, cx_fn fn12 rfl fun D k => par_e1 rfl hx k, cx_fn fn13 rfl fun D k => par_e1 rfl hx k, cx_fn fn14 rfl fun D k => par_e1 rfl hx k⟩
theorem cx_e2 {nm : PySem.Str} {fs : List (PySem.Str × T)} {r : T} {fr : Bool} (ht : Cv fr (pg.at (n + 3)) "told" [.sh t] r) (hx : Cx' (pg.at (n + 3)) "told" [.sh u] nm fs) : Cx' (pg.at (n + 4)) "plus" [.sh t, .sh u] nm fs ∧ Cx' (pg.at (n + 4)) "minus" [.sh t, .sh u] nm fs ∧ Cx' (pg.at (n + 4)) "times" [.sh t, .sh u] nm fs ∧ Cx' (pg.at (n + 4)) "share" [.sh t, .sh u] nm fs ∧ Cx' (pg.at (n + 4)) "less" [.sh t, .sh u] nm fs :=
  ⟨cx_fn fn10 rfl fun D k => par_e2 rfl rfl ht hx k, cx_fn fn11 rfl fun D k => par_e2 rfl rfl ht hx k, cx_fn fn12 rfl fun D k => par_e2 rfl rfl ht hx k, cx_fn fn13 rfl fun D k => par_e2 rfl rfl ht hx k, cx_fn fn14 rfl fun D k => par_e2 rfl rfl ht hx k⟩
theorem cx_share0 (ht : Cv false (pg.at (n + 3)) "told" [.sh t] (T2 p)) (hu : Cv false (pg.at (n + 3)) "told" [.sh u] (T2 q)) (h0 : q.1 = 0) : Cx' (pg.at (n + 4)) "share" [.sh t, .sh u] "BadNumber" [("what", .str "share"), ("number", .int 0)] := cx_fn fn13 rfl fun D k =>
  ws_par2 (ev_call (.cons (ev_sh rfl) .nil) ht) (ev_call (.cons (ev_sh rfl) .nil) hu) rfl rfl (ws_if (k := true) (bv_n (bv_cmp rfl (ev_p0 (p := q) rfl) ev_int cr_eqI) (by simp [h0])) (fun _ => ws_raise (fs := ["what", "number"]) (.cons ev_str (.cons ev_int .nil)) (exf_num _) rfl k) fun z => by cases z)
/-! ### is_ratio -/
theorem cv_ratio (h : okT t) : Cv false (pg.at (n + 3)) "is_ratio" [.sh t] (.bl (isW t || (tyb t "tuple" && isP t))) := cv_fn fn2 rfl fun D k => by
  have hn : Ev false (pg.at (n + 2)) (.nm 0) ([Slot.sh t] ++ List.replicate (1 - 1) .no) t := ev_sh rfl
  have c0 := ev_call (.cons hn .nil) (cv_whole (n := n + 1) (okT_ty h))
  have c1 := ev_call (.cons hn .nil) (cv_pair (n := n) h)
  have i1 : Ev false (pg.at (n + 2)) (.isi (.nm 0) [.ty "tuple"]) ([Slot.sh t] ++ List.replicate (1 - 1) .no) (.bl (tyb t "tuple")) := by
    have := ev_isi (c := pg.at (n + 2)) (cs := [.ty "tuple"]) hn (okT_ty h)
    rw [any1] at this; exact this
  have a1 := ev_and (fb := false) (u := .bl (tyb t "tuple" && isP t)) i1 rfl (fun z => by rw [z, Bool.true_and]; exact c1) (fun z => by rw [z]; exact ⟨rfl, rfl⟩)
  rw [Bool.and_false] at a1
  have o1 := ev_or (fb := false) (u := .bl (isW t || (tyb t "tuple" && isP t))) c0 rfl (fun z => by rw [z, Bool.false_or]; exact a1) (fun z => by rw [z]; exact ⟨rfl, rfl⟩)
  rw [Bool.and_false] at o1
  exact ws_ret o1 (k _)
end
end Zk

set_option Elab.async false
set_option linter.all false
set_option maxRecDepth 100000
set_option maxHeartbeats 4000000
namespace Zk
open PySem Zl
theorem PenS.le {cells : List Int} {m m' : Nat} {kvs : List (Key × T)} (h : PenS cells m kvs) (hm : m ≤ m') : PenS cells m' kvs := by
  obtain ⟨a, dg, ct, fd, e, h1, h2, h3, h4, h5, h6⟩ := h
  exact ⟨a, dg, ct, fd, e, h1, h2, h3, by omega, h5, h6⟩
theorem wp_nmS {c : Pr} {ρ : Zl.Env} {i : Nat} {t : T} {K : KE'} {X : KX} (h : ρ[i]? = some (.sh t)) (q : K (.slot i) ρ) : wpE c (.nm i) ρ K X := by
  unfold wpE
  rw [h]
  exact q
section
variable {n m i : Nat} {cells : List Int} {kvs : List (Key × T)} {Q : KR} {X : KX} {K : KE'} {ρ : Zl.Env} {o : Bool}
theorem wp_draw {e : E} {many : Int} {fe : Bool} (h : ρ[i]? = some (pS o kvs)) (hp : PenS cells m kvs) (hm : m + 1 < 2 ^ 40) (he : Ev fe (pg.at (n + 1)) e ρ (.int many)) (h6 : 0 < many) (h6' : many < 2 ^ 40) (q : ∀ d kv', 0 ≤ d → d < many → PenS cells (m + 1) kv' → K (.val (.int d) false) (ρ.set i (pS o kv'))) : wpE (pg.at (n + 1)) (.call "_law_draw" (.cons (.nm i) (.cons e .nil))) ρ K X :=
  wp_pc h (.cons he .nil) (draw_ok hm hp h6 h6' fun d kv' a b c => ⟨kv', rfl, q d kv' a b c⟩)
/-! ### _law_pick -/
theorem pick_ok {xs : List T} (hm : m + 1 < 2 ^ 40) (hp : PenS cells m kvs) (hx : 0 < xs.length) (hx2 : xs.length < 2 ^ 40) (hQ : ∀ t kv', t ∈ xs → PenS cells (m + 1) kv' → Q t false (some (.dct kv'))) : (pg.at (n + 2)).call "_law_pick" [.io (.dct kvs), .sh (.lst xs)] Q X := by
  refine call_fn fn17 rfl ?_
  show wpSs (pg.at (n + 1)) b17 [.io (.dct kvs), .sh (.lst xs)] _
  refine ws_retW ?_
  unfold wpE
  refine wp_nmS (t := .lst xs) rfl ?_
  refine wp_draw (o := false) rfl hp hm (ev_blt1 (r := .int xs.length) (ev_sh (t := .lst xs) rfl) fun Q q => q) (by omega) (by omega) fun d kv' d0 d1 hp' => ?_
  have hd : d.toNat < xs.length := by omega
  refine ev_two (t := .lst xs) (u := .int d) rfl rfl ⟨xs[d.toNat], ?_, ?_⟩
  · unfold L2.atI L2.ixN
    rw [if_pos (by omega)]
    rw [if_pos d1]
    exact List.getElem?_eq_getElem hd
  · exact fnD_rt (ss := [.sh (.lst xs)]) rfl rfl (hQ _ _ (List.getElem_mem hd) hp')
theorem wp_pick {es : Es} {xs : List T} (h : ρ[i]? = some (pS o kvs)) (hp : PenS cells m kvs) (hm : m + 1 < 2 ^ 40) (he : Evs (pg.at (n + 2)) ρ es xs) (hx : 0 < xs.length) (hx2 : xs.length < 2 ^ 40) (q : ∀ t kv', t ∈ xs → PenS cells (m + 1) kv' → K (.val t false) (ρ.set i (pS o kv'))) : wpE (pg.at (n + 2)) (.call "_law_pick" (.cons (.nm i) (.cons (.lst es) .nil))) ρ K X :=
  wp_pc h (.cons (ev_lst he) .nil) (pick_ok hm hp hx hx2 fun t kv' a b => ⟨kv', rfl, q t kv' a b⟩)
/-! ### _law_number -/
theorem number_ok {most : Int} (hm : m + 2 < 2 ^ 40) (hp : PenS cells m kvs) (h0 : 0 ≤ most) (h1 : most < 2 ^ 30) (hQ : ∀ p kv', Low p → p.1.natAbs ≤ most.natAbs → p.2 ≤ 3 → PenS cells (m + 2) kv' → Q (T2 p) false (some (.dct kv'))) : (pg.at (n + 3)).call "_law_number" [.io (.dct kvs), .sh (.int most)] Q X := by
  refine call_fn fn25 rfl ?_
  show wpSs (pg.at (n + 2)) b25 [.io (.dct kvs), .sh (.int most), .no] _
  refine ws_asg ?_
  unfold wpE
  refine wp_draw (n := n + 1) (o := false) rfl hp (by omega) (ev_add (ev_mul ev_int (ev_sh (t := .int most) rfl) (sm_mul _ (by unfold Sm; decide))) ev_int) (by omega) (by omega) fun d kv' d0 d1 hp' => ?_
  refine wp_nmS (t := .int most) rfl ?_
  refine ev_two (t := .int d) (u := .int most) rfl rfl ?_
  unfold opR
  dsimp only
  refine wx_sh rfl ?_
  show wpSs (pg.at (n + 2)) _ [.io (.dct kv'), .sh (.int most), .sh (.int (d - most))] _
  refine ws_retW ?_
  unfold wpE
  unfold wpEs
  refine wp_nmS (t := .int (d - most)) rfl ?_
  unfold wpEs
  refine wp_pick (o := false) rfl hp' (by omega) (.cons ev_int (.cons ev_int (.cons ev_int (.cons ev_int (.cons ev_int .nil))))) (by decide) (by decide) fun t kv2 ht hp2 => ?_
  have ht : ∃ y : Int, t = .int y ∧ 1 ≤ y ∧ y ≤ 3 := by
    simp at ht
    rcases ht with rfl | rfl | rfl
    · exact ⟨1, rfl, by decide, by decide⟩
    · exact ⟨2, rfl, by decide, by decide⟩
    · exact ⟨3, rfl, by decide, by decide⟩
  obtain ⟨y, rfl, y1, y2⟩ := ht
  unfold wpEs
  refine cv_q (n := n) (a := d - most) (b := y) (by omega) (by unfold Sm; omega) _ _ fun io => ?_
  have eb : (back [Slot.io (.dct kv2), .sh (.int most), .sh (.int (d - most))] [Opd.slot 2, Opd.val (T.int y) false] io) = [Slot.io (.dct kv2), .sh (.int most), .sh (.int (d - most))] := by cases io <;> rfl
  have hl := low_le (a := d - most) (b := y) (by omega)
  have hk := low_ok (a := d - most) (b := y) (by omega)
  have := hk.pos
  exact fnD_rt (ss := [.sh (.int most)]) rfl (congrArg (fun ρ : Zl.Env => ρ[0]?) eb) (hQ _ _ hk (by omega) (by omega) (hp2.le (by omega)))
/-! ### _law_handed -/
/-- a value that tells p -/
structure Hd (p : Int × Int) (t : T) : Prop where
  told : ∀ m, Cv false (pg.at (m + 3)) "told" [.sh t] (T2 p)
  ok : okT t
  kind : (isW t || (tyb t "tuple" && isP t)) = !(tyb t "list")
theorem wb_and {c : Pr} {a b : E} {Kb : Bool → Zl.Env → Prop} (h : wpB c a ρ (fun k ρ1 => (k = true → wpB c b ρ1 Kb X) ∧ (k = false → Kb false ρ1)) X) : wpB c (.and a b) ρ Kb X := by
  unfold wpB
  exact h
theorem handed_ok {p : Int × Int} (hm : m + 3 < 2 ^ 40) (hp : PenS cells m kvs) (hl : Low p) (hr : Rt p) (hQ : ∀ t kv', Hd p t → PenS cells (m + 3) kv' → Q t false (some (.dct kv'))) : (pg.at (n + 3)).call "_law_handed" [.io (.dct kvs), .sh (T2 p)] Q X := by
  refine call_fn fn26 rfl ?_
  show wpSs (pg.at (n + 2)) b26 [.io (.dct kvs), .sh (T2 p), .no] _
  have tail : ∀ kv1, PenS cells (m + 1) kv1 → wpSs (pg.at (n + 2)) (.cons (.asg (.tg (.nm 2)) (.call "_law_pick" (.cons (.nm 0) (.cons (.lst (.cons (.int 1) (.cons (.int 1) (.cons (.int 2) (.cons (.int 5) .nil))))) .nil)))) (.cons (.ret (.call "_law_pick" (.cons (.nm 0) (.cons (.lst (.cons (.tup (.cons (.bin .mul (.ix (.nm 1) (.int 0)) (.nm 2)) (.cons (.bin .mul (.ix (.nm 1) (.int 1)) (.nm 2)) .nil))) (.cons (.lst (.cons (.bin .mul (.ix (.nm 1) (.int 0)) (.nm 2)) (.cons (.bin .mul (.ix (.nm 1) (.int 1)) (.nm 2)) .nil))) .nil))) .nil)))) .nil)) [.io (.dct kv1), .sh (T2 p), .no] (fnD [.io (.dct kvs), .sh (T2 p)] Q X) := fun kv1 hp1 => by
    refine ws_asg (wp_pick (o := false) rfl hp1 (by omega) (.cons ev_int (.cons ev_int (.cons ev_int (.cons ev_int .nil)))) (by decide) (by decide) fun t kv2 ht hp2 => ?_)
    have ht : ∃ y : Int, t = .int y ∧ 1 ≤ y ∧ y ≤ 5 := by
      simp at ht
      rcases ht with rfl | rfl | rfl
      · exact ⟨1, rfl, by decide, by decide⟩
      · exact ⟨2, rfl, by decide, by decide⟩
      · exact ⟨5, rfl, by decide, by decide⟩
    obtain ⟨y, rfl, y1, y2⟩ := ht
    refine wx_sh rfl ?_
    show wpSs (pg.at (n + 2)) _ [.io (.dct kv2), .sh (T2 p), .sh (.int y)] _
    have e0 : Ev false (pg.at (n + 2)) (.bin .mul (.ix (.nm 1) (.int 0)) (.nm 2)) [.io (.dct kv2), .sh (T2 p), .sh (.int y)] (.int (p.1 * y)) := ev_mul (ev_p0 rfl) (ev_sh rfl) (sm_mul _ hr.m1)
    have e1 : Ev false (pg.at (n + 2)) (.bin .mul (.ix (.nm 1) (.int 1)) (.nm 2)) [.io (.dct kv2), .sh (T2 p), .sh (.int y)] (.int (p.2 * y)) := ev_mul (ev_p1 rfl) (ev_sh rfl) (sm_mul _ hr.m2)
    refine ws_retW (wp_pick (o := false) rfl hp2 (by omega) (.cons (ev_tup (.cons e0 (.cons e1 .nil))) (.cons (ev_lst (.cons e0 (.cons e1 .nil))) .nil)) (by simp) (by simp) fun t kv3 ht hp3 => ?_)
    refine fnD_rt (ss := [.sh (T2 p)]) rfl rfl (hQ _ _ ?_ hp3)
    have hpos : 0 < p.2 * y := Int.mul_pos hl.pos (by omega)
    have hs : Sm (p.2 * y) := sm_pp hr.n2 (by omega)
    simp at ht
    have tl : ∀ k, Cv false (pg.at (k + 3)) "told" [.sh t] (T2 p) := fun k => by
      have := cv_told_seq (n := k) (t := t) (a := p.1 * y) (b := p.2 * y) ht hpos hs
      rw [low_back hl (by omega)] at this
      exact this
    refine ⟨tl, ?_, ?_⟩
    · rcases ht with rfl | rfl <;> (intro x hx; simp at hx; rcases hx with h | h <;> subst h <;> rfl)
    · rcases ht with rfl | rfl
      · show (false || (true && decide (0 < p.2 * y))) = !false
        rw [decide_eq_true hpos]; rfl
      · rfl
  refine ws_ifW (wb_and ?_)
  refine bv_cmp (k := p.2 == 1) rfl (ev_p1 (p := p) rfl) ev_int cr_eqI _ _ ⟨fun z => ?_, fun z => ⟨fun y => (by cases y), fun _ => ws_nil (c := pg.at (n + 2)) (tail _ (hp.le (by omega)))⟩⟩
  have z : p.2 = 1 := by simpa using z
  refine wb_cmpW (wp_draw (n := n + 1) (o := false) rfl hp (by omega) ev_int (by decide) (by decide) fun d kv1 d0 d1 hp1 => wc_val (x := .int d) (u := .int 0) rfl ev_int cr_eqI ⟨fun y => ?_, fun _ => ws_nil (c := pg.at (n + 2)) (tail _ hp1)⟩)
  refine ws_ret (ev_p0 (p := p) rfl) fun o e => ?_
  refine fnD_rt (X := X) (ss := [.sh (T2 p)]) e rfl (hQ _ _ ⟨fun k => ?_, rfl, rfl⟩ (hp1.le (by omega)))
  have := cv_told_int (n := k) (z := p.1)
  rw [show ((p.1, (1 : Int)) : Int × Int) = p from by rw [← z]] at this
  exact this
end
end Zk

set_option Elab.async false
set_option linter.all false
set_option maxRecDepth 100000
set_option maxHeartbeats 4000000
namespace Zk
open PySem Zl
section
variable {n m i : Nat} {kvs : List (Key × T)} {Q : KR} {X : KX} {K : KE'} {ρ : Zl.Env} {o : Bool}
/-! ### _law_pen -/
theorem bits_mul (z : Int) : IntMulOk z 107 := by
  refine IntMulOk.of_right ?_
  decide
def bodyP : Ss := (.cons (.asg (.tg (.nm 1)) (.bin .mod (.blt .int (.cons (.bin .add (.bin .mul (.nm 1) (.int 107)) (.nm 2)) .nil)) (.int 999999613))) .nil)
def stepP (c : Pr) : T → Zl.Env → Dn → Prop := fun x ρ2 D2 => match stT x ρ2 (.nm 2) with
      | some ρ3 => wpSs c bodyP ρ3 D2
      | none => False
theorem pen_loop {c : Pr} {scr : T} : ∀ (cells : List Int) (fd : Int) (s : Slot), frS s → 0 ≤ fd → fd < 2147483353 → ∀ D : Dn, (∀ s' (fd' : Int), 0 ≤ fd' → fd' < 2147483353 → D.nx [.sh scr, .sh (.int fd'), s']) → forL (stepP c) (cells.map .int) [.sh scr, .sh (.int fd), s] D
  | [], fd, s, hs, h0, h1, D, q => q s fd h0 h1
  | z :: r, fd, s, hs, h0, h1, D, q => by
    show forL (stepP c) (T.int z :: r.map .int) _ _
    unfold forL
    show stepP c (.int z) _ _
    unfold stepP
    have e : stT (.int z) [.sh scr, .sh (.int fd), s] (.nm 2) = some [.sh scr, .sh (.int fd), .sh (.int z)] := by
      rcases hs with rfl | ⟨u, rfl⟩ <;> simp [stT, free]
    rw [e]
    have hm := mod_b (x := fd * 107 + z) (m := 999999613) (by decide)
    refine ws_set (ev_mod (ev_toint (ev_add (ev_mul (ev_sh (t := .int fd) rfl) ev_int (bits_mul _)) (ev_sh (t := .int z) rfl))) ev_int (by decide)) rfl (ws_nil (c := c) ?_)
    exact pen_loop r _ _ (.inr ⟨_, rfl⟩) hm.1 (by omega) D q
theorem pen_ok {cells : List Int} (hQ : ∀ kv', PenS cells 0 kv' → Q (.dct kv') true none) : (pg.at (n + 1)).call "_law_pen" [.sh (.scr (cells.map .int))] Q X := by
  refine call_fn fn15 rfl ?_
  show wpSs (pg.at n) b15 [.sh (.scr (cells.map .int)), .no, .no] _
  refine ws_set ev_int rfl ?_
  show wpSs (pg.at n) _ [.sh (.scr (cells.map .int)), .sh (.int 0), .no] _
  refine ws_for (it_val (ev_sh rfl) (.inr (.inr rfl))) ?_
  refine pen_loop (c := pg.at n) cells 0 .no (.inl rfl) (by decide) (by decide) _ fun s' fd' h0 h1 => ?_
  refine ws_retW ?_
  unfold wpE
  refine (Evs.cons (ev_blt1 (bt := .list) (r := .lst (cells.map .int)) (f := true) (ev_sh (t := .scr (cells.map .int)) rfl) fun Q q => q) (.cons ev_int (.cons ev_int (.cons ev_int (.cons (ev_sh (t := .int fd') rfl) .nil))))).wp fun os _ h2 _ => ?_
  rw [h2]
  refine ⟨rfl, ?_⟩
  exact hQ _ ⟨0, 0, 0, fd', rfl, Nat.zero_le _, by decide, by decide, by decide, h0, h1⟩
/-! ### _law_fault -/
/-- a closure that raises what its tag tells -/
structure Flt (k : Nat) (clo due : T) : Prop where
  go : Cv false (pg.at k) "_law_fault" [.sh clo] due
def hsL : List (PySem.Str × PySem.Str × List PySem.Str) := [("BadLot", "lot", ["lot"]), ("BadNumber", "number", ["what", "number"]), ("BadOrder", "order", ["what", "value"]), ("BadRow", "row", ["row"]), ("BadTable", "table", ["table"]), ("TooMany", "many", ["what", "many", "limit"]), ("Unlike", "unlike", ["what"])]
theorem cv_fault {b : E} {cs : List (Option T)} {nm : PySem.Str} {fs : List (PySem.Str × T)} {due : T} (hx : ∀ (K : KE') (X : KX), X nm fs → wpE (pg.at n) b (cs.map capS) K X) (he : ((pg.at (n + 1)).exf nm).isSome = true) (hd : ∀ (K : T → Prop) (X : KX), K due → hnd K X hsL nm fs) : Cv false (pg.at (n + 2)) "_law_fault" [.sh (.clo b cs)] due := cv_fn fn27 rfl fun D k => by
  show wpSs (pg.at (n + 1)) b27 [.sh (.clo b cs), .no] D
  show wpSs (pg.at (n + 1)) (.cons (.tryf 0 hsL) (.cons (.ret .non) .nil)) [.sh (.clo b cs), .no] D
  unfold wpSs
  unfold wpS
  dsimp only [List.getElem?_cons_zero]
  exact hx _ _ ⟨he, hd _ _ (k _ _ rfl)⟩
/-! ### _law_are_due -/
structure Due (k : Nat) (p : T) : Prop where
  go : ∃ clo due d, p = .tup [clo, due] ∧ Cv false (pg.at k) "_law_fault" [.sh clo] due ∧ rpb due = true ∧ due.sd = some d ∧ ShD d 64 sizeLine
def eltD : E := .cmp .eq (.blt .repr (.cons (.call "_law_fault" (.cons (.nm 1) .nil)) .nil)) (.blt .repr (.cons (.nm 2) .nil))
def stepD (c : Pr) (t : T) (ρ3 : Zl.Env) (K : Option T → Zl.Env → Prop) : Prop := match stT t ρ3 (.tp (.cons (.nm 1) (.cons (.nm 2) .nil))) with
        | some ρ4 => wpC c .none ρ4 (fun k ρ5 => (k = true → wpE c eltD ρ5 (fun o ρ6 => match fz ρ6 o with
            | some (x, ρ7) => K (some x) ρ7
            | none => False) noX) ∧ (k = false → K none ρ5)) noX
        | none => False
theorem stepD_ok {tr p : T} (h : Due n p) {K : Option T → Zl.Env → Prop} (q : ∀ s1 s2, K (some (.bl true)) [.sh tr, s1, s2]) : stepD (pg.at n) p [.sh tr, .no, .no] K := by
  obtain ⟨clo, due, d, rfl, hf, hr, hsd, hs⟩ := h.go
  unfold stepD
  have e : stT (.tup [clo, due]) [.sh tr, .no, .no] (.tp (.cons (.nm 1) (.cons (.nm 2) .nil))) = some [.sh tr, .sh clo, .sh due] := by
    simp [stT, stTs, free]
  rw [e]
  dsimp only
  unfold wpC
  refine ⟨fun _ => ?_, fun z => by cases z⟩
  have e1 : Ev false (pg.at n) (.blt .repr (.cons (.call "_law_fault" (.cons (.nm 1) .nil)) .nil)) [.sh tr, .sh clo, .sh due] (.str d.shown) := ev_repr (ev_call (.cons (ev_sh rfl) .nil) hf).rv hr hsd hs
  have e2 : Ev false (pg.at n) (.blt .repr (.cons (.nm 2) .nil)) [.sh tr, .sh clo, .sh due] (.str d.shown) := ev_repr (ev_sh (t := due) rfl : Ev false _ _ _ _).rv hr hsd hs
  have e3 : Ev false (pg.at n) eltD [.sh tr, .sh clo, .sh due] (.bl (d.shown == d.shown)) := ev_cmp rfl e1 e2 cr_eqS
  refine e3 _ _ fun o h1 h2 _ => ?_
  rw [h2]
  dsimp only
  rw [beq_self_eq_true]
  exact q _ _
theorem due_comp {tr : T} {Qc : List T → Zl.Env → Prop} : ∀ (ts : List T) (acc : List T) (s1 s2 : Slot), (∀ p ∈ ts, Due n p) → (∀ s1 s2, Qc (acc ++ List.replicate ts.length (.bl true)) [.sh tr, s1, s2]) → compL [1, 2] (stepD (pg.at n)) ts acc [.sh tr, s1, s2] Qc
  | [], acc, s1, s2, h, q => by
    unfold compL
    have := q s1 s2
    simpa using this
  | p :: r, acc, s1, s2, h, q => by
    unfold compL
    show stepD (pg.at n) p [.sh tr, .no, .no] _
    refine stepD_ok (h p List.mem_cons_self) fun u1 u2 => ?_
    refine due_comp r _ _ _ (fun p hp => h p (List.mem_cons_of_mem _ hp)) fun s1 s2 => ?_
    have := q s1 s2
    rw [List.length_cons, List.replicate_succ] at this
    rw [List.append_assoc]
    exact this
theorem allBl_rep : ∀ m : Nat, allBl (List.replicate m (.bl true)) = some (List.replicate m true)
  | 0 => rfl
  | m + 1 => by
    rw [List.replicate_succ]
    unfold allBl
    rw [allBl_rep m]
    rfl
theorem cv_due {ts : List T} (h : ∀ p ∈ ts, Due n p) : Cv false (pg.at (n + 1)) "_law_are_due" [.sh (.lst ts)] (.bl true) := cv_fn fn28 rfl fun D k => by
  show wpSs (pg.at n) b28 [.sh (.lst ts), .no, .no] D
  refine ws_retW ?_
  unfold wpE
  unfold wpEs
  unfold wpE
  refine it_val (t := .lst ts) (ev_sh rfl) (.inl rfl) _ _ ?_
  have e : ownFz [Slot.sh (.lst ts), .no, .no] [1, 2] = some [Slot.sh (.lst ts), .no, .no] := rfl
  rw [e]
  refine ⟨rfl, ?_⟩
  refine due_comp ts [] .no .no h fun s1 s2 => ?_
  unfold wpEs
  dsimp only [rds, rd, List.nil_append]
  unfold bltR
  dsimp only
  rw [allBl_rep]
  have : (List.replicate ts.length true).all id = true := by
    induction ts.length with
    | zero => rfl
    | succ m ih => rw [List.replicate_succ, List.all_cons, ih]; rfl
  dsimp only
  rw [this]
  exact k _ _ rfl
end
end Zk

set_option Elab.async false
set_option linter.all false
set_option maxRecDepth 100000
set_option maxHeartbeats 4000000
namespace Zk
open PySem Zl
/-! ### one lap -/
theorem ws_par2W {c : Pr} {ρ : Zl.Env} {i j : Nat} {a b : E} {ss : Ss} {D : Dn} (hm : c.Mono) (h : wpE c a ρ (fun o1 ρ1 => wpE c b ρ1 (fun o2 ρ2 => ∃ t u, o1 = .val t false ∧ o2 = .val u false ∧ free ρ2 i = true ∧ free (ρ2.set i (.sh t)) j = true ∧ wpSs c ss ((ρ2.set i (.sh t)).set j (.sh u)) D) D.xx) D.xx) : wpSs c (.cons (.par [i, j] (.cons a (.cons b .nil))) ss) ρ D := by
  unfold wpSs
  unfold wpS
  unfold wpEs
  refine wpE_mono hm _ _ _ _ _ _ (fun o1 ρ1 h => ?_) (fun _ _ y => y) h
  unfold wpEs
  refine wpE_mono hm _ _ _ _ _ _ (fun o2 ρ2 h => ?_) (fun _ _ y => y) h
  obtain ⟨t, u, rfl, rfl, hi, hj, q⟩ := h
  unfold wpEs
  have e : fzo ρ2 [.val t false, .val u false] = some ([.val t false, .val u false], ρ2) := rfl
  dsimp only
  rw [e]
  have e2 : putAll ρ2 [i, j] [.val t false, .val u false] = some ((ρ2.set i (.sh t)).set j (.sh u)) := by
    simp [putAll, put, hi, hj]
  dsimp only
  rw [e2]
  exact q
theorem fr_free {ρ : Zl.Env} {i : Nat} {s : Slot} (h : ρ[i]? = some s) (hs : frS s) : free ρ i = true := by
  unfold free
  rw [h]
  rcases hs with rfl | ⟨u, rfl⟩ <;> rfl
def frZ (s : Slot) : Prop := frS s ∨ ∃ t, s = .ow t
theorem fz_free {ρ : Zl.Env} {i : Nat} {s : Slot} (h : ρ[i]? = some s) (hs : frZ s) : free ρ i = true := by
  rcases hs with hs | ⟨t, rfl⟩
  · exact fr_free h hs
  · unfold free; rw [h]
/-! shown ratios -/
def DT (p : Int × Int) : PyData := .tuple [.int p.1, .int p.2]
theorem sd_T2 {p : Int × Int} : (T2 p).sd = some (DT p) := by simp [T2, DT, T.sd, sds]
structure Nr (p : Int × Int) : Prop where
  a : p.1.natAbs < 2 ^ 200
  b : p.2.natAbs < 2 ^ 200
theorem sh_DT {p : Int × Int} {k : Nat} (h : Nr p) : ShD (DT p) (k + 1) 200 := (ShD.tup (.cons (.int h.a) (.cons (.int h.b) .nil))).le (Nat.le_refl _) (by decide)
theorem mul_lt {x y : Int} (hx : x.natAbs < 2 ^ 31) (hy : y.natAbs < 2 ^ 31) : (x * y).natAbs < 2 ^ 62 := by
  rw [Int.natAbs_mul]
  calc x.natAbs * y.natAbs < 2 ^ 31 * 2 ^ 31 := Nat.mul_lt_mul'' hx hy
    _ = 2 ^ 62 := by decide
theorem nr_low {a b : Int} (hb : b ≠ 0) (h1 : a.natAbs < 2 ^ 63) (h2 : b.natAbs < 2 ^ 63) : Nr (low a b) := by
  have := low_le (a := a) (b := b) hb
  have e : (2 : Nat) ^ 63 < 2 ^ 200 := by decide
  exact ⟨by omega, by omega⟩
section
variable {p q : Int × Int} (hp : Rt p) (hq : Rt q)
include hp hq
theorem nr_sum : Nr (sumP p q) := nr_low (den_ne hp hq) (by have := mul_lt hp.s1 hq.n2; have := mul_lt hq.s1 hp.n2; omega) (by have := mul_lt hp.n2 hq.n2; omega)
theorem nr_les : Nr (lesP p q) := nr_low (den_ne hp hq) (by have := mul_lt hp.s1 hq.n2; have := mul_lt hq.s1 hp.n2; omega) (by have := mul_lt hp.n2 hq.n2; omega)
theorem nr_scl : Nr (sclP p q) := nr_low (den_ne hp hq) (by have := mul_lt hp.s1 hq.s1; omega) (by have := mul_lt hp.n2 hq.n2; omega)
theorem nr_par (h : q.1 ≠ 0) : Nr (parP p q) := nr_low (Int.mul_ne_zero (Int.ne_of_gt hp.pos) h) (by have := mul_lt hp.s1 hq.n2; omega) (by have := mul_lt hp.n2 hq.s1; omega)
end
theorem nr_rt {p : Int × Int} (h : Rt p) : Nr p := by
  have := h.s1
  have := h.n2
  have e : (2 : Nat) ^ 31 < 2 ^ 200 := by decide
  exact ⟨by omega, by omega⟩
theorem tyb_lst {t : T} {c : Pr} : [Cl.ty "list"].any (isaT c t) = tyb t "list" := any1
/-- the loop's body -/
def lapB : Ss := match b29 with
  | .cons _ (.cons (.for_ _ _ b) _) => b
  | _ => .nil
section
variable {ns : List Int} {D : Dn} {scr : T}
def env (scr : T) (kvs : List (Key × T)) (s2 s3 s4 s5 s6 s7 : Slot) : Zl.Env := [.sh scr, .ow (.dct kvs), s2, s3, s4, s5, s6, s7, .no, .no, .no, .no]
def esDue : Es := .cons (.nm 3) (.cons (.call "_law_plus" (.cons (.nm 3) (.cons (.nm 4) .nil))) (.cons (.call "_law_minus" (.cons (.nm 3) (.cons (.nm 4) .nil))) (.cons (.call "_law_times" (.cons (.nm 3) (.cons (.nm 4) .nil))) (.cons (.call "_law_less" (.cons (.nm 3) (.cons (.nm 4) .nil))) .nil))))
def esGot : Es := .cons (.call "told" (.cons (.nm 5) .nil)) (.cons (.call "plus" (.cons (.nm 5) (.cons (.nm 6) .nil))) (.cons (.call "minus" (.cons (.nm 5) (.cons (.nm 6) .nil))) (.cons (.call "times" (.cons (.nm 5) (.cons (.nm 6) .nil))) (.cons (.call "less" (.cons (.nm 5) (.cons (.nm 6) .nil))) .nil))))
/-- behind the draw of the lap's numbers -/
def lapB2 : Ss := match lapB with
  | .cons _ (.cons _ b) => b
  | _ => .nil
def lapB3 : Ss := match lapB2 with
  | .cons _ b => b
  | _ => .nil
theorem lap3 {kvs : List (Key × T)} {l a b : T} {p q : Int × Int} {s7 : Slot} (h7 : frZ s7) (hp : Rt p) (hq : Rt q) (ha : Hd p a) (hb : Hd q b) (k : D.nx (env scr kvs (.sh l) (.sh (T2 p)) (.sh (T2 q)) (.sh a) (.sh b) (.ow (.lst [T2 p, T2 (sumP p q), T2 (lesP p q), T2 (sclP p q), .bl (belP p q)])))) :
    wpSs (pg.at 7) lapB3 (env scr kvs (.sh l) (.sh (T2 p)) (.sh (T2 q)) (.sh a) (.sh b) s7) D := by
  unfold lapB3 lapB2 lapB b29
  dsimp only
  have pq : ∀ (s : Slot), Evs (pg.at 7) (env scr kvs (.sh l) (.sh (T2 p)) (.sh (T2 q)) (.sh a) (.sh b) s) (.cons (.nm 3) (.cons (.nm 4) .nil)) [T2 p, T2 q] := fun s => .cons (ev_sh rfl) (.cons (ev_sh rfl) .nil)
  have ab : ∀ (s : Slot), Evs (pg.at 7) (env scr kvs (.sh l) (.sh (T2 p)) (.sh (T2 q)) (.sh a) (.sh b) s) (.cons (.nm 5) (.cons (.nm 6) .nil)) [a, b] := fun s => .cons (ev_sh rfl) (.cons (ev_sh rfl) .nil)
  have due : Evs (pg.at 7) (env scr kvs (.sh l) (.sh (T2 p)) (.sh (T2 q)) (.sh a) (.sh b) s7) esDue [T2 p, T2 (sumP p q), T2 (lesP p q), T2 (sclP p q), .bl (belP p q)] := .cons (ev_sh rfl) (.cons (ev_call (pq s7) (cv_lplus (n := 4) hp hq)) (.cons (ev_call (pq s7) (cv_lminus (n := 4) hp hq)) (.cons (ev_call (pq s7) (cv_ltimes (n := 4) hp hq)) (.cons (ev_call (pq s7) (cv_lless (n := 6) hp hq)) .nil))))
  refine ws_ow (ev_lst due) (wv_lst due) (fz_free rfl h7) ?_
  have sdL : (T.lst [T2 p, T2 (sumP p q), T2 (lesP p q), T2 (sclP p q), .bl (belP p q)]).sd = some (.list [DT p, DT (sumP p q), DT (lesP p q), DT (sclP p q), .bool (belP p q)]) := by simp [T.sd, sds, sd_T2]
  have shL : ShD (.list [DT p, DT (sumP p q), DT (lesP p q), DT (sclP p q), .bool (belP p q)]) 64 sizeLine := (ShD.lst (.cons (sh_DT (k := 0) (nr_rt hp)) (.cons (sh_DT (nr_sum hp hq)) (.cons (sh_DT (nr_les hp hq)) (.cons (sh_DT (nr_scl hp hq)) (.cons .bl .nil)))))).le (by decide) (by decide)
  have got : Evs (pg.at 7) (env scr kvs (.sh l) (.sh (T2 p)) (.sh (T2 q)) (.sh a) (.sh b) (.ow (.lst [T2 p, T2 (sumP p q), T2 (lesP p q), T2 (sclP p q), .bl (belP p q)]))) esGot [T2 p, T2 (sumP p q), T2 (lesP p q), T2 (sclP p q), .bl (belP p q)] := .cons (ev_call (.cons (ev_sh rfl) .nil) (ha.told 4)) (.cons (ev_call (ab _) (cv_plus (n := 3) ha.told hb.told hp hq)) (.cons (ev_call (ab _) (cv_minus (n := 3) ha.told hb.told hp hq)) (.cons (ev_call (ab _) (cv_times (n := 3) ha.told hb.told hp hq)) (.cons (ev_call (ab _) (cv_less (n := 3) ha.told hb.told hp hq)) .nil))))
  show wpSs (pg.at 7) _ (env scr kvs (.sh l) (.sh (T2 p)) (.sh (T2 q)) (.sh a) (.sh b) (.ow (.lst [T2 p, T2 (sumP p q), T2 (lesP p q), T2 (sclP p q), .bl (belP p q)]))) _
  refine ws_if (k := false) (bv_n (bv_cmp rfl (ev_repr (ev_lst got).rv rfl sdL shL) (ev_repr (rv_ow rfl) rfl sdL shL) cr_neS) (by simp)) (fun z => by cases z) fun _ => ws_nil (c := pg.at 7) ?_
  refine ws_if (k := false) (bv_n (bv_cmp (t := .str (PyData.bool (!(tyb a "list"))).shown) (u := .str (PyData.bool (!(tyb a "list"))).shown) rfl (ev_repr (ev_n (ev_call (.cons (ev_sh rfl) .nil) (cv_ratio (n := 4) ha.ok)) (by rw [ha.kind])).rv rfl rfl (ShD.bl.le (Nat.le_refl _) (by decide))) (ev_repr (ev_n (ev_not (ev_isi (ev_sh (t := a) rfl) (okT_ty ha.ok)) rfl) (by rw [tyb_lst])).rv rfl rfl (ShD.bl.le (Nat.le_refl _) (by decide))) cr_neS) (by simp)) (fun z => by cases z) fun _ => ws_nil (c := pg.at 7) ?_
  refine ws_if (k := false) (bv_and (k := !(q.1 == 0)) (bv_cmp rfl (ev_p0 (p := q) rfl) ev_int cr_neI) (fun z => ?_) (fun _ => rfl)) (fun z => by cases z) fun _ => ws_nil (c := pg.at 7) (ws_nil (c := pg.at 7) k)
  have h0 : q.1 ≠ 0 := by simpa using z
  exact bv_n (bv_cmp rfl (ev_repr (ev_call (ab _) (cv_share (n := 3) ha.told hb.told hp hq h0)).rv rfl sd_T2 ((sh_DT (k := 0) (nr_par hp hq h0)).le (by decide) (by decide))) (ev_repr (ev_call (pq _) (cv_lshare (n := 4) hp hq h0)).rv rfl sd_T2 ((sh_DT (k := 0) (nr_par hp hq h0)).le (by decide) (by decide))) cr_neS) (by simp)
end
end Zk

set_option Elab.async false
set_option linter.all false
set_option maxRecDepth 100000
set_option maxHeartbeats 4000000
namespace Zk
open PySem Zl
section
variable {ns : List Int} {D : Dn} {scr : T} {m : Nat}
/-- what a lap leaves -/
def Left (ns : List Int) (scr : T) (m : Nat) (ρ : Zl.Env) : Prop := ∃ kvs s2 s3 s4 s5 s6 s7, ρ = env scr kvs s2 s3 s4 s5 s6 s7 ∧ PenS ns m kvs ∧ frS s2 ∧ frS s3 ∧ frS s4 ∧ frS s5 ∧ frS s6 ∧ frZ s7
theorem frS_sh {t : T} : frS (.sh t) := .inr ⟨t, rfl⟩
theorem lap2 {kvs : List (Key × T)} {l : T} {p q : Int × Int} {s5 s6 s7 : Slot} (h5 : frS s5) (h6 : frS s6) (h7 : frZ s7) (lp : Low p) (lq : Low q) (hp : Rt p) (hq : Rt q) (hk : PenS ns m kvs) (hm : m + 6 < 2 ^ 40) (k : ∀ ρ, Left ns scr (m + 6) ρ → D.nx ρ) :
    wpSs (pg.at 7) lapB2 (env scr kvs (.sh l) (.sh (T2 p)) (.sh (T2 q)) s5 s6 s7) D := by
  have e : lapB2 = .cons (.par [5, 6] (.cons (.call "_law_handed" (.cons (.nm 1) (.cons (.nm 3) .nil))) (.cons (.call "_law_handed" (.cons (.nm 1) (.cons (.nm 4) .nil))) .nil))) lapB3 := rfl
  rw [e]
  refine ws_par2W (Pg.mono pg 7) ?_
  refine wp_pc (o := true) (kvs := kvs) rfl (.cons (ev_sh (t := T2 p) rfl) .nil) (handed_ok (n := 4) (by omega) hk lp hp fun a kv1 ha hk1 => ⟨kv1, rfl, ?_⟩)
  refine wp_pc (o := true) (kvs := kv1) rfl (.cons (ev_sh (t := T2 q) rfl) .nil) (handed_ok (n := 4) (by omega) hk1 lq hq fun b kv2 hb hk2 => ⟨kv2, rfl, a, b, rfl, rfl, fr_free (s := s5) rfl h5, fr_free (s := s6) rfl h6, ?_⟩)
  exact lap3 h7 hp hq ha hb (k _ ⟨_, _, _, _, _, _, _, rfl, hk2, frS_sh, frS_sh, frS_sh, frS_sh, frS_sh, .inr ⟨_, rfl⟩⟩)
theorem lap1 {kvs : List (Key × T)} {l : T} {s3 s4 s5 s6 s7 : Slot} (h3 : frS s3) (h4 : frS s4) (h5 : frS s5) (h6 : frS s6) (h7 : frZ s7) (hk : PenS ns m kvs) (hm : m + 12 < 2 ^ 40) (k : ∀ ρ, Left ns scr (m + 12) ρ → D.nx ρ) :
    wpSs (pg.at 7) lapB (env scr kvs (.sh l) s3 s4 s5 s6 s7) D := by
  have e : lapB = .cons (.par [3, 4] (.cons (.call "_law_number" (.cons (.nm 1) (.cons (.call "_law_pick" (.cons (.nm 1) (.cons (.lst (.cons (.int 4) (.cons (.int 99999) .nil))) .nil))) .nil))) (.cons (.call "_law_number" (.cons (.nm 1) (.cons (.int 9) .nil))) .nil)))
    (.cons (.if_ (.cmp .eq (.call "_law_draw" (.cons (.nm 1) (.cons (.int 3) .nil))) (.int 0)) (.cons (.asg (.tg (.nm 3)) (.call "_law_q" (.cons (.bin .sub (.bin .mul (.ix (.nm 3) (.int 0)) (.int 5)) (.int 3)) (.cons (.int 999959) .nil)))) .nil) .nil) lapB2) := rfl
  rw [e]
  refine ws_par2W (Pg.mono pg 7) ?_
  refine wp_pc1 (o := true) (kvs := kvs) rfl (wp_pick (n := 5) (o := true) rfl hk (by omega) (.cons ev_int (.cons ev_int .nil)) (by decide) (by decide) fun t kv1 ht hk1 => ⟨kv1, t, rfl, rfl, ?_⟩)
  have ht : ∃ y : Int, t = .int y ∧ 0 ≤ y ∧ y ≤ 99999 := by
    simp at ht
    rcases ht with rfl | rfl
    · exact ⟨4, rfl, by decide, by decide⟩
    · exact ⟨99999, rfl, by decide, by decide⟩
  obtain ⟨y, rfl, y1, y2⟩ := ht
  refine number_ok (n := 4) (by omega) hk1 y1 (by omega) fun p kv2 lp b1 c1 hk2 => ⟨kv2, rfl, ?_⟩
  refine wp_pc (o := true) (kvs := kv2) rfl (.cons ev_int .nil) (number_ok (n := 4) (by omega) hk2 (by decide) (by decide) fun q kv3 lq b2 c2 hk3 => ⟨kv3, rfl, T2 p, T2 q, rfl, rfl, fr_free (s := s3) rfl h3, fr_free (s := s4) rfl h4, ?_⟩)
  have hp : Rt p := ⟨lp.pos, by omega, by omega⟩
  have hq : Rt q := ⟨lq.pos, by omega, by omega⟩
  show wpSs (pg.at 7) _ (env scr kv3 (.sh l) (.sh (T2 p)) (.sh (T2 q)) s5 s6 s7) D
  have fin : ∀ (kv4 : List (Key × T)) (p' : Int × Int), Low p' → Rt p' → PenS ns (m + 6) kv4 → wpSs (pg.at 7) lapB2 (env scr kv4 (.sh l) (.sh (T2 p')) (.sh (T2 q)) s5 s6 s7) D := fun kv4 p' l' r' k4 => lap2 h5 h6 h7 l' lq r' hq k4 (by omega) k
  refine ws_ifW (wb_cmpW (wp_draw (n := 6) (o := true) rfl hk3 (by omega) ev_int (by decide) (by decide) fun d kv4 d0 d1 hk4 => wc_val (x := .int d) (u := .int 0) rfl ev_int cr_eqI ⟨fun z => ?_, fun _ => ws_nil (c := pg.at 7) (fin kv4 p lp hp hk4)⟩))
  have l2 := low_ok (a := p.1 * 5 - 3) (b := 999959) (by decide)
  have l3 := low_le (a := p.1 * 5 - 3) (b := 999959) (by decide)
  have l4 := l2.pos
  refine ws_set (t := T2 (low (p.1 * 5 - 3) 999959)) (ev_call (.cons (ev_sub (ev_mul (ev_p0 (p := p) rfl) ev_int (sm_mul _ hp.m1)) ev_int) (.cons ev_int .nil)) (cv_q (n := 5) (by decide) (by unfold Sm; decide))) rfl (ws_nil (c := pg.at 7) ?_)
  exact fin kv4 _ l2 ⟨l4, by omega, by omega⟩ hk4
/-! ### the laps -/
def stepL (c : Pr) : T → Zl.Env → Dn → Prop := fun x ρ2 D2 => match stT x ρ2 (.nm 2) with
      | some ρ3 => wpSs c lapB ρ3 D2
      | none => False
theorem laps_ok : ∀ (ts : List T) (m : Nat) (ρ : Zl.Env), Left ns scr m ρ → m + 12 * ts.length < 2 ^ 40 → ∀ D : Dn, (∀ ρ, Left ns scr (m + 12 * ts.length) ρ → D.nx ρ) → forL (stepL (pg.at 7)) ts ρ D
  | [], m, ρ, h, hm, D, k => k ρ h
  | t :: ts, m, ρ, h, hm, D, k => by
    obtain ⟨kvs, s2, s3, s4, s5, s6, s7, rfl, hk, h2, h3, h4, h5, h6, h7⟩ := h
    rw [List.length_cons] at hm k
    unfold forL
    show stepL (pg.at 7) t _ _
    unfold stepL
    have e : stT t (env scr kvs s2 s3 s4 s5 s6 s7) (.nm 2) = some (env scr kvs (.sh t) s3 s4 s5 s6 s7) := by
      unfold stT
      rw [fr_free (s := s2) rfl h2]
      rfl
    rw [e]
    refine lap1 h3 h4 h5 h6 h7 hk (by omega) fun ρ' h' => ?_
    exact laps_ok ts (m + 12) ρ' h' (by omega) D (by rw [show m + 12 + 12 * ts.length = m + 12 * (ts.length + 1) by omega]; exact k)
end
end Zk

set_option Elab.async false
set_option linter.all false
set_option maxRecDepth 100000
set_option maxHeartbeats 4000000
namespace Zk
open PySem Zl
/-! ### what is told wrong -/
structure Bad (t : T) : Prop where
  w : isW t = false
  p : isP t = false
  ok : okT t
  r : (isW t || (tyb t "tuple" && isP t)) = false
  sh : ∃ d, t.sd = some d ∧ ShD d 2 1000
def badL : List T := [.non, .str "1", .tup [.int 1], .tup [.int 1, .int 0], .tup [.int 1, .int (-2)], .tup [.bl true, .int 2], .tup [.int 1, .bl true], .bl true, .tup [.int 1, .int 2, .int 3], .lst [], .dct []]
def oddL : List T := [.str "x", .tup [.int 0, .int 0], .non]
theorem bad_of {t : T} (hw : isW t = false) (hp : isP t = false) (ok : okT t) {d : PyData} (e : t.sd = some d) (h : ShD d 2 1000) : Bad t := ⟨hw, hp, ok, by rw [hw, hp, Bool.and_false, Bool.or_false], d, e, h⟩
theorem i1 {z : Int} (h : z.natAbs < 10) {k : Nat} : ShD (.int z) k 62 := .int (by have : 10 < (2 : Nat) ^ 200 := by decide
                                                                                   omega)
theorem okA1 {a : T} (h : tyOk a = true) : okT (.tup [a]) := fun x hx => by simp at hx; subst hx; exact h
theorem okA2 {a b : T} (h : tyOk a = true) (g : tyOk b = true) : okT (.tup [a, b]) := fun x hx => by
  simp at hx; rcases hx with rfl | rfl
  · exact h
  · exact g
theorem badL_ok {t : T} (h : t ∈ badL) : Bad t := by
  unfold badL at h
  simp only [List.mem_cons, List.not_mem_nil, or_false] at h
  rcases h with rfl | rfl | rfl | rfl | rfl | rfl | rfl | rfl | rfl | rfl | rfl
  · exact bad_of rfl rfl rfl rfl ((ShD.non (k := 0)).le (by decide) (by decide))
  · exact bad_of rfl rfl rfl rfl (.str (by decide +kernel))
  · exact bad_of rfl rfl (okA1 rfl) rfl ((ShD.tup (.cons (i1 (by decide)) .nil)).le (k := 1) (by decide) (by decide))
  · exact bad_of rfl rfl (okA2 rfl rfl) rfl ((ShD.tup (.cons (i1 (by decide)) (.cons (i1 (by decide)) .nil))).le (k := 1) (by decide) (by decide))
  · exact bad_of rfl rfl (okA2 rfl rfl) rfl ((ShD.tup (.cons (i1 (by decide)) (.cons (i1 (by decide)) .nil))).le (k := 1) (by decide) (by decide))
  · exact bad_of rfl rfl (okA2 rfl rfl) rfl ((ShD.tup (.cons .bl (.cons (i1 (by decide)) .nil))).le (k := 1) (by decide) (by decide))
  · exact bad_of rfl rfl (okA2 rfl rfl) rfl ((ShD.tup (.cons (i1 (by decide)) (.cons .bl .nil))).le (k := 1) (by decide) (by decide))
  · exact bad_of rfl rfl rfl rfl ((ShD.bl (k := 0)).le (by decide) (by decide))
  · exact bad_of rfl rfl (fun x hx => by simp at hx; rcases hx with rfl | rfl | rfl <;> rfl) rfl ((ShD.tup (.cons (i1 (by decide)) (.cons (i1 (by decide)) (.cons (i1 (by decide)) .nil)))).le (k := 1) (by decide) (by decide))
  · exact bad_of rfl rfl (fun x hx => by cases hx) rfl ((ShD.lst .nil).le (k := 1) (by decide) (by decide))
  · exact bad_of rfl rfl rfl rfl ((ShD.emp (k := 1)).le (by decide) (by decide))
theorem oddL_ok {t : T} (h : t ∈ oddL) : Bad t := by
  unfold oddL at h
  simp only [List.mem_cons, List.not_mem_nil, or_false] at h
  rcases h with rfl | rfl | rfl
  · exact bad_of rfl rfl rfl rfl (.str (by decide +kernel))
  · exact bad_of rfl rfl (okA2 rfl rfl) rfl ((ShD.tup (.cons (i1 (by decide)) (.cons (i1 (by decide)) .nil))).le (k := 1) (by decide) (by decide))
  · exact bad_of rfl rfl rfl rfl ((ShD.non (k := 0)).le (by decide) (by decide))
def rowT (t : T) : T := .tup [.str "row", t]
theorem row_sd {t : T} (h : Bad t) : ∃ d, (rowT t).sd = some d ∧ ShD d 64 sizeLine := by
  obtain ⟨d, e, s⟩ := h.sh
  exact ⟨.tuple [.str "row", d], by simp [rowT, T.sd, sds, e], (ShD.tup (.cons (.str (n := 20) (by decide +kernel)) (.cons s .nil))).le (by decide) (by decide)⟩
theorem hd_row {t : T} (K : T → Prop) (X : KX) (k : K (rowT t)) : hnd K X hsL "BadRow" [("row", t)] := by
  unfold hsL
  unfold hnd
  rw [if_neg (by decide +kernel)]
  unfold hnd
  rw [if_neg (by decide +kernel)]
  unfold hnd
  rw [if_neg (by decide +kernel)]
  unfold hnd
  rw [if_pos rfl]
  exact ⟨[t], by kernel_rfl, k⟩
def numT : T := .tup [.str "number", .str "share", .int 0]
theorem hd_num (K : T → Prop) (X : KX) (k : K numT) : hnd K X hsL "BadNumber" [("what", .str "share"), ("number", .int 0)] := by
  unfold hsL
  unfold hnd
  rw [if_neg (by decide +kernel)]
  unfold hnd
  rw [if_pos rfl]
  exact ⟨[.str "share", .int 0], by kernel_rfl, k⟩
theorem num_sd : ∃ d, numT.sd = some d ∧ ShD d 64 sizeLine := ⟨.tuple [.str "number", .str "share", .int 0], by simp [numT, T.sd, sds], (ShD.tup (k := 0) (.cons (.str (x := "number") (n := 20) (by decide +kernel)) (.cons (.str (x := "share") (n := 20) (by decide +kernel)) (.cons (i1 (z := 0) (by decide)) .nil)))).le (by decide) (by decide)⟩
/-- a try whose closure raises of a bad row -/
theorem due_row {b : E} {cs : List (Option T)} {t : T} (h : Bad t) (hx : ∀ (K : KE') (X : KX), X "BadRow" [("row", t)] → wpE (pg.at 4) b (cs.map capS) K X) : Due 6 (.tup [.clo b cs, rowT t]) := by
  obtain ⟨d, e, s⟩ := row_sd h
  exact ⟨_, _, d, rfl, cv_fault (n := 4) hx (by rw [exf_row]; rfl) fun K X k => hd_row K X k, rfl, e, s⟩
theorem due_num {b : E} {cs : List (Option T)} (hx : ∀ (K : KE') (X : KX), X "BadNumber" [("what", .str "share"), ("number", .int 0)] → wpE (pg.at 4) b (cs.map capS) K X) : Due 6 (.tup [.clo b cs, numT]) := by
  obtain ⟨d, e, s⟩ := num_sd
  exact ⟨_, _, d, rfl, cv_fault (n := 4) hx (by rw [exf_num]; rfl) fun K X k => hd_num K X k, rfl, e, s⟩
theorem bad_told {t : T} (h : Bad t) (n : Nat) : Cx' (pg.at (n + 3)) "told" [.sh t] "BadRow" [("row", t)] := cx_told h.ok h.w h.p
/-! ### the tries -/
section
variable {c : Pr} {ρ ρ1 : Zl.Env} {cs : List Nat} {body b : E} {t : T} {xs : List T} {fb : Bool} {ss : Ss} {D : Dn}
theorem app_due (hc : c.Mono) (h11 : ρ[11]? = some (.ow (.lst xs))) (hl : lkAll ρ cs = some ρ1) (h11' : ρ1[11]? = some (.ow (.lst xs))) (hb : Ev fb c b ρ1 t) (hx : xs.length < 1000) (ha : ∀ p ∈ xs, Due 6 p) (hd : Due 6 (.tup [.clo body (capsOf ρ1 cs), t])) (q : ∀ ys, (∀ p ∈ ys, Due 6 p) → ys.length = xs.length + 1 → wpSs c ss (ρ1.set 11 (.ow (.lst ys))) D) : wpSs c (.cons (.ex (.app 11 (.tup (.cons (.lam cs body) (.cons b .nil))))) ss) ρ D := by
  refine ws_app ⟨_, h11⟩ (wp_try hl hb ⟨_, ρ1, xs, rfl, h11', ?_, q _ ?_ ?_⟩) hc
  · rw [sizeLine_eq]; omega
  · intro p hp
    rcases List.mem_append.mp hp with h | h
    · exact ha p h
    · rw [List.mem_singleton] at h; subst h; exact hd
  · simp
end
theorem ev_dsp0 {c : Pr} {ρ : Zl.Env} : Ev true c (.dsp [] .nil) ρ (.dct []) := fun K X q => by
  unfold wpE
  unfold wpEs
  exact ⟨rfl, Ev.val q⟩
theorem cr_is {x y : Bool} : ∀ Q : Bool → Prop, Q (x == y) → cmpR .is_ (.bl x) (.bl y) Q := fun _ q => q
def tailB : Ss := match b29 with
  | .cons _ (.cons _ b) => b
  | _ => .nil
section
variable {ns : List Int} {scr : T} {m : Nat} {kvs : List (Key × T)} {s2 s3 s4 s5 s6 s7 : Slot}
def env2 (scr : T) (kvs : List (Key × T)) (s2 s3 s4 s5 s6 s7 : Slot) (b o z t : Slot) : Zl.Env := [.sh scr, .ow (.dct kvs), s2, s3, s4, s5, s6, s7, b, o, z, t]
def tailB2 : Ss := match tailB with
  | .cons _ (.cons _ b) => b
  | _ => .nil
theorem tail2 {b o z : T} (hb : Bad b) (ho : Bad o) (hz : ∀ n, Cv false (pg.at (n + 3)) "told" [.sh z] (T2 (0, 1))) : wpSs (pg.at 7) tailB2 (env2 scr kvs s2 s3 s4 s5 s6 s7 (.sh b) (.sh o) (.sh z) .no) lawDn := by
  have M := Pg.mono pg 7
  have R3 : Rt ((3, 1) : Int × Int) := ⟨by decide, by decide, by decide⟩
  have R0 : Rt ((0, 1) : Int × Int) := ⟨by decide, by decide, by decide⟩
  have t1 : Cv false (pg.at 3) "told" [.sh (.int 1)] (T2 (1, 1)) := cv_told_int (n := 0)
  have t12 : Cv false (pg.at 3) "told" [.sh (.tup [.int 1, .int 2])] (T2 (low 1 2)) := cv_told_seq (n := 0) (.inl rfl) (by decide) (by unfold Sm; decide)
  unfold tailB2 tailB b29
  dsimp only
  refine ws_asg ?_
  unfold wpE
  unfold wpEs
  refine wp_try (ρ1 := env2 scr kvs s2 s3 s4 s5 s6 s7 (.lk b) (.sh o) (.sh z) .no) rfl (ev_tup (.cons ev_str (.cons (ev_lk (t := b) rfl) .nil))) ?_
  unfold wpEs
  refine wx_ow rfl ?_
  have d1 : ∀ p ∈ [T.tup [.clo (.call "told" (.cons (.nm 8) .nil)) (capsOf (env2 scr kvs s2 s3 s4 s5 s6 s7 (.lk b) (.sh o) (.sh z) .no) [8]), rowT b]], Due 6 p := fun p hp => by
    rw [List.mem_singleton] at hp; subst hp
    exact due_row hb fun K X q => ex_call (.cons (ev_lk (t := b) rfl) .nil) (bad_told hb 1) q
  generalize hxs : [T.tup [.clo (.call "told" (.cons (.nm 8) .nil)) (capsOf (env2 scr kvs s2 s3 s4 s5 s6 s7 (.lk b) (.sh o) (.sh z) .no) [8]), rowT b]] = xs at d1
  have l1 : xs.length = 1 := by rw [← hxs]; rfl
  have hxs' : [T.tup [T.clo (E.call "told" (Es.cons (E.nm 8) Es.nil)) (capsOf (env2 scr kvs s2 s3 s4 s5 s6 s7 (.lk b) (.sh o) (.sh z) .no) [8]), T.tup [.str "row", b]]] = xs := hxs
  rw [hxs']
  show wpSs (pg.at 7) _ (env2 scr kvs s2 s3 s4 s5 s6 s7 (.lk b) (.sh o) (.sh z) (.ow (.lst xs))) lawDn
  refine app_due (ρ1 := env2 scr kvs s2 s3 s4 s5 s6 s7 (.lk b) (.lk o) (.sh z) (.ow (.lst xs))) M rfl rfl rfl (ev_tup (.cons ev_str (.cons (ev_lk (t := b) rfl) .nil))) (by omega) d1 (due_row hb fun K X q => ex_call (.cons (ev_lk (t := b) rfl) (.cons (ev_lk (t := o) rfl) .nil)) (cx_e1 (n := 0) (bad_told hb 0)).1 q) fun ys d2 l2 => ?_
  show wpSs (pg.at 7) _ (env2 scr kvs s2 s3 s4 s5 s6 s7 (.lk b) (.lk o) (.sh z) (.ow (.lst ys))) lawDn
  refine app_due (ρ1 := env2 scr kvs s2 s3 s4 s5 s6 s7 (.lk b) (.lk o) (.sh z) (.ow (.lst ys))) M rfl rfl rfl (ev_tup (.cons ev_str (.cons (ev_lk (t := b) rfl) .nil))) (by omega) d2 (due_row hb fun K X q => ex_call (.cons ev_int (.cons (ev_lk (t := b) rfl) .nil)) (cx_e2 (n := 0) t1 (bad_told hb 0)).2.1 q) fun ys d3 l3 => ?_
  show wpSs (pg.at 7) _ (env2 scr kvs s2 s3 s4 s5 s6 s7 (.lk b) (.lk o) (.sh z) (.ow (.lst ys))) lawDn
  refine app_due (ρ1 := env2 scr kvs s2 s3 s4 s5 s6 s7 (.lk b) (.lk o) (.sh z) (.ow (.lst ys))) M rfl rfl rfl (ev_tup (.cons ev_str (.cons (ev_lk (t := o) rfl) .nil))) (by omega) d3 (due_row ho fun K X q => ex_call (.cons (ev_lk (t := o) rfl) (.cons (ev_lk (t := b) rfl) .nil)) (cx_e1 (n := 0) (bad_told ho 0)).2.2.1 q) fun ys d4 l4 => ?_
  show wpSs (pg.at 7) _ (env2 scr kvs s2 s3 s4 s5 s6 s7 (.lk b) (.lk o) (.sh z) (.ow (.lst ys))) lawDn
  refine app_due (ρ1 := env2 scr kvs s2 s3 s4 s5 s6 s7 (.lk b) (.lk o) (.sh z) (.ow (.lst ys))) M rfl rfl rfl (ev_tup (.cons ev_str (.cons (ev_lk (t := b) rfl) .nil))) (by omega) d4 (due_row hb fun K X q => ex_call (.cons (ev_tup (.cons ev_int (.cons ev_int .nil))) (.cons (ev_lk (t := b) rfl) .nil)) (cx_e2 (n := 0) t12 (bad_told hb 0)).2.2.2.2 q) fun ys d5 l5 => ?_
  show wpSs (pg.at 7) _ (env2 scr kvs s2 s3 s4 s5 s6 s7 (.lk b) (.lk o) (.sh z) (.ow (.lst ys))) lawDn
  refine app_due (ρ1 := env2 scr kvs s2 s3 s4 s5 s6 s7 (.lk b) (.lk o) (.sh z) (.ow (.lst ys))) M rfl rfl rfl (ev_tup (.cons ev_str (.cons (ev_lk (t := b) rfl) .nil))) (by omega) d5 (due_row hb fun K X q => ex_call (.cons (ev_lk (t := b) rfl) (.cons ev_int .nil)) (cx_e1 (n := 0) (bad_told hb 0)).2.2.2.1 q) fun ys d6 l6 => ?_
  show wpSs (pg.at 7) _ (env2 scr kvs s2 s3 s4 s5 s6 s7 (.lk b) (.lk o) (.sh z) (.ow (.lst ys))) lawDn
  refine app_due (ρ1 := env2 scr kvs s2 s3 s4 s5 s6 s7 (.lk b) (.lk o) (.sh z) (.ow (.lst ys))) M rfl rfl rfl (ev_tup (.cons ev_str (.cons (ev_lk (t := b) rfl) .nil))) (by omega) d6 (due_row hb fun K X q => ex_call (.cons ev_int (.cons (ev_lk (t := b) rfl) .nil)) (cx_e2 (n := 0) t1 (bad_told hb 0)).2.2.2.1 q) fun ys d7 l7 => ?_
  show wpSs (pg.at 7) _ (env2 scr kvs s2 s3 s4 s5 s6 s7 (.lk b) (.lk o) (.sh z) (.ow (.lst ys))) lawDn
  refine app_due (ρ1 := env2 scr kvs s2 s3 s4 s5 s6 s7 (.lk b) (.lk o) (.lk z) (.ow (.lst ys))) M rfl rfl rfl (ev_tup (.cons ev_str (.cons ev_str (.cons ev_int .nil)))) (by omega) d7 (due_num fun K X q => ex_call (.cons ev_int (.cons (ev_lk (t := z) rfl) .nil)) (cx_share0 (n := 0) (p := (3, 1)) (q := (0, 1)) (cv_told_int (n := 0)) (hz 0) rfl) q) fun ys d8 l8 => ?_
  show wpSs (pg.at 7) _ (env2 scr kvs s2 s3 s4 s5 s6 s7 (.lk b) (.lk o) (.lk z) (.ow (.lst ys))) lawDn
  refine ws_retW ?_
  unfold wpE
  refine ev_cmp (t := .bl false) (u := .bl false) rfl (ev_call (.cons (ev_lk (t := b) rfl) .nil) (cv_n (cv_ratio (n := 4) hb.ok) (by rw [hb.r]))) ev_bl cr_is _ _ fun o1 h1 _ _ => ev_one h1 ⟨true, rfl, fun _ => ?_, fun z => by cases z⟩
  unfold wpE
  unfold wpEs
  unfold wpE
  show wpEs _ .nil _ _ _
  unfold wpEs
  refine cv_due (n := 6) d8 _ _ fun io => ?_
  exact rfl
end
end Zk

set_option Elab.async false
set_option linter.all false
set_option maxRecDepth 100000
set_option maxHeartbeats 4000000
namespace Zk
open PySem Zl
section
variable {ns : List Int} {scr : T} {m : Nat} {kvs : List (Key × T)} {s2 s3 s4 s5 s6 s7 : Slot}
def esBad : Es := .cons .non (.cons (.str "1") (.cons (.tup (.cons (.int 1) .nil)) (.cons (.tup (.cons (.int 1) (.cons (.int 0) .nil))) (.cons (.tup (.cons (.int 1) (.cons (.neg (.int 2)) .nil))) (.cons (.tup (.cons (.bl true) (.cons (.int 2) .nil))) (.cons (.tup (.cons (.int 1) (.cons (.bl true) .nil))) (.cons (.bl true) (.cons (.tup (.cons (.int 1) (.cons (.int 2) (.cons (.int 3) .nil)))) (.cons (.lst .nil) (.cons (.dsp [] .nil) .nil))))))))))
theorem evs_bad {c : Pr} {ρ : Zl.Env} : Evs c ρ esBad badL := .cons ev_non (.cons ev_str (.cons (ev_tup (.cons ev_int .nil)) (.cons (ev_tup (.cons ev_int (.cons ev_int .nil))) (.cons (ev_tup (.cons ev_int (.cons (ev_neg ev_int) .nil))) (.cons (ev_tup (.cons ev_bl (.cons ev_int .nil))) (.cons (ev_tup (.cons ev_int (.cons ev_bl .nil))) (.cons ev_bl (.cons (ev_tup (.cons ev_int (.cons ev_int (.cons ev_int .nil)))) (.cons (ev_lst .nil) (.cons ev_dsp0 .nil))))))))))
theorem zero_ok {z : T} (h : z ∈ [T.int 0, T.tup [.int 0, .int 6]]) (n : Nat) : Cv false (pg.at (n + 3)) "told" [.sh z] (T2 (0, 1)) := by
  simp only [List.mem_cons, List.not_mem_nil, or_false] at h
  rcases h with rfl | rfl
  · exact cv_told_int
  · exact cv_n (cv_told_seq (a := 0) (b := 6) (.inl rfl) (by decide) (by unfold Sm; decide)) (congrArg T2 (show low 0 6 = (0, 1) by decide +kernel))
theorem tail1 (hk : PenS ns m kvs) (hm : m + 6 < 2 ^ 40) : wpSs (pg.at 7) tailB (env scr kvs s2 s3 s4 s5 s6 s7) lawDn := by
  have e : tailB = .cons (.asg (.tg (.nm 8)) (.call "_law_pick" (.cons (.nm 1) (.cons (.lst esBad) .nil))))
    (.cons (.asg (.tg (.tp (.cons (.nm 9) (.cons (.nm 10) .nil)))) (.tup (.cons (.call "_law_pick" (.cons (.nm 1) (.cons (.lst (.cons (.str "x") (.cons (.tup (.cons (.int 0) (.cons (.int 0) .nil))) (.cons .non .nil)))) .nil))) (.cons (.call "_law_pick" (.cons (.nm 1) (.cons (.lst (.cons (.int 0) (.cons (.tup (.cons (.int 0) (.cons (.int 6) .nil))) .nil))) .nil))) .nil)))) tailB2) := rfl
  rw [e]
  refine ws_asg (wp_pick (n := 5) (o := true) (kvs := kvs) rfl hk (by omega) evs_bad (by decide) (by decide) fun b kv1 hb hk1 => wx_sh rfl ?_)
  show wpSs (pg.at 7) _ (env2 scr kv1 s2 s3 s4 s5 s6 s7 (.sh b) .no .no .no) lawDn
  refine ws_asg ?_
  unfold wpE
  unfold wpEs
  refine wp_pick (n := 5) (o := true) (kvs := kv1) rfl hk1 (by omega) (.cons ev_str (.cons (ev_tup (.cons ev_int (.cons ev_int .nil))) (.cons ev_non .nil))) (by decide) (by decide) fun o kv2 ho hk2 => ?_
  unfold wpEs
  refine wp_pick (n := 5) (o := true) (kvs := kv2) rfl hk2 (by omega) (.cons ev_int (.cons (ev_tup (.cons ev_int (.cons ev_int .nil))) .nil)) (by decide) (by decide) fun z kv3 hz hk3 => ?_
  unfold wpEs
  show wpX _ _ (.val (.tup [o, z]) false) (env2 scr kv3 s2 s3 s4 s5 s6 s7 (.sh b) .no .no .no) _ _
  unfold wpX
  have e2 : stT (.tup [o, z]) (env2 scr kv3 s2 s3 s4 s5 s6 s7 (.sh b) .no .no .no) (.tp (.cons (.nm 9) (.cons (.nm 10) .nil))) = some (env2 scr kv3 s2 s3 s4 s5 s6 s7 (.sh b) (.sh o) (.sh z) .no) := by
    simp [stT, stTs, free, env2]
  show (match stT (.tup [o, z]) (env2 scr kv3 s2 s3 s4 s5 s6 s7 (.sh b) .no .no .no) (.tp (.cons (.nm 9) (.cons (.nm 10) .nil))) with
      | some ρ2 => wpSs (pg.at 7) tailB2 ρ2 lawDn
      | none => False)
  rw [e2]
  exact tail2 (badL_ok hb) (oddL_ok ho) (zero_ok hz)
end
/-- the law -/
theorem wish (ns : List Int) : wpSs (pg.at 7) b29 ([.sh (.scr (ns.map T.int))] ++ List.replicate 11 .no) lawDn := by
  have e : b29 = .cons (.asg (.tg (.nm 1)) (.call "_law_pen" (.cons (.nm 0) .nil))) (.cons (.for_ (.nm 2) (.rng (.int 0) (.int 6)) lapB) tailB) := rfl
  rw [e]
  refine ws_asg ?_
  unfold wpE
  unfold wpEs
  refine wp_nmS (t := .scr (ns.map T.int)) rfl ?_
  unfold wpEs
  show (pg.at 7).call "_law_pen" [.sh (.scr (ns.map T.int))] _ _
  refine pen_ok (n := 6) fun kvs hk => wx_ow rfl ?_
  show wpSs (pg.at 7) _ (env (.scr (ns.map T.int)) kvs .no .no .no .no .no .no) lawDn
  refine ws_for (it_rng ev_int ev_int ⟨by decide, by decide, by decide, by decide, by rw [sizeLine_eq]; decide⟩) ?_
  refine laps_ok (ns := ns) (rngT 0 6) 0 _ ⟨kvs, _, _, _, _, _, _, rfl, hk, .inl rfl, .inl rfl, .inl rfl, .inl rfl, .inl rfl, .inl (.inl rfl)⟩ (by decide) _ fun ρ h => ?_
  obtain ⟨kv, s2, s3, s4, s5, s6, s7, rfl, hk2, h2, h3, h4, h5, h6, h7⟩ := h
  exact tail1 hk2 (by decide)
end Zk

set_option Elab.async false
set_option linter.all false
set_option maxRecDepth 100000
set_option maxHeartbeats 4000000
namespace Zk
open PySem PySem.Spec PyProof.Rows L2 Zl
theorem inx0 : IniT "OrderError" ["what", "number"] x0 := ⟨⟨["self", "what", "number"], ["self", "what", "number"], "self", _, _, _, _, _, _, _, _, _, _, rfl, C8.fnScope_by (by decide +kernel), rfl, rfl, by decide +kernel, .cons rfl rfl (.cons rfl rfl .nil), by decide +kernel, fun env => rfl, fun _ _ _ _ _ _ us hl => match us, hl with | [_, _, _], _ => rfl⟩, by decide +kernel, by simp, rfl, rfl⟩
theorem inx1 : IniT "OrderError" ["what", "value"] x1 := ⟨⟨["self", "what", "value"], ["self", "what", "value"], "self", _, _, _, _, _, _, _, _, _, _, rfl, C8.fnScope_by (by decide +kernel), rfl, rfl, by decide +kernel, .cons rfl rfl (.cons rfl rfl .nil), by decide +kernel, fun env => rfl, fun _ _ _ _ _ _ us hl => match us, hl with | [_, _, _], _ => rfl⟩, by decide +kernel, by simp, rfl, rfl⟩
theorem inx2 : IniT "OrderError" ["lot"] x2 := ⟨⟨["self", "lot"], ["self", "lot"], "self", _, _, _, _, _, _, _, _, _, _, rfl, C8.fnScope_by (by decide +kernel), rfl, rfl, by decide +kernel, .cons rfl rfl .nil, by decide +kernel, fun env => rfl, fun _ _ _ _ _ _ us hl => match us, hl with | [_, _], _ => rfl⟩, by decide +kernel, by simp, rfl, rfl⟩
theorem inx3 : IniT "OrderError" ["row"] x3 := ⟨⟨["self", "row"], ["self", "row"], "self", _, _, _, _, _, _, _, _, _, _, rfl, C8.fnScope_by (by decide +kernel), rfl, rfl, by decide +kernel, .cons rfl rfl .nil, by decide +kernel, fun env => rfl, fun _ _ _ _ _ _ us hl => match us, hl with | [_, _], _ => rfl⟩, by decide +kernel, by simp, rfl, rfl⟩
theorem inx4 : IniT "OrderError" ["table"] x4 := ⟨⟨["self", "table"], ["self", "table"], "self", _, _, _, _, _, _, _, _, _, _, rfl, C8.fnScope_by (by decide +kernel), rfl, rfl, by decide +kernel, .cons rfl rfl .nil, by decide +kernel, fun env => rfl, fun _ _ _ _ _ _ us hl => match us, hl with | [_, _], _ => rfl⟩, by decide +kernel, by simp, rfl, rfl⟩
theorem inx5 : IniT "OrderError" ["what"] x5 := ⟨⟨["self", "what"], ["self", "what"], "self", _, _, _, _, _, _, _, _, _, _, rfl, C8.fnScope_by (by decide +kernel), rfl, rfl, by decide +kernel, .cons rfl rfl .nil, by decide +kernel, fun env => rfl, fun _ _ _ _ _ _ us hl => match us, hl with | [_, _], _ => rfl⟩, by decide +kernel, by simp, rfl, rfl⟩
theorem inx6 : IniT "OrderError" ["what", "many", "limit"] x6 := ⟨⟨["self", "what", "many", "limit"], ["self", "what", "many", "limit"], "self", _, _, _, _, _, _, _, _, _, _, rfl, C8.fnScope_by (by decide +kernel), rfl, rfl, by decide +kernel, .cons rfl rfl (.cons rfl rfl (.cons rfl rfl .nil)), by decide +kernel, fun env => rfl, fun _ _ _ _ _ _ us hl => match us, hl with | [_, _, _, _], _ => rfl⟩, by decide +kernel, by simp, rfl, rfl⟩
theorem lawT : LawT nd tLaw "script" := ⟨⟨400, trLaw⟩, scLaw, cellLaw, rfl, rfl, rfl, fun _ _ _ _ _ _ us hl => match us, hl with | [_], _ => rfl⟩
theorem exAll : ∀ p ∈ nd.excs, ∃ y ∈ dfs, IniT "OrderError" p.2 y ∧ y.at_ = (p.1, some ("__init__" : PySem.Str)) := by
  intro p hp
  simp only [nd, List.mem_cons, List.not_mem_nil, or_false] at hp
  rcases hp with hp | hp | hp | hp | hp | hp | hp
  · subst hp; exact ⟨x0, by simp [dfs], inx0, rfl⟩
  · subst hp; exact ⟨x1, by simp [dfs], inx1, rfl⟩
  · subst hp; exact ⟨x2, by simp [dfs], inx2, rfl⟩
  · subst hp; exact ⟨x3, by simp [dfs], inx3, rfl⟩
  · subst hp; exact ⟨x4, by simp [dfs], inx4, rfl⟩
  · subst hp; exact ⟨x5, by simp [dfs], inx5, rfl⟩
  · subst hp; exact ⟨x6, by simp [dfs], inx6, rfl⟩
end Zk

set_option Elab.async false
set_option linter.all false
set_option maxRecDepth 100000
set_option maxHeartbeats 0
namespace Zk
open PySem PySem.Spec PyProof.Rows L2 Zl
theorem roomL : Room (2 * 7 + 4) callerA := ⟨by decide, by decide, by decide⟩
end Zk
open PySem PySem.W PySem.Calls PyProof.Rows
theorem PySem.Challenge.cw_chainorders_k02_ratios_holds : PySem.Challenge.rw_chainorders_k02_ratios.Holds := by
  w_on; o_law
  refine HandSHeadRun.head_imp (r := OpenLaw.row PySem.Challenge.rw_chainorders_k02_ratios) (q := view (OpenLaw.row PySem.Challenge.rw_chainorders_k02_ratios).prog [0, 42]) (H := Zk.hk) (ob := Zk.ob) (M := 20000) (loose := Zk.loose) (d := HandSHeadRun.topDef (OpenLaw.row PySem.Challenge.rw_chainorders_k02_ratios).prog 42) (kwd := []) Zk.ob_eq Zk.run (by kernel_rfl) (by kernel_rfl) (by kernel_rfl) (by rfl) (by first | assumption | decide +kernel) (by decide +kernel) ⟨rfl, rfl, rfl, rfl, rfl, by decide +kernel⟩ ?hw ?hc
  case hw => w_witness2
  case hc =>
    exact Zl.walk_fin (l := PySem.Challenge.rw_chainorders_k02_ratios) (n := 63) (m := 7) (hq := Zk.hq) (ms := Zk.ms) (e0 := "OrderError") (x := "script") (con := Zk.con0) (tfs := Zk.tfs) (tL := Zk.tLaw) (c := Zk.pg) rfl (by decide) (by kernel_rfl) (by kernel_rfl)
      (fun K h => Zl.and_t h) (fun _ _ _ _ _ _ _ _ _ e => by cases e) Zk.tfs_ok (fun t ht => List.mem_append.mpr (.inl (List.mem_map.mpr ⟨t, ht, rfl⟩))) (by simp [Zk.dfs]) Zk.lawT Zk.exAll Zk.pg_eq (by decide) Zk.roomL
      (fun ns _ => Zk.wish ns)

