import PyProof.Rows.All
import Wide.All
import OpenK.AllK
import Wide.FinOn
import HandS.ForMost
import HandS.FStr
import HandS.ForExc
import HandS.CallSlots
import HandS.IsInst
import HandS.DictComp
import HandS.Deep
import HandS.Conv
import HandS.Style
import HandS.TryMany
import HandS.TupAny
import HandS.Strs
import HandS.ClsMeth
import HandS.ExcSuper
import KE.KSuper
import PySem.Challenge.RW_kindsteps_k03_first_faults
set_option Elab.async false
set_option linter.all false
set_option maxRecDepth 100000
/-! MSA: trees, the abstract heap, the small interpreter. -/
namespace MS
open PySem

/-- a value as a tree; what is in it never changes -/
inductive T where
  | non | bl (b : Bool) | int (i : Int) | str (s : Str)
  | tup (xs : List T) | lst (xs : List T)
  | dct (kvs : List (T × T))
  | ins (c : Nat) (fs : List (Nat × T))
  | scr (ns : List Int)
  | fn (g : Nat)
  deriving Inhabited
/-- a tree, or a thing that may still change -/
inductive Val where
  | t (x : T) | ref (n : Nat)
  deriving Inhabited
inductive Ob where
  | lst (vs : List Val) | dct (kvs : List (T × Val)) | ins (c : Nat) (fs : List (Nat × Val)) | frz (x : T)
  deriving Inhabited
structure Ex where
  c : Nat
  a : Option T
inductive RH (α : Type) where
  | ok (a : α) (h : List Ob) | exc (e : Ex) (h : List Ob) | bad
def MH (α : Type) := List Ob → RH α
namespace MH
def pure {α : Type} (a : α) : MH α := fun h => .ok a h
def bind {α β : Type} (m : MH α) (f : α → MH β) : MH β := fun h => match m h with
  | .ok a h' => f a h'
  | .exc e h' => .exc e h'
  | .bad => .bad
end MH
instance : Monad MH where
  pure := MH.pure
  bind := MH.bind
def bad {α : Type} : MH α := fun _ => .bad
def rai {α : Type} (e : Ex) : MH α := fun h => .exc e h
def chk (b : Bool) : MH Unit := if b then pure () else bad
def noexc {α : Type} (m : MH α) : MH α := fun h => match m h with
  | .exc _ _ => .bad
  | r => r
abbrev Loc := List (Option Val)

/-- the line of sizes -/
abbrev SL : Nat := sizeLine

/-! ### cells -/
def nrm (v : Val) (h : List Ob) : Val := match v with
  | .ref n => match h[n]? with
    | some (.frz x) => .t x
    | _ => v
  | v => v
def new (o : Ob) : MH Val := fun h => .ok (.ref h.length) (h ++ [o])
def put (n : Nat) (o : Ob) : MH Unit := fun h => .ok () (h.set n o)

def mp {α β : Type} (f : α → MH β) : List α → MH (List β)
  | [] => pure []
  | x :: xs => do
    let y ← f x
    let ys ← mp f xs
    pure (y :: ys)

/-- freeze: what it is from now on -/
def fzw (n : Nat) (x : T) : MH T := fun h => .ok x (h.set n (.frz x))
def fzn : Nat → Val → MH T
  | _, .t x => pure x
  | 0, .ref _ => bad
  | k + 1, .ref n => fun h => match h[n]? with
    | some (.frz x) => .ok x h
    | some (.lst vs) => MH.bind (mp (fzn k) vs) (fun ts => fzw n (.lst ts)) h
    | some (.dct kvs) => MH.bind (mp (fzn k) (kvs.map (·.2))) (fun ts => fzw n (.dct ((kvs.map (·.1)).zip ts))) h
    | some (.ins c fs) => MH.bind (mp (fzn k) (fs.map (·.2))) (fun ts => fzw n (.ins c ((fs.map (·.1)).zip ts))) h
    | none => .bad
def pur (v : Val) : MH T := fzn 8 v

/-- read only: what it is now -/
def snapL {α : Type} (f : α → List Ob → Option T) : List α → List Ob → Option (List T)
  | [], _ => some []
  | x :: xs, h => match f x h, snapL f xs h with
    | some y, some ys => some (y :: ys)
    | _, _ => none
def snap : Nat → Val → List Ob → Option T
  | _, .t x, _ => some x
  | 0, .ref _, _ => none
  | k + 1, .ref n, h => match h[n]? with
    | some (.frz x) => some x
    | some (.lst vs) => (snapL (snap k) vs h).map .lst
    | _ => none

/-- the items of a list or a tuple -/
def seqV (v : Val) : MH (List Val) := fun h => match v with
  | .t (.tup xs) => .ok (xs.map .t) h
  | .t (.lst xs) => .ok (xs.map .t) h
  | .t (.scr ns) => .ok (ns.map fun i => .t (.int i)) h
  | .t _ => .bad
  | .ref n => match h[n]? with
    | some (.lst vs) => .ok vs h
    | some (.frz (.lst xs)) => .ok (xs.map .t) h
    | _ => .bad
/-- .. of a list that may change -/
def cellV (v : Val) : MH (Nat × List Val) := fun h => match v with
  | .t _ => .bad
  | .ref n => match h[n]? with
    | some (.lst vs) => .ok (n, vs) h
    | _ => .bad

/-! ### data -/
mutual
def T.toD : T → Option PyData
  | .non => some .none
  | .bl b => some (.bool b)
  | .int i => some (.int i)
  | .str s => some (.str s)
  | .tup xs => (T.toDs xs).map .tuple
  | .lst xs => (T.toDs xs).map .list
  | _ => none
termination_by structural x => x
def T.toDs : List T → Option (List PyData)
  | [] => some []
  | x :: xs => match x.toD, T.toDs xs with
    | some d, some ds => some (d :: ds)
    | _, _ => none
termination_by structural x => x
end
def T.data (x : T) : Option PyData := match x.toD with
  | some d => if SeqAt.shaped d then some d else none
  | none => none
def dataOf (v : Val) : MH PyData := fun h => match (snap 8 v h).bind T.data with
  | some d => .ok d h
  | none => .bad
/-- keys of dicts -/
def keyOf : T → Option L2.Key
  | .int i => some (.inl i)
  | .str s => some (.inr s)
  | _ => none
def keyT : L2.Key → T
  | .inl i => .int i
  | .inr s => .str s

/-! ### the text -/
inductive Op where
  | add | sub | mul | fdv | mod | pow | neg
  | lt | le | gt | ge
  | isN | isnN | isB (b : Bool) | isnB (b : Bool)
  | idx | idxd | slc (lo hi : Bool) | fld (f : Nat)
  | len | abs | int1 | str1 | list (m : Bool) | tuple | max2 | min2 | any | all | sum
  | append | pop | clear | count | index | lrng (m : Bool)
  deriving DecidableEq
def Op.cmp : Op → Bool
  | .lt => true | .le => true | .gt => true | .ge => true | .isN => true | .isnN => true | .isB _ => true | .isnB _ => true
  | _ => false
inductive Sp where
  | cls (c : Nat) | str | list | tuple | int | dict
  deriving DecidableEq
inductive Ty where
  | non | bl | int | str | tup | lst | dct | ins (c : Nat)
def tyIs (isa : Nat → Nat → Bool) : Ty → Sp → Bool
  | .ins c, .cls d => isa c d
  | .bl, .int => true
  | .int, .int => true
  | .str, .str => true
  | .tup, .tuple => true
  | .lst, .list => true
  | .dct, .dict => true
  | _, _ => false
inductive Tg where
  | v (i : Nat) | tp (ts : List Tg)
mutual
inductive E where
  | var (i : Nat) | int (i : Int) | str (s : Str) | bl (b : Bool) | non | gl (g : Nat)
  | op (o : Op) (es : List E)
  | lm (o : Op) (l : E) (es : List E)
  | eqq (neg : Bool) (a b : E) | inn (neg : Bool) (a b : E)
  | ch (o1 o2 : Op) (a b c : E)
  | and (es : List E) | or (es : List E) | nott (a : E) | ifx (c a b : E)
  | tup (es : List E) | lst (m : Bool) (es : List E)
  | dsp (m : Bool) (kvs : List E)
  | call (raw : Bool) (f : Nat) (es : List E)
  | new (c : Nat) (nk : Nat) (es : List E)
  | meth (raw : Bool) (o : E) (m : Nat) (es : List E)
  | sup (d f : Nat) (es : List E)
  | isi (a : E) (sp : List Sp)
  | lc (m : Bool) (own : List Nat) (tg : Tg) (it : It) (ifs : List E) (e : E)
  | lc2 (m : Bool) (own : List Nat) (tg : Tg) (it : It) (ifs : List E) (tg1 : Tg) (it1 : It) (ifs1 : List E) (e : E)
  | dc (own : List Nat) (tg : Tg) (it : It) (k v : E)
  | fst (ps : List Fp)
inductive It where
  | seq (e : E) | liv (e : E) | rng1 (e : E) | rng2 (a b : E) | enum (e : E) | zip (a b : E)
inductive Fp where
  | lit (s : Str) | val (e : E) | rep (e : E)
end
instance : Inhabited E := ⟨.non⟩
inductive Hd where
  | set (i : Nat) (x : T) | setn (i : Nat) (pre : Str) | sub (i : Nat) (k : Int) (x : T) | subn (i : Nat) (k : Int) (pre : Str)
inductive S where
  | set (i : Nat) (e : E) | des (ts : List Tg) (e : E)
  | sub (a i e : E) | subd (a i e : E) | fset (a : E) (f : Nat) (e : E)
  | ex (e : E) | ret (m : Bool) (e : E) | retn
  | iff (c : E) (a b : List S)
  | fr (tg : Tg) (it : It) (b : List S)
  | whl (c : E) (b : List S)
  | rai (c : Nat) (e : Option E)
  | tryx (b : List S) (hs : List (Nat × Hd))
  | pass | brk | cnt | no
instance : Inhabited S := ⟨.pass⟩

/-! ### what is called -/
structure Cl where
  fn : Nat → List Val → MH Val
  nw : Nat → List Val → MH Val
  mth : Nat → Nat → Option Nat
  ini : Nat → Option Nat
  isa : Nat → Nat → Bool
  gl : Nat → Option T
  wf : Nat

/-! ### values -/
def intV : Val → MH Int
  | .t (.int i) => pure i
  | _ => bad
def blV : Val → MH Bool
  | .t (.bl b) => pure b
  | _ => bad
def strV : Val → MH Str
  | .t (.str s) => pure s
  | _ => bad
def lift {α : Type} : Option α → MH α
  | some a => pure a
  | none => bad
/-- a list, frozen from now on -/
def lstP (v : Val) : MH (List T) := do
  match ← pur v with
  | .lst xs => pure xs
  | _ => bad
def obT : Ob → Option T
  | .frz x => some x
  | _ => none
def tru (v : Val) : MH Bool := fun h => match v with
  | .t .non => .ok false h
  | .t (.bl b) => .ok b h
  | .t (.int i) => .ok (i != 0) h
  | .t (.str s) => if s.length ≤ SL then .ok (s.length != 0) h else .bad
  | .t (.tup xs) => .ok (!xs.isEmpty) h
  | .t (.lst xs) => .ok (!xs.isEmpty) h
  | .t _ => .bad
  | .ref n => match h[n]? with
    | some (.lst vs) => .ok (!vs.isEmpty) h
    | some (.frz (.lst xs)) => .ok (!xs.isEmpty) h
    | _ => .bad
/-- a dict's entries -/
def dctV (v : Val) : MH (List (T × Val)) := fun h => match v with
  | .t (.dct kvs) => .ok (kvs.map fun p => (p.1, .t p.2)) h
  | .t _ => .bad
  | .ref n => match h[n]? with
    | some (.dct kvs) => .ok kvs h
    | some (.frz (.dct kvs)) => .ok (kvs.map fun p => (p.1, .t p.2)) h
    | _ => .bad
def keyEq (a b : T) : Bool := decide (keyOf a = keyOf b)
def dget (kvs : List (T × Val)) (k : T) : Option Val := (kvs.find? fun p => keyEq p.1 k).map (·.2)
def dput (kvs : List (T × Val)) (k : T) (v : Val) : List (T × Val) :=
  if kvs.any (fun p => keyEq p.1 k) then kvs.map fun p => if keyEq p.1 k then (p.1, v) else p else kvs ++ [(k, v)]
def keyV (v : Val) : MH T := match v with
  | .t (.int i) => pure (.int i)
  | .t (.str s) => pure (.str s)
  | _ => bad
def fldV (f : Nat) (v : Val) : MH Val := fun h => match v with
  | .t (.ins _ fs) => match fs.lookup f with
    | some x => .ok (.t x) h
    | none => .bad
  | .t _ => .bad
  | .ref n => match h[n]? with
    | some (.ins _ fs) => match fs.lookup f with
      | some x => .ok (nrm x h) h
      | none => .bad
    | some (.frz (.ins _ fs)) => match fs.lookup f with
      | some x => .ok (.t x) h
      | none => .bad
    | _ => .bad
def clsV (v : Val) : MH Nat := fun h => match v with
  | .t (.ins c _) => .ok c h
  | .t _ => .bad
  | .ref n => match h[n]? with
    | some (.ins c _) => .ok c h
    | some (.frz (.ins c _)) => .ok c h
    | _ => .bad
def isIns (v : Val) (h : List Ob) : Bool := match v with
  | .t (.ins _ _) => true
  | .t _ => false
  | .ref n => match h[n]? with
    | some (.ins _ _) => true
    | some (.frz (.ins _ _)) => true
    | _ => false
def scalT : T → Bool
  | .non => true | .bl _ => true | .int _ => true | .str _ => true | _ => false
def cutL {α : Type} (xs : List α) (lo hi : Option Int) : List α :=
  (xs.drop (HT.sIx xs.length 0 lo)).take (HT.sIx xs.length xs.length hi - HT.sIx xs.length 0 lo)
def bl (b : Bool) : MH Val := pure (.t (.bl b))
def int (i : Int) : MH Val := pure (.t (.int i))
def str (s : Str) : MH Val := pure (.t (.str s))
def two (vs : List Val) : MH (Val × Val) := match vs with
  | [a, b] => pure (a, b)
  | _ => bad
def one (vs : List Val) : MH Val := match vs with
  | [a] => pure a
  | _ => bad

instance (i j : Int) : Decidable (L2.CMul i j) := by unfold L2.CMul; infer_instance
instance (i j : Int) : Decidable (L2.CDivN i j) := by unfold L2.CDivN; infer_instance
instance (i j : Int) : Decidable (L2.CPow i j) := by unfold L2.CPow; infer_instance
def addM (a b : Val) : MH Val := match a, b with
  | .t (.int i), .t (.int j) => int (i + j)
  | .t (.str s), .t (.str u) => if s.length + u.length ≤ SL then str (s ++ u) else bad
  | .t (.tup xs), .t (.tup ys) => if xs.length + ys.length ≤ SL then pure (.t (.tup (xs ++ ys))) else bad
  | a, b => do
    let xs ← lstP a
    let ys ← lstP b
    if xs.length + ys.length ≤ SL then pure (.t (.lst (xs ++ ys))) else bad
def mulM (a b : Val) : MH Val := match a, b with
  | .t (.int i), .t (.int j) => if decide (L2.CMul i j) then int (i * j) else bad
  | a, .t (.int k) => do
    let xs ← lstP a
    if decide (-(2 ^ 63) ≤ k) && decide (k < 2 ^ 63) && decide (xs.length * k.toNat ≤ SL) then pure (.t (.lst (List.replicate k.toNat xs).flatten)) else bad
  | _, _ => bad
def iop (ok : Int → Int → Bool) (f : Int → Int → Int) (a b : Val) : MH Val := match a, b with
  | .t (.int i), .t (.int j) => if ok i j then int (f i j) else bad
  | _, _ => bad
def cop (f : Int → Int → Bool) (a b : Val) : MH Val := match a, b with
  | .t (.int i), .t (.int j) => bl (f i j)
  | _, _ => bad
def idxM (a b : Val) : MH Val := match a, b with
  | .t (.str s), .t (.int i) => if s.length ≤ SL then (match L2.atI s.cps.toList i with
    | some c => str ⟨#[c]⟩
    | none => bad) else bad
  | a, .t (.int i) => do
    let xs ← seqV a
    match L2.atI xs i with
    | some v => fun h => .ok (nrm v h) h
    | none => bad
  | _, _ => bad
def idxdM (a b : Val) : MH Val := do
  let k ← keyV b
  let kvs ← dctV a
  match dget kvs k with
  | some v => fun h => .ok (nrm v h) h
  | none => bad
def slcM (a : Val) (lo hi : Option Int) : MH Val := match a with
  | .t (.str s) => if s.length ≤ SL then str (L2.cutS s lo hi) else bad
  | .t (.tup xs) => pure (.t (.tup (cutL xs lo hi)))
  | a => do
    let xs ← lstP a
    pure (.t (.lst (cutL xs lo hi)))
def slcA (lo hi : Bool) (vs : List Val) : MH Val := match lo, hi, vs with
  | false, false, [a] => slcM a none none
  | true, false, [a, i] => do let i ← intV i; slcM a (some i) none
  | false, true, [a, j] => do let j ← intV j; slcM a none (some j)
  | true, true, [a, i, j] => do let i ← intV i; let j ← intV j; slcM a (some i) (some j)
  | _, _, _ => bad
def lenM (a : Val) : MH Val := match a with
  | .t (.str s) => if s.length ≤ SL then int s.length else bad
  | a => do let xs ← seqV a; int xs.length
def blsV : List Val → MH (List Bool)
  | [] => pure []
  | v :: vs => do let b ← blV v; let bs ← blsV vs; pure (b :: bs)
def intsV : List Val → MH (List Int)
  | [] => pure []
  | v :: vs => do let b ← intV v; let bs ← intsV vs; pure (b :: bs)
def keep (m : Bool) (vs : List Val) : MH Val := if m then new (.lst vs) else do
  let ts ← mp pur vs
  pure (.t (.lst ts))
/-- the items as data, frozen -/
def seqD (l : Val) (f : List PyData → MH Val) : MH Val := match l with
  | .t (.tup xs) => (match (T.tup xs).data with
    | some (.tuple ds) => f ds
    | _ => bad)
  | l => MH.bind (lstP l) fun xs => match (T.lst xs).data with
    | some (.list ds) => f ds
    | _ => bad
/-- a list, or (tp) a tuple -/
def isSeq (tp : Bool) (v : Val) : MH Unit := fun h => match v with
  | .t (.lst _) => .ok () h
  | .t (.tup _) => if tp then .ok () h else .bad
  | .t _ => .bad
  | .ref n => match h[n]? with
    | some (.lst _) => .ok () h
    | some (.frz (.lst _)) => .ok () h
    | _ => .bad
def Op.tp : Op → Bool
  | .count => true
  | .index => true
  | _ => false
def opM (o : Op) (vs : List Val) : MH Val := match o, vs with
  | .add, [a, b] => addM a b
  | .sub, [a, b] => iop (fun _ _ => true) (fun i j => i - j) a b
  | .mul, [a, b] => mulM a b
  | .fdv, [a, b] => iop (fun i j => decide (L2.CDivN i j)) (fun i j => i.fdiv j) a b
  | .mod, [a, b] => iop (fun _ j => decide (j ≠ 0)) (fun i j => i.fmod j) a b
  | .pow, [a, b] => iop (fun i j => decide (L2.CPow i j)) (fun i j => i ^ j.toNat) a b
  | .neg, [a] => do let i ← intV a; int (-i)
  | .lt, [a, b] => cop (fun i j => decide (i < j)) a b
  | .le, [a, b] => cop (fun i j => decide (i ≤ j)) a b
  | .gt, [a, b] => cop (fun i j => decide (j < i)) a b
  | .ge, [a, b] => cop (fun i j => decide (j ≤ i)) a b
  | .isN, [a] => match a with | .t .non => bl true | _ => bl false
  | .isnN, [a] => match a with | .t .non => bl false | _ => bl true
  | .isB c, [a] => do let b ← blV a; bl (decide (b = c))
  | .isnB c, [a] => do let b ← blV a; bl (!decide (b = c))
  | .idx, [a, b] => idxM a b
  | .idxd, [a, b] => idxdM a b
  | .slc lo hi, vs => slcA lo hi vs
  | .fld f, [a] => fldV f a
  | .len, [a] => lenM a
  | .abs, [a] => do let i ← intV a; int (if i < 0 then -i else i)
  | .int1, [a] => match a with
    | .t (.int i) => int i
    | .t (.bl b) => int (if b then 1 else 0)
    | _ => bad
  | .str1, [a] => do let i ← intV a; if i.natAbs.log2 < 1920 then str (Str.ofString (toString i)) else bad
  | .list m, [a] => do let xs ← seqV a; keep m xs
  | .lrng m, [a] => do let i ← intV a; if decide (-(2 ^ 62) ≤ i) && decide (i < 16777216) then keep m ((List.range i.toNat).map fun k => .t (.int (k : Nat))) else bad
  | .tuple, [a] => match a with
    | .t (.tup xs) => pure (.t (.tup xs))
    | a => do let xs ← lstP a; pure (.t (.tup xs))
  | .max2, [a, b] => do let i ← intV a; let j ← intV b; int (if j > i then j else i)
  | .min2, [a, b] => do let i ← intV a; let j ← intV b; int (if j < i then j else i)
  | .any, [a] => do let xs ← lstP a; let bs ← blsV (xs.map .t); bl (bs.any id)
  | .all, [a] => do let xs ← lstP a; let bs ← blsV (xs.map .t); bl (bs.all id)
  | .sum, [a] => do let xs ← lstP a; let is ← intsV (xs.map .t); int is.sum
  | .append, [l, v] => do
    let (n, xs) ← cellV l
    if xs.length < SL then (do put n (.lst (xs ++ [v])); pure (.t .non)) else bad
  | .pop, [l] => do
    let (n, xs) ← cellV l
    match xs[xs.length - 1]? with
    | some y => do put n (.lst xs.dropLast); (fun h => .ok (nrm y h) h)
    | none => bad
  | .clear, [l] => do
    let (n, _) ← cellV l
    put n (.lst [])
    pure (.t .non)
  | .count, [l, v] => seqD l fun ds => MH.bind (pur v) fun x => match x.data with
    | some d => int (ds.filter fun z => PyData.eqv z d).length
    | none => bad
  | .index, [l, v] => seqD l fun ds => MH.bind (pur v) fun x => match x.data with
    | some d => (match ds.findIdx? fun z => PyData.eqv z d with
      | some j => int (j : Nat)
      | none => bad)
    | none => bad
  | _, _ => bad

end MS

set_option Elab.async false
set_option linter.all false
set_option maxRecDepth 100000
/-! MSB: the small interpreter. -/
namespace MS
open PySem

mutual
def asg : Tg → Val → Loc → Option Loc
  | .v i, v, loc => some (loc.set i (some v))
  | .tp ts, v, loc => match v with
    | .t (.tup xs) => asgs ts xs loc
    | _ => none
termination_by structural x => x
def asgs : List Tg → List T → Loc → Option Loc
  | [], xs, loc => match xs with
    | [] => some loc
    | _ => none
  | t :: ts, xs, loc => match xs with
    | x :: xs => match asg t (.t x) loc with
      | some l => asgs ts xs l
      | none => none
    | [] => none
termination_by structural x => x
end
mutual
def Tg.ix : Tg → List Nat
  | .v i => [i]
  | .tp ts => Tg.ixs ts
termination_by structural x => x
def Tg.ixs : List Tg → List Nat
  | [] => []
  | t :: ts => t.ix ++ Tg.ixs ts
termination_by structural x => x
end
def wipeL (loc : Loc) : List Nat → Loc
  | [] => loc
  | v :: vs => (wipeL loc vs).set v none

def lcM (asgn : Val → Loc → Option Loc) (loc : Loc) (tst : Loc → MH Bool) (elt : Loc → MH Val) : List Val → MH (List Val)
  | [] => pure []
  | x :: xs => match asgn x loc with
    | none => bad
    | some l => do
      let b ← tst l
      if b then do
        let v ← elt l
        let vs ← lcM asgn loc tst elt xs
        pure (v :: vs)
      else lcM asgn loc tst elt xs
def lcM2 (asgn : Val → Loc → Option Loc) (loc : Loc) (tst : Loc → MH Bool) (inner : Loc → MH (List Val)) : List Val → MH (List Val)
  | [] => pure []
  | x :: xs => match asgn x loc with
    | none => bad
    | some l => do
      let b ← tst l
      if b then do
        let v ← inner l
        let vs ← lcM2 asgn loc tst inner xs
        pure (v ++ vs)
      else lcM2 asgn loc tst inner xs
def dcM (asgn : Val → Loc → Option Loc) (loc : Loc) (ke ve : Loc → MH Val) : List Val → List (T × Val) → MH (List (T × Val))
  | [], acc => pure acc
  | x :: xs, acc => match asgn x loc with
    | none => bad
    | some l => do
      let k ← ke l
      let k ← keyV k
      let v ← ve l
      dcM asgn loc ke ve xs (dput acc k v)

/-- no cell of it is told of in what stands below n -/
def Val.below (n : Nat) : Val → Bool
  | .t _ => true
  | .ref m => decide (m < n)
def Ob.below (n : Nat) : Ob → Bool
  | .lst vs => vs.all (Val.below n)
  | .dct kvs => kvs.all fun p => p.2.below n
  | .ins _ fs => fs.all fun p => p.2.below n
  | .frz _ => true
def trunc (n : Nat) (h : List Ob) : List Ob := if (h.take n).all (Ob.below n) then h.take n else h
def Val.isT : Val → Bool
  | .t _ => true
  | .ref _ => false

/-- a call that is handed trees and hands back a tree -/
def apart (m : MH Val) : MH Val := fun h => match m [] with
  | .ok (.t x) _ => .ok (.t x) h
  | .ok (.ref _) _ => .bad
  | .exc e _ => .exc e h
  | .bad => .bad
def callM (C : Cl) (raw : Bool) (f : Nat) (vs : List Val) : MH Val :=
  if raw then C.fn f vs else if vs.all Val.isT then apart (C.fn f vs) else bad
def newM (C : Cl) (raw : Bool) (c : Nat) (vs : List Val) : MH Val := match C.ini c with
  | none => bad
  | some f => if raw then (fun h => match C.nw f (.ref h.length :: vs) (h ++ [.ins c []]) with
      | .ok (.t .non) h' => .ok (.ref h.length) h'
      | .ok _ _ => .bad
      | .exc e h' => .exc e h'
      | .bad => .bad)
    else if vs.all Val.isT then apart (fun h => match C.nw f (.ref h.length :: vs) (h ++ [.ins c []]) with
      | .ok (.t .non) h' => MH.bind (pur (.ref h.length)) (fun x => pure (.t x)) h'
      | .ok _ _ => .bad
      | .exc e h' => .exc e h'
      | .bad => .bad) else bad
/-- the names of special methods, by number -/
abbrev mEq : Nat := 0
abbrev mIn : Nat := 1
abbrev mLen : Nat := 2
def scal2 (v w : Val) : Option Bool := match v, w with
  | .t x, .t y => if scalT x && scalT y then (match x, y with
    | .non, .non => some true
    | .non, _ => some false
    | _, .non => some false
    | .bl a, .bl b => some (decide (a = b))
    | .int a, .int b => some (decide (a = b))
    | .str a, .str b => some (decide (a = b))
    | .int _, .str _ => some false
    | .str _, .int _ => some false
    | .bl _, .str _ => some false
    | .str _, .bl _ => some false
    | _, _ => none) else none
  | _, _ => none
def Cl.low (C : Cl) : Cl := { C with fn := C.nw }
def eqM (C : Cl) (neg : Bool) (v w : Val) : MH Val := fun h =>
  match scal2 v w with
  | some b => .ok (.t (.bl (b ^^ neg))) h
  | none => if isIns v h then MH.bind (clsV v) (fun c => MH.bind (clsV w) fun d => match C.mth c mEq with
      | some f => if d == c || !C.isa d c then MH.bind (callM (if neg then C.low else C) false f [v, w]) (fun r => MH.bind (blV r) fun b => bl (b ^^ neg)) else bad
      | none => bad) h
    else MH.bind (dataOf v) (fun d => MH.bind (dataOf w) fun e => bl (PyData.eqv d e ^^ neg)) h
def isDct (v : Val) (h : List Ob) : Bool := match v with
  | .t (.dct _) => true
  | .t _ => false
  | .ref n => match h[n]? with
    | some (.dct _) => true
    | some (.frz (.dct _)) => true
    | _ => false
def innM (C : Cl) (neg : Bool) (v w : Val) : MH Val := fun h => match w with
  | .t (.str z) => MH.bind (strV v) (fun c => if c.length = 1 then bl (decide (c.cps.getD 0 0 ∈ z.cps.toList) ^^ neg) else bad) h
  | _ => if isDct w h then MH.bind (keyV v) (fun k => MH.bind (dctV w) fun kvs => bl ((dget kvs k).isSome ^^ neg)) h
    else if isIns w h then MH.bind (clsV w) (fun c => match C.mth c mIn with
      | some f => MH.bind (callM C false f [w, v]) (fun r => MH.bind (blV r) fun b => bl (b ^^ neg))
      | none => bad) h
    else MH.bind (dataOf v) (fun d => MH.bind (dataOf w) fun e => match e with
      | .list es => bl (es.any (fun x => PyData.eqv x d) ^^ neg)
      | .tuple es => bl (es.any (fun x => PyData.eqv x d) ^^ neg)
      | _ => bad) h
/-- the type of a value -/
def tyM (v : Val) (h : List Ob) : Option Ty := match v with
  | .t .non => some .non
  | .t (.bl _) => some .bl
  | .t (.int _) => some .int
  | .t (.str _) => some .str
  | .t (.tup _) => some .tup
  | .t (.lst _) => some .lst
  | .t (.dct _) => some .dct
  | .t (.ins c _) => some (.ins c)
  | .t _ => none
  | .ref n => match h[n]? with
    | some (.lst _) => some .lst
    | some (.dct _) => some .dct
    | some (.ins c _) => some (.ins c)
    | some (.frz (.lst _)) => some .lst
    | some (.frz (.dct _)) => some .dct
    | some (.frz (.ins c _)) => some (.ins c)
    | _ => none
def isiM (C : Cl) (v : Val) (sp : List Sp) : MH Val := fun h => match tyM v h with
  | some t => .ok (.t (.bl (sp.any fun s => tyIs C.isa t s))) h
  | none => .bad
def fmtV (v : Val) : MH Str := match v with
  | .t (.str s) => if s.length ≤ SL then pure s else bad
  | .t (.int i) => if i.natAbs.log2 < 1920 then pure (Str.ofString (toString i)) else bad
  | _ => bad
def repV (v : Val) : MH Str := match v with
  | .t (.str s) => if (reprText s).length ≤ SL then pure (reprText s) else bad
  | .t (.int i) => if i.natAbs.log2 < 1920 then pure (Str.ofString (toString i)) else bad
  | _ => bad
def zipT : List T → List T → List T
  | x :: xs, y :: ys => .tup [x, y] :: zipT xs ys
  | _, _ => []
def enumT (i : Nat) : List T → List T
  | [] => []
  | x :: xs => .tup [.int i, x] :: enumT (i + 1) xs
/-- what a loop walks, of a value -/
def walkV (v : Val) : MH (List Val) := match v with
  | .t (.str s) => if s.length ≤ SL then pure (s.cps.toList.map fun c => .t (.str ⟨#[c]⟩)) else bad
  | .t (.tup xs) => pure (xs.map .t)
  | .t (.scr ns) => pure (ns.map fun i => .t (.int i))
  | v => do let xs ← lstP v; pure (xs.map .t)
def rngM (lo hi : Int) : MH (List Val) :=
  if decide (-(2 ^ 62) ≤ lo) && decide (lo < 2 ^ 62) && decide (-(2 ^ 62) ≤ hi) && decide (hi < 2 ^ 62) then
    pure ((List.range (hi - lo).toNat).map fun i => .t (.int (lo + (i : Nat)))) else bad

def newN (o : Ob) : MH Nat := fun h => .ok h.length (h ++ [o])
/-- the empty dict at n, filled -/
def fillD (n : Nat) (kvs : List (T × Val)) : MH Unit := fun h => match h[n]? with
  | some (.dct []) => .ok () (h.set n (.dct kvs))
  | _ => .bad

mutual
def evE (C : Cl) : E → Loc → MH Val
  | .var i, loc => fun h => match loc[i]? with
    | some (some v) => .ok (nrm v h) h
    | _ => .bad
  | .int i, _ => int i
  | .str s, _ => str s
  | .bl b, _ => bl b
  | .non, _ => pure (.t .non)
  | .gl g, _ => match C.gl g with
    | some x => pure (.t x)
    | none => bad
  | .op o es, loc => MH.bind (evEs C es loc) fun vs => opM o vs
  | .lm o l es, loc => MH.bind (evE C l loc) fun a => MH.bind (isSeq o.tp a) fun _ => MH.bind (evEs C es loc) fun vs => opM o (a :: vs)
  | .eqq neg a b, loc => MH.bind (evE C a loc) fun v => MH.bind (evE C b loc) fun w => eqM C neg v w
  | .inn neg a b, loc => MH.bind (evE C a loc) fun v => MH.bind (evE C b loc) fun w => innM C neg v w
  | .ch o1 o2 a b c, loc => MH.bind (evE C a loc) fun x => MH.bind (evE C b loc) fun y => MH.bind (opM o1 [x, y]) fun r => MH.bind (blV r) fun k =>
    if k then MH.bind (evE C c loc) fun z => opM o2 [y, z] else bl false
  | .and es, loc => evAnd C es loc
  | .or es, loc => evOr C es loc
  | .nott a, loc => MH.bind (evE C a loc) fun v => MH.bind (blV v) fun b => bl (!b)
  | .ifx c a b, loc => MH.bind (evT C c loc) fun k => if k then evE C a loc else evE C b loc
  | .tup es, loc => MH.bind (evEs C es loc) fun vs => MH.bind (mp pur vs) fun ts => pure (.t (.tup ts))
  | .lst m es, loc => MH.bind (evEs C es loc) fun vs => keep m vs
  | .dsp m kvs, loc => MH.bind (newN (.dct [])) fun n => MH.bind (evPs C kvs loc []) fun acc => MH.bind (fillD n acc) fun _ => if m then pure (.ref n) else MH.bind (pur (.ref n)) fun x => pure (.t x)
  | .call raw f es, loc => MH.bind (evEs C es loc) fun vs => callM C raw f vs
  | .new c _ es, loc => MH.bind (evEs C es loc) fun vs => newM C false c vs
  | .meth raw o m es, loc => MH.bind (evE C o loc) fun v => MH.bind (clsV v) fun c => match C.mth c m with
    | some f => MH.bind (evEs C es loc) fun vs => callM C raw f (v :: vs)
    | none => bad
  | .sup d f es, loc => match loc[0]? with
    | some (some v) => MH.bind (clsV v) fun c => if C.isa c d then MH.bind (evEs C es loc) fun vs => C.fn f (v :: vs) else bad
    | _ => bad
  | .isi a sp, loc => MH.bind (evE C a loc) fun v => isiM C v sp
  | .lc m own tg it ifs e, loc => MH.bind (evIt C it loc) fun xs => if xs.length ≤ SL then noexc (MH.bind (lcM (asg tg) (wipeL loc own) (evTs C ifs) (evE C e) xs) fun vs => keep m vs) else bad
  | .lc2 m own tg it ifs tg1 it1 ifs1 e, loc => MH.bind (evIt C it loc) fun xs => if xs.length ≤ 1000 then noexc (MH.bind (lcM2 (asg tg) (wipeL loc own) (evTs C ifs) (fun l =>
      MH.bind (evIt C it1 l) fun ys => if ys.length ≤ 1000 then lcM (asg tg1) (wipeL l tg1.ix) (evTs C ifs1) (evE C e) ys else bad) xs) fun vs => keep m vs) else bad
  | .dc own tg it k v, loc => MH.bind (evIt C it loc) fun xs => if xs.length ≤ SL then noexc (MH.bind (dcM (asg tg) (wipeL loc own) (evE C k) (evE C v) xs []) fun kvs =>
      MH.bind (mp pur (kvs.map (·.2))) fun ts => pure (.t (.dct ((kvs.map (·.1)).zip ts)))) else bad
  | .fst ps, loc => MH.bind (evFs C ps loc Str.empty) fun s => str s
termination_by structural x => x
def evEs (C : Cl) : List E → Loc → MH (List Val)
  | [], _ => pure []
  | e :: es, loc => MH.bind (evE C e loc) fun v => MH.bind (evEs C es loc) fun vs => pure (v :: vs)
termination_by structural x => x
def evAnd (C : Cl) : List E → Loc → MH Val
  | [], _ => bad
  | e :: es, loc => match es with
    | [] => evE C e loc
    | _ => MH.bind (evE C e loc) fun v => MH.bind (blV v) fun b => if b then evAnd C es loc else bl false
termination_by structural x => x
def evOr (C : Cl) : List E → Loc → MH Val
  | [], _ => bad
  | e :: es, loc => match es with
    | [] => evE C e loc
    | _ => MH.bind (evE C e loc) fun v => MH.bind (blV v) fun b => if b then bl true else evOr C es loc
termination_by structural x => x
/-- a test -/
def evT (C : Cl) : E → Loc → MH Bool
  | .and es, loc => evTand C es loc
  | .or es, loc => evTor C es loc
  | .nott a, loc => MH.bind (evT C a loc) fun b => pure (!b)
  | .ifx c a b, loc => MH.bind (evT C c loc) fun k => if k then MH.bind (evE C a loc) tru else MH.bind (evE C b loc) tru
  | .var i, loc => fun h => match loc[i]? with
    | some (some v) => tru (nrm v h) h
    | _ => .bad
  | .int i, _ => pure (i != 0)
  | .str s, _ => tru (.t (.str s))
  | .bl b, _ => pure b
  | .non, _ => pure false
  | .gl g, _ => match C.gl g with
    | some x => tru (.t x)
    | none => bad
  | .op o es, loc => MH.bind (evEs C es loc) fun vs => MH.bind (opM o vs) (if o.cmp then blV else tru)
  | .lm o l es, loc => MH.bind (evE C l loc) fun a => MH.bind (isSeq o.tp a) fun _ => MH.bind (evEs C es loc) fun vs => MH.bind (opM o (a :: vs)) tru
  | .eqq neg a b, loc => MH.bind (evE C a loc) fun v => MH.bind (evE C b loc) fun w => MH.bind (eqM C neg v w) blV
  | .inn neg a b, loc => MH.bind (evE C a loc) fun v => MH.bind (evE C b loc) fun w => MH.bind (innM C neg v w) blV
  | .ch o1 o2 a b c, loc => MH.bind (evE C a loc) fun x => MH.bind (evE C b loc) fun y => MH.bind (opM o1 [x, y]) fun r => MH.bind (blV r) fun k =>
    if k then MH.bind (evE C c loc) fun z => MH.bind (opM o2 [y, z]) blV else pure false
  | .call raw f es, loc => MH.bind (evEs C es loc) fun vs => MH.bind (callM C raw f vs) tru
  | .meth raw o m es, loc => MH.bind (evE C o loc) fun v => MH.bind (clsV v) fun c => match C.mth c m with
    | some f => MH.bind (evEs C es loc) fun vs => MH.bind (callM C raw f (v :: vs)) tru
    | none => bad
  | .isi a sp, loc => MH.bind (evE C a loc) fun v => MH.bind (isiM C v sp) tru
  | .sup _ _ _, _ => bad
  | .new _ _ _, _ => bad
  | .tup _, _ => bad
  | .lst _ _, _ => bad
  | .dsp _ _, _ => bad
  | .lc _ _ _ _ _ _, _ => bad
  | .lc2 _ _ _ _ _ _ _ _ _, _ => bad
  | .dc _ _ _ _ _, _ => bad
  | .fst _, _ => bad
termination_by structural x => x
def evTand (C : Cl) : List E → Loc → MH Bool
  | [], _ => pure true
  | e :: es, loc => MH.bind (evT C e loc) fun b => if b then evTand C es loc else pure false
termination_by structural x => x
def evTor (C : Cl) : List E → Loc → MH Bool
  | [], _ => pure false
  | e :: es, loc => MH.bind (evT C e loc) fun b => if b then pure true else evTor C es loc
termination_by structural x => x
def evTs (C : Cl) : List E → Loc → MH Bool
  | [], _ => pure true
  | e :: es, loc => match es with
    | [] => evT C e loc
    | _ => bad
termination_by structural x => x
def evPs (C : Cl) : List E → Loc → List (T × Val) → MH (List (T × Val))
  | [], _, acc => pure acc
  | [_], _, _ => bad
  | k :: v :: r, loc, acc => MH.bind (evE C k loc) fun k => MH.bind (keyV k) fun k => MH.bind (evE C v loc) fun v => evPs C r loc (dput acc k v)
termination_by structural x => x
def evIt (C : Cl) : It → Loc → MH (List Val)
  | .seq e, loc => MH.bind (evE C e loc) walkV
  | .liv e, loc => MH.bind (evE C e loc) seqV
  | .rng1 e, loc => MH.bind (evE C e loc) fun v => MH.bind (intV v) fun i => rngM 0 i
  | .rng2 a b, loc => MH.bind (evE C a loc) fun v => MH.bind (evE C b loc) fun w => MH.bind (intV v) fun i => MH.bind (intV w) fun j => rngM i j
  | .enum e, loc => MH.bind (evE C e loc) fun v => MH.bind (lstP v) fun xs => pure ((enumT 0 xs).map .t)
  | .zip a b, loc => MH.bind (evE C a loc) fun v => MH.bind (evE C b loc) fun w => MH.bind (lstP v) fun xs => MH.bind (lstP w) fun ys => pure ((zipT xs ys).map .t)
termination_by structural x => x
def evFs (C : Cl) : List Fp → Loc → Str → MH Str
  | [], _, acc => pure acc
  | p :: ps, loc, acc => MH.bind (evFp C p loc) fun s => if (acc ++ s).length ≤ SL then evFs C ps loc (acc ++ s) else bad
termination_by structural x => x
def evFp (C : Cl) : Fp → Loc → MH Str
  | .lit s, _ => pure s
  | .val e, loc => MH.bind (evE C e loc) fmtV
  | .rep e, loc => MH.bind (evE C e loc) repV
termination_by structural x => x
end

/-! ### statements -/
inductive Fl where
  | nx (loc : Loc) | ret (v : Val) | bk (loc : Loc) | ct (loc : Loc)
inductive RS where
  | ok (f : Fl) (h : List Ob) | exc (e : Ex) (loc : Loc) (h : List Ob) | bad
/-- behind an expression -/
def thenE {α : Type} (m : MH α) (loc : Loc) (k : α → List Ob → RS) (h : List Ob) : RS := match m h with
  | .ok a h' => k a h'
  | .exc e h' => .exc e loc h'
  | .bad => .bad
def thenS (r : RS) (k : Loc → List Ob → RS) : RS := match r with
  | .ok (.nx loc) h => k loc h
  | r => r
def forM (tg : Tg) (body : Loc → List Ob → RS) : List Val → Loc → List Ob → RS
  | [], loc, h => .ok (.nx loc) h
  | x :: xs, loc, h => match asg tg (nrm x h) loc with
    | none => .bad
    | some l => match body l h with
      | .ok (.nx l') h' => forM tg body xs l' h'
      | .ok (.ct l') h' => forM tg body xs l' h'
      | .ok (.bk l') h' => .ok (.nx l') h'
      | r => r
/-- a list that may change is walked by its places -/
def livM (tg : Tg) (n : Nat) (body : Loc → List Ob → RS) : Nat → Nat → Loc → List Ob → RS
  | 0, _, _, _ => .bad
  | k + 1, i, loc, h => match h[n]? with
    | some (.lst vs) => match vs[i]? with
      | none => .ok (.nx loc) h
      | some x => match asg tg (nrm x h) loc with
        | none => .bad
        | some l => match body l h with
          | .ok (.nx l') h' => livM tg n body k (i + 1) l' h'
          | .ok (.ct l') h' => livM tg n body k (i + 1) l' h'
          | .ok (.bk l') h' => .ok (.nx l') h'
          | r => r
    | _ => .bad
def whileM (c : Loc → MH Bool) (body : Loc → List Ob → RS) : Nat → Loc → List Ob → RS
  | 0, _, _ => .bad
  | k + 1, loc, h => match c loc h with
    | .ok true h' => match body loc h' with
      | .ok (.nx l') h'' => whileM c body k l' h''
      | .ok (.ct l') h'' => whileM c body k l' h''
      | .ok (.bk l') h'' => .ok (.nx l') h''
      | r => r
    | .ok false h' => .ok (.nx loc) h'
    | .exc e h' => .exc e loc h'
    | .bad => .bad
def setItM (a i v : Val) : MH Unit := do
  let (n, xs) ← cellV a
  let k ← intV i
  match L2.ixN xs.length k with
  | some j => put n (.lst (xs.set j v))
  | none => bad
def setDM (a k v : Val) : MH Unit := fun h => match a with
  | .t _ => .bad
  | .ref n => match h[n]? with
    | some (.dct kvs) => MH.bind (keyV k) (fun k => if kvs.length < SL then put n (.dct (dput kvs k v)) else bad) h
    | _ => .bad
def putF (f : Nat) (v : Val) : List (Nat × Val) → List (Nat × Val)
  | [] => [(f, v)]
  | (g, w) :: r => if g = f then (f, v) :: r else (g, w) :: putF f v r
def setFM (f : Nat) (a v : Val) : MH Unit := fun h => match a with
  | .t _ => .bad
  | .ref n => match h[n]? with
    | some (.ins c fs) => if fs.length < 100 then put n (.ins c (putF f v fs)) h else .bad
    | _ => .bad
def cat (p : Str) (a : Option T) : Option T := match a with
  | some (.str s) => if p.length + s.length ≤ SL then some (.str (p ++ s)) else none
  | _ => none
def hdM (d : Hd) (e : Ex) (loc : Loc) (h : List Ob) : RS := match d with
  | .set i x => .ok (.nx (loc.set i (some (.t x)))) h
  | .setn i p => match cat p e.a with
    | some x => .ok (.nx (loc.set i (some (.t x)))) h
    | none => .bad
  | .sub i k x => match loc[i]? with
    | some (some v) => thenE (setItM v (.t (.int k)) (.t x)) loc (fun _ h => .ok (.nx loc) h) h
    | _ => .bad
  | .subn i k p => match cat p e.a, loc[i]? with
    | some x, some (some v) => thenE (setItM v (.t (.int k)) (.t x)) loc (fun _ h => .ok (.nx loc) h) h
    | _, _ => .bad
def hdsM (isa : Nat → Nat → Bool) (hs : List (Nat × Hd)) (e : Ex) (loc : Loc) (h : List Ob) : RS := match hs.find? fun p => isa e.c p.1 with
  | some (_, d) => hdM d e loc h
  | none => .exc e loc h
mutual
def exS (C : Cl) : S → Loc → List Ob → RS
  | .set i e, loc => thenE (evE C e loc) loc fun v h => .ok (.nx (loc.set i (some v))) h
  | .des ts e, loc => thenE (evE C e loc) loc fun v h => match asg (.tp ts) v loc with
    | some l => .ok (.nx l) h
    | none => .bad
  | .sub a i e, loc => thenE (MH.bind (evE C e loc) fun v => MH.bind (evE C a loc) fun a => MH.bind (evE C i loc) fun i => setItM a i v) loc fun _ h => .ok (.nx loc) h
  | .subd a i e, loc => thenE (MH.bind (evE C e loc) fun v => MH.bind (evE C a loc) fun a => MH.bind (evE C i loc) fun i => setDM a i v) loc fun _ h => .ok (.nx loc) h
  | .fset a f e, loc => thenE (MH.bind (evE C e loc) fun v => MH.bind (evE C a loc) fun a => setFM f a v) loc fun _ h => .ok (.nx loc) h
  | .ex e, loc => thenE (evE C e loc) loc fun _ h => .ok (.nx loc) h
  | .ret m e, loc => thenE (if m then evE C e loc else MH.bind (evE C e loc) fun v => MH.bind (pur v) fun x => pure (.t x)) loc fun v h => .ok (.ret v) h
  | .retn, _ => fun h => .ok (.ret (.t .non)) h
  | .iff c a b, loc => thenE (evT C c loc) loc fun k => if k then exSs C a loc else exSs C b loc
  | .fr tg it b, loc => match it with
    | .liv e => thenE (MH.bind (evE C e loc) cellV) loc fun p => livM tg p.1 (exSs C b) C.wf 0 loc
    | it => thenE (evIt C it loc) loc fun xs => forM tg (exSs C b) xs loc
  | .whl c b, loc => whileM (evT C c) (exSs C b) C.wf loc
  | .rai c e, loc => match e with
    | none => fun h => .exc ⟨c, none⟩ loc h
    | some e => thenE (evE C e loc) loc fun v h => match v with
      | .t (.str s) => if s.length ≤ 100000 then .exc ⟨c, some (.str s)⟩ loc h else .bad
      | _ => .bad
  | .tryx b hs, loc => fun h => match exSs C b loc h with
    | .exc e l h' => hdsM C.isa hs e l h'
    | r => r
  | .pass, loc => fun h => .ok (.nx loc) h
  | .brk, loc => fun h => .ok (.bk loc) h
  | .cnt, loc => fun h => .ok (.ct loc) h
  | .no, _ => fun _ => .bad
termination_by structural x => x
def exSs (C : Cl) : List S → Loc → List Ob → RS
  | [], loc => fun h => .ok (.nx loc) h
  | s :: ss, loc => fun h => thenS (exS C s loc h) (exSs C ss)
termination_by structural x => x
end

/-! ### defs -/
structure FnD where
  np : Nat
  ns : Nat
  body : List S
  deriving Inhabited
def startL (d : FnD) (vs : List Val) : Loc := vs.map some ++ List.replicate (d.ns - vs.length) none
def run (C : Cl) (d : FnD) (vs : List Val) : MH Val := fun h =>
  if vs.length = d.np then (match exSs C d.body (startL d vs) h with
    | .ok (.ret (.t x)) h' => .ok (.t x) (trunc h.length h')
    | .ok (.ret (.ref n)) h' => .ok (.ref n) h'
    | .ok (.nx _) h' => .ok (.t .non) (trunc h.length h')
    | .ok _ _ => .bad
    | .exc e _ h' => .exc e (trunc h.length h')
    | .bad => .bad) else .bad
/-- the program: defs, methods, inits, classes, constants -/
structure Tab where
  fn : Nat → Option FnD
  mth : Nat → Nat → Option Nat
  ini : Nat → Option Nat
  isa : Nat → Nat → Bool
  gl : Nat → Option T
def Tab.cl (G : Tab) (a b : Nat → List Val → MH Val) : Cl := ⟨a, b, G.mth, G.ini, G.isa, G.gl, 1000000⟩
def Tab.ff (G : Tab) : Nat → (Nat → List Val → MH Val) × (Nat → List Val → MH Val)
  | 0 => (fun _ _ => bad, fun _ _ => bad)
  | n + 1 => (fun f vs => match G.fn f with
    | some d => run (G.cl (G.ff n).1 (G.ff n).2) d vs
    | none => bad, (G.ff n).1)
/-- a call at the level n -/
def Tab.call (G : Tab) (n : Nat) : Nat → List Val → MH Val := (G.ff n).1
end MS

set_option Elab.async false
set_option linter.all false
set_option maxRecDepth 100000
/-! MSC: what the trees stand for; the judgements. -/
namespace MS
open PySem L2

/-- the names behind the numbers -/
def fldNames : List Str := ["name", "names", "places", "sums", "zero", "whole", "left", "right", "kind", "steps", "rows", "past", "source", "target", "goals", "system", "least", "into", "rounds", "known"]
def fldN (f : Nat) : Str := fldNames.getD f "?"

/-- one run: the module, where its classes stand -/
structure Run where
  P : Program
  w : World
  K : PySem.W.Frag
  mg : Str → Option Value
  base : Heap
  cA : Nat → Addr
variable (Γ : Run)

/-- a tuple: its object is known, without a dict -/
def TupF (K : PySem.W.Frag) (F : Hp) (p : Addr) (vs : List V) : Prop := (∃ o : Obj, F p = some (.frz o (.tup vs)) ∧ o.dict = none) ∨
  (∃ (o : Obj) (its : Array Value) (n : Nat), K.lookup p = some o ∧ o.cls = .type "tuple" ∧ o.dict = none ∧ o.data = .seq its n ∧ its.size ≤ sizeLine ∧ Vals vs its.toList)
theorem TupF.sqT {K : PySem.W.Frag} {F : Hp} {p : Addr} {vs : List V} (h : TupF K F p vs) : SqT K F p vs := by
  rcases h with ⟨o, h, _⟩ | ⟨o, its, n, h1, h2, _, h3, h4, h5⟩
  · exact .inl (.inr ⟨o, h⟩)
  · exact .inr ⟨o, its, n, h1, h2, h3, h4, h5⟩
mutual
def RT (F : Hp) : T → V → Prop
  | .non, v => v = .non
  | .bl b, v => v = .bl b
  | .int i, v => v = .int i
  | .str s, v => v = .str s
  | .tup xs, v => ∃ p vs, v = .ref p ∧ TupF Γ.K F p vs ∧ RTs F xs vs
  | .lst xs, v => ∃ p vs, v = .ref p ∧ F p = some (.lst vs) ∧ RTs F xs vs
  | .dct kvs, v => ∃ p ks, v = .ref p ∧ F p = some (.dK ks) ∧ RTd F kvs ks
  | .ins c fs, v => ∃ p dx ns, v = .ref p ∧ F p = some (.ins (Γ.cA c) dx ns) ∧ RTf F fs ns
  | .scr ns, v => ∃ p, v = .ref p ∧ SqL Γ.K F p (ns.map V.int)
  | .fn _, _ => False
termination_by structural x => x
def RTs (F : Hp) : List T → List V → Prop
  | [], vs => vs = []
  | x :: xs, vs => ∃ v r, vs = v :: r ∧ RT F x v ∧ RTs F xs r
termination_by structural x => x
def RTd (F : Hp) : List (T × T) → List (Key × V) → Prop
  | [], vs => vs = []
  | (k, x) :: xs, vs => ∃ k' v r, vs = (k', v) :: r ∧ k = keyT k' ∧ RT F x v ∧ RTd F xs r
termination_by structural x => x
def RTf (F : Hp) : List (Nat × T) → List (Str × V) → Prop
  | [], vs => vs = []
  | (n, x) :: xs, vs => ∃ v r, vs = (fldN n, v) :: r ∧ RT F x v ∧ RTf F xs r
termination_by structural x => x
end

/-- what is tracked stays -/
def Le (F F' : Hp) : Prop := ∀ p o, F p = some o → F' p = some o
theorem Le.refl (F : Hp) : Le F F := fun _ _ h => h
theorem Le.trans {F G H : Hp} (a : Le F G) (b : Le G H) : Le F H := fun p o h => b p o (a p o h)
theorem Le.sqT {K : PySem.W.Frag} {F H : Hp} {a : Addr} {xs : List V} (e : Le F H) (h : SqT K F a xs) : SqT K H a xs := by
  rcases h with (h | ⟨o, h⟩) | h
  · exact .inl (.inl (e _ _ h))
  · exact .inl (.inr ⟨o, e _ _ h⟩)
  · exact .inr h
theorem Le.sqL {K : PySem.W.Frag} {F H : Hp} {a : Addr} {xs : List V} (e : Le F H) (h : SqL K F a xs) : SqL K H a xs := by
  rcases h with (h | ⟨o, h⟩) | h
  · exact .inl (.inl (e _ _ h))
  · exact .inl (.inr ⟨o, e _ _ h⟩)
  · exact .inr h
theorem Le.tupF {K : PySem.W.Frag} {F H : Hp} {a : Addr} {xs : List V} (e : Le F H) (h : TupF K F a xs) : TupF K H a xs := by
  rcases h with ⟨o, h, d⟩ | h
  · exact .inl ⟨o, e _ _ h, d⟩
  · exact .inr h
theorem Le.upd {H : Hp} {p : Addr} {o : HO} (h : H p = none) : Le H (upd H p o) := fun a u e => by rw [upd_ne (ne_of_none e h)]; exact e

section
variable {Γ : Run}
mutual
theorem RT.mono {F F' : Hp} (le : Le F F') : ∀ (x : T) (v : V), RT Γ F x v → RT Γ F' x v
  | .non, v, h => by simp only [RT] at h ⊢; exact h
  | .bl b, v, h => by simp only [RT] at h ⊢; exact h
  | .int i, v, h => by simp only [RT] at h ⊢; exact h
  | .str s, v, h => by simp only [RT] at h ⊢; exact h
  | .tup xs, v, h => by
    simp only [RT] at h ⊢
    obtain ⟨p, vs, e, q, r⟩ := h
    exact ⟨p, vs, e, le.tupF q, RTs.mono le xs vs r⟩
  | .lst xs, v, h => by
    simp only [RT] at h ⊢
    obtain ⟨p, vs, e, q, r⟩ := h
    exact ⟨p, vs, e, le _ _ q, RTs.mono le xs vs r⟩
  | .dct xs, v, h => by
    simp only [RT] at h ⊢
    obtain ⟨p, vs, e, q, r⟩ := h
    exact ⟨p, vs, e, le _ _ q, RTd.mono le xs vs r⟩
  | .ins c xs, v, h => by
    simp only [RT] at h ⊢
    obtain ⟨p, dx, vs, e, q, r⟩ := h
    exact ⟨p, dx, vs, e, le _ _ q, RTf.mono le xs vs r⟩
  | .scr ns, v, h => by
    simp only [RT] at h ⊢
    obtain ⟨p, e, q⟩ := h
    exact ⟨p, e, le.sqL q⟩
  | .fn _, v, h => by simp only [RT] at h
theorem RTs.mono {F F' : Hp} (le : Le F F') : ∀ (xs : List T) (vs : List V), RTs Γ F xs vs → RTs Γ F' xs vs
  | [], vs, h => by simp only [RTs] at h ⊢; exact h
  | x :: xs, vs, h => by
    simp only [RTs] at h ⊢
    obtain ⟨v, r, e, a, b⟩ := h
    exact ⟨v, r, e, RT.mono le x v a, RTs.mono le xs r b⟩
theorem RTd.mono {F F' : Hp} (le : Le F F') : ∀ (xs : List (T × T)) (vs : List (Key × V)), RTd Γ F xs vs → RTd Γ F' xs vs
  | [], vs, h => by simp only [RTd] at h ⊢; exact h
  | (k, x) :: xs, vs, h => by
    simp only [RTd] at h ⊢
    obtain ⟨k', v, r, e, ek, a, b⟩ := h
    exact ⟨k', v, r, e, ek, RT.mono le x v a, RTd.mono le xs r b⟩
theorem RTf.mono {F F' : Hp} (le : Le F F') : ∀ (xs : List (Nat × T)) (vs : List (Str × V)), RTf Γ F xs vs → RTf Γ F' xs vs
  | [], vs, h => by simp only [RTf] at h ⊢; exact h
  | (k, x) :: xs, vs, h => by
    simp only [RTf] at h ⊢
    obtain ⟨v, r, e, a, b⟩ := h
    exact ⟨v, r, e, RT.mono le x v a, RTf.mono le xs r b⟩
end
theorem RTs.length {F : Hp} : ∀ {xs : List T} {vs : List V}, RTs Γ F xs vs → xs.length = vs.length
  | [], vs, h => by simp only [RTs] at h; rw [h]; rfl
  | x :: xs, vs, h => by
    simp only [RTs] at h
    obtain ⟨v, r, e, _, b⟩ := h
    rw [e, List.length_cons, List.length_cons, RTs.length b]
theorem RTs.get {F : Hp} : ∀ {xs : List T} {vs : List V} {i : Nat} {x : T}, RTs Γ F xs vs → xs[i]? = some x → ∃ v, vs[i]? = some v ∧ RT Γ F x v
  | [], _, _, _, _, e => by simp at e
  | y :: xs, vs, 0, x, h, e => by
    simp only [RTs] at h
    obtain ⟨v, r, e', a, _⟩ := h
    simp at e
    subst e e'
    exact ⟨v, rfl, a⟩
  | y :: xs, vs, i + 1, x, h, e => by
    simp only [RTs] at h
    obtain ⟨v, r, e', _, b⟩ := h
    subst e'
    obtain ⟨u, h1, h2⟩ := RTs.get (i := i) b (by simpa using e)
    exact ⟨u, by simpa using h1, h2⟩
theorem RTs.app {F : Hp} : ∀ {xs ys : List T} {vs us : List V}, RTs Γ F xs vs → RTs Γ F ys us → RTs Γ F (xs ++ ys) (vs ++ us)
  | [], ys, vs, us, h, k => by simp only [RTs] at h; rw [h]; exact k
  | x :: xs, ys, vs, us, h, k => by
    simp only [RTs] at h
    obtain ⟨v, r, e, a, b⟩ := h
    rw [e]
    show RTs Γ F (x :: (xs ++ ys)) (v :: (r ++ us))
    simp only [RTs]
    exact ⟨v, _, rfl, a, RTs.app b k⟩
end

/-- the ghost state: the cells, the frozen part, what the callers hold, where the cells stand -/
structure AS where
  hp : List Ob
  F : Hp
  Fr : Hp
  ρ : List Addr
def RV (F : Hp) (ρ : List Addr) : Val → V → Prop
  | .t x, v => RT Γ F x v
  | .ref n, v => ∃ a, ρ[n]? = some a ∧ v = .ref a
def RVs (F : Hp) (ρ : List Addr) : List Val → List V → Prop := Paired (RV Γ F ρ)
def RVd (F : Hp) (ρ : List Addr) : List (T × Val) → List (Key × V) → Prop := Paired fun p q => p.1 = keyT q.1 ∧ RV Γ F ρ p.2 q.2
def RVf (F : Hp) (ρ : List Addr) : List (Nat × Val) → List (Str × V) → Prop := Paired fun p q => q.1 = fldN p.1 ∧ RV Γ F ρ p.2 q.2
def Cell (F Fr : Hp) (ρ : List Addr) (H : Hp) (a : Addr) : Ob → Prop
  | .lst vs => F a = none ∧ Fr a = none ∧ ∃ us, H a = some (.lst us) ∧ RVs Γ F ρ vs us
  | .dct kvs => F a = none ∧ Fr a = none ∧ ∃ us, H a = some (.dK us) ∧ RVd Γ F ρ kvs us
  | .ins c fs => F a = none ∧ Fr a = none ∧ ∃ dx us, H a = some (.ins (Γ.cA c) dx us) ∧ RVf Γ F ρ fs us
  | .frz x => RT Γ F x (.ref a)
structure Rel (s : AS) (H : Hp) : Prop where
  fz : Le s.F H
  fr : Le s.Fr H
  dj : ∀ p o, s.Fr p = some o → s.F p = none
  len : s.ρ.length = s.hp.length
  inj : ∀ (m n : Nat) (a : Addr), s.ρ[m]? = some a → s.ρ[n]? = some a → m = n
  th : ∀ (n : Nat) (a : Addr), s.ρ[n]? = some a → H a ≠ none
  nf : ∀ (n : Nat) (a : Addr), s.ρ[n]? = some a → s.Fr a = none
  cell : ∀ (n : Nat) (ob : Ob), s.hp[n]? = some ob → ∃ a, s.ρ[n]? = some a ∧ Cell Γ s.F s.Fr s.ρ H a ob
structure Ext (s s' : AS) : Prop where
  F : Le s.F s'.F
  Fr : s'.Fr = s.Fr
  ρ : s.ρ <+: s'.ρ
theorem Ext.refl (s : AS) : Ext s s := ⟨Le.refl _, rfl, List.prefix_refl _⟩
theorem Ext.trans {a b c : AS} (x : Ext a b) (y : Ext b c) : Ext a c := ⟨x.F.trans y.F, y.Fr.trans x.Fr, x.ρ.trans y.ρ⟩

section
variable {Γ : Run}
theorem pre_get {α : Type} {a b : List α} {n : Nat} {x : α} (p : a <+: b) (h : a[n]? = some x) : b[n]? = some x := by
  obtain ⟨c, rfl⟩ := p
  obtain ⟨hl, e⟩ := List.getElem?_eq_some_iff.mp h
  rw [List.getElem?_append_left hl, h]
theorem RV.mono {F F' : Hp} {ρ ρ' : List Addr} (le : Le F F') (p : ρ <+: ρ') : ∀ {v : Val} {u : V}, RV Γ F ρ v u → RV Γ F' ρ' v u
  | .t x, u, h => RT.mono le x u h
  | .ref n, u, h => by
    obtain ⟨a, e, r⟩ := h
    exact ⟨a, pre_get p e, r⟩
theorem RV.ext {s s' : AS} (e : Ext s s') {v : Val} {u : V} (h : RV Γ s.F s.ρ v u) : RV Γ s'.F s'.ρ v u := RV.mono e.F e.ρ h
theorem Paired.imp {α β : Type} {R R' : α → β → Prop} (h : ∀ a b, R a b → R' a b) : ∀ {xs : List α} {ys : List β}, Paired R xs ys → Paired R' xs ys
  | _, _, .nil => .nil
  | _, _, .cons r t => .cons (h _ _ r) (Paired.imp h t)
theorem RVs.mono {F F' : Hp} {ρ ρ' : List Addr} (le : Le F F') (p : ρ <+: ρ') {vs : List Val} {us : List V} (h : RVs Γ F ρ vs us) : RVs Γ F' ρ' vs us := Paired.imp (fun _ _ => RV.mono le p) h
theorem RVs.ext {s s' : AS} (e : Ext s s') {vs : List Val} {us : List V} (h : RVs Γ s.F s.ρ vs us) : RVs Γ s'.F s'.ρ vs us := RVs.mono e.F e.ρ h
theorem RVd.mono {F F' : Hp} {ρ ρ' : List Addr} (le : Le F F') (p : ρ <+: ρ') {vs : List (T × Val)} {us : List (Key × V)} (h : RVd Γ F ρ vs us) : RVd Γ F' ρ' vs us := Paired.imp (fun _ _ q => ⟨q.1, RV.mono le p q.2⟩) h
theorem RVf.mono {F F' : Hp} {ρ ρ' : List Addr} (le : Le F F') (p : ρ <+: ρ') {vs : List (Nat × Val)} {us : List (Str × V)} (h : RVf Γ F ρ vs us) : RVf Γ F' ρ' vs us := Paired.imp (fun _ _ q => ⟨q.1, RV.mono le p q.2⟩) h
theorem RVs.of_ts {F : Hp} {ρ : List Addr} : ∀ {xs : List T} {vs : List V}, RTs Γ F xs vs → RVs Γ F ρ (xs.map .t) vs
  | [], vs, h => by simp only [RTs] at h; rw [h]; exact .nil
  | x :: xs, vs, h => by
    simp only [RTs] at h
    obtain ⟨v, r, e, a, b⟩ := h
    rw [e]
    exact .cons a (RVs.of_ts b)
theorem Paired.len {α β : Type} {R : α → β → Prop} : ∀ {xs : List α} {ys : List β}, Paired R xs ys → xs.length = ys.length
  | _, _, .nil => rfl
  | _, _, .cons _ t => by rw [List.length_cons, List.length_cons, Paired.len t]
theorem Paired.get1 {α β : Type} {R : α → β → Prop} : ∀ {xs : List α} {ys : List β} {i : Nat} {x : α}, Paired R xs ys → xs[i]? = some x → ∃ y, ys[i]? = some y ∧ R x y
  | _, _, _, _, .nil, e => by simp at e
  | _, _, 0, _, .cons r _, e => by simp at e; subst e; exact ⟨_, rfl, r⟩
  | _, _, i + 1, x, .cons _ t, e => by
    obtain ⟨u, h1, h2⟩ := Paired.get1 (i := i) t (by simpa using e)
    exact ⟨u, by simpa using h1, h2⟩
theorem Paired.app {α β : Type} {R : α → β → Prop} : ∀ {xs xs' : List α} {ys ys' : List β}, Paired R xs ys → Paired R xs' ys' → Paired R (xs ++ xs') (ys ++ ys')
  | _, _, _, _, .nil, s => s
  | _, _, _, _, .cons r t, s => .cons r (Paired.app t s)
end

/-- the slots -/
structure Locs (s : AS) (loc : Loc) (σ : L2.St) : Prop where
  len : loc.length = σ.length
  at_ : ∀ (i : Nat) (v : Val), loc[i]? = some (some v) → ∃ u, σ[i]? = some (some u) ∧ RV Γ s.F s.ρ v u
theorem Locs.ext {Γ : Run} {s s' : AS} {loc : Loc} {σ : L2.St} (L : Locs Γ s loc σ) (e : Ext s s') : Locs Γ s' loc σ :=
  ⟨L.len, fun i v h => by obtain ⟨u, h1, h2⟩ := L.at_ i v h; exact ⟨u, h1, h2.ext e⟩⟩
theorem Locs.set {Γ : Run} {s : AS} {loc : Loc} {σ : L2.St} (L : Locs Γ s loc σ) (i : Nat) {v : Val} {u : V} (r : RV Γ s.F s.ρ v u) : Locs Γ s (loc.set i (some v)) (σ.set i (some u)) := by
  refine ⟨by simp [L.len], fun j w h => ?_⟩
  by_cases hj : i = j
  · subst hj
    have hl : i < loc.length := by
      by_cases hl : i < loc.length
      · exact hl
      · rw [List.getElem?_eq_none (by simpa using hl)] at h; cases h
    rw [List.getElem?_set_self hl] at h
    cases h
    exact ⟨u, by rw [List.getElem?_set_self (by rw [← L.len]; exact hl)], r⟩
  · rw [List.getElem?_set_ne hj] at h
    obtain ⟨x, h1, h2⟩ := L.at_ j w h
    exact ⟨x, by rw [List.getElem?_set_ne hj]; exact h1, h2⟩

/-- behind a computation -/
def After {α : Type} (s : AS) (r : RH α) (Q : α → AS → Hp → Prop) (E : Ex → AS → Hp → Prop) : Prop := match r with
  | .ok a hp => ∀ s' H', s'.hp = hp → Ext s s' → Rel Γ s' H' → Q a s' H'
  | .exc e hp => ∀ s' H', s'.hp = hp → Ext s s' → Rel Γ s' H' → E e s' H'
  | .bad => False
section
variable {Γ : Run} {α β : Type} {s s' : AS} {r : RH α} {Q Q' : α → AS → Hp → Prop} {E E' : Ex → AS → Hp → Prop}
theorem After.from (e : Ext s s') (h : After Γ s r Q E) : After Γ s' r Q E := by
  cases r with
  | ok a hp => exact fun t H' e1 e2 R => h t H' e1 (e.trans e2) R
  | exc x hp => exact fun t H' e1 e2 R => h t H' e1 (e.trans e2) R
  | bad => exact h
theorem After.imp (h : After Γ s r Q E) (hQ : ∀ a s' H', Ext s s' → Rel Γ s' H' → Q a s' H' → Q' a s' H') (hE : ∀ x s' H', Ext s s' → Rel Γ s' H' → E x s' H' → E' x s' H') : After Γ s r Q' E' := by
  cases r with
  | ok a hp => exact fun t H' e1 e2 R => hQ a t H' e2 R (h t H' e1 e2 R)
  | exc x hp => exact fun t H' e1 e2 R => hE x t H' e2 R (h t H' e1 e2 R)
  | bad => exact h
theorem After.bind {m : MH α} {f : α → MH β} {Q : β → AS → Hp → Prop} (h : After Γ s (MH.bind m f s.hp) Q E) : After Γ s (m s.hp) (fun a s' H' => After Γ s' (f a s'.hp) Q E) E := by
  unfold MH.bind at h
  cases e : m s.hp with
  | ok a hp =>
    rw [e] at h
    intro t H' e1 e2 R
    rw [e1]
    exact h.from e2
  | exc x hp => rw [e] at h; exact h
  | bad => rw [e] at h; exact h
end

/-- the error as it flies -/
def ExR (xA : Nat → Addr) (e : Ex) (cls : Value) (d : Option Addr) (H : Hp) : Prop :=
  cls = .ref (xA e.c) ∧ match e.a with
    | none => True
    | some x => ∃ dd z, x = .str z ∧ d = some dd ∧ H dd = some (.xd [("name", .str z)])

/-! ### the judgements -/
/-- what is wished of an exception at the slots σ -/
def XW (W : WX) (σ : L2.St) (e : Ex) (_ : AS) (H : Hp) : Prop := ∀ cls d, ExR Γ.cA e cls d H → W cls d σ H
def tE (m : Loc → MH Val) (W : WX) : TE := fun σ H Q => ∃ loc s, Rel Γ s H ∧ Locs Γ s loc σ ∧ After Γ s (m loc s.hp) (fun v s' H' => ∀ u, RV Γ s'.F s'.ρ v u → Q u H') (XW Γ W σ)
def tT (m : Loc → MH Bool) (W : WX) : TT := fun σ H Q => ∃ loc s, Rel Γ s H ∧ Locs Γ s loc σ ∧ After Γ s (m loc s.hp) (fun v s' H' => Q v H') (XW Γ W σ)
def tA (m : Loc → MH (List Val)) (W : WX) : TA := fun σ H Q => ∃ loc s, Rel Γ s H ∧ Locs Γ s loc σ ∧ After Γ s (m loc s.hp) (fun v s' H' => ∀ u, RVs Γ s'.F s'.ρ v u → Q u H') (XW Γ W σ)
def SE (X : Cx) (e : Expr) (m : Loc → MH Val) : Prop := ∀ W, Takes X W → PE X e (tE Γ m W)
def ST (X : Cx) (e : Expr) (m : Loc → MH Bool) : Prop := ∀ W, Takes X W → PT X e (tT Γ m W)
def SW (X : Cx) (e : Expr) (m : Loc → MH Bool) : Prop := ∀ W, Takes X W → PW X e (tT Γ m W)
def SA (X : Cx) (es : List Expr) (m : Loc → MH (List Val)) : Prop := ∀ W, Takes X W → PA X es (tA Γ m W)
def AfterS (s : AS) (r : RS) (W : WX) (D : Ends) : Prop := match r with
  | .ok f hp => ∀ s' H', s'.hp = hp → Ext s s' → Rel Γ s' H' → (match f with
    | .nx loc => ∀ σ, Locs Γ s' loc σ → D.nx σ H'
    | .ret v => ∀ u, RV Γ s'.F s'.ρ v u → D.rt u H'
    | .bk loc => ∀ σ, Locs Γ s' loc σ → D.bk σ H'
    | .ct loc => ∀ σ, Locs Γ s' loc σ → D.ct σ H')
  | .exc e loc hp => ∀ s' H', s'.hp = hp → Ext s s' → Rel Γ s' H' → ∀ σ, Locs Γ s' loc σ → XW Γ W σ e s' H'
  | .bad => False
def tS (m : Loc → List Ob → RS) (W : WX) : TS := fun D σ H => ∃ loc s, Rel Γ s H ∧ Locs Γ s loc σ ∧ AfterS Γ s (m loc s.hp) W D
def SS (X : Cx) (st : Stmt) (m : Loc → List Ob → RS) : Prop := ∀ W, Takes X W → PS X st (tS Γ m W)
def SSs (X : Cx) (st : List Stmt) (m : Loc → List Ob → RS) : Prop := ∀ W, Takes X W → PSs X st (tS Γ m W)
end MS

set_option Elab.async false
set_option linter.all false
set_option maxRecDepth 100000
/-! MSD: steps of the ghost state. -/
namespace MS
open PySem L2
section
variable {Γ : Run} {α β : Type} {s : AS} {H : Hp}

/-! ### the monad -/
theorem bind_eq {α β : Type} (x : MH α) (f : α → MH β) : (x >>= f) = MH.bind x f := rfl
theorem pure_eq {α : Type} (a : α) : (pure a : MH α) = MH.pure a := rfl
theorem MH.pure_bind {α β : Type} (a : α) (f : α → MH β) : MH.bind (MH.pure a) f = f a := rfl
theorem MH.bind_assoc {α β γ : Type} (m : MH α) (f : α → MH β) (g : β → MH γ) : MH.bind (MH.bind m f) g = MH.bind m fun a => MH.bind (f a) g := by
  funext h
  unfold MH.bind
  cases m h <;> rfl
theorem bind_ok {α β : Type} {m : MH α} {f : α → MH β} {h h' : List Ob} {a : α} (e : m h = .ok a h') : MH.bind m f h = f a h' := by unfold MH.bind; rw [e]
theorem bind_no {α β : Type} {m : MH α} {f : α → MH β} {h : List Ob} (e : m h = .bad) : MH.bind m f h = .bad := by unfold MH.bind; rw [e]
theorem MH.bind_bad {α β : Type} (f : α → MH β) : MH.bind bad f = bad := rfl

theorem After.ok {a : α} {Q : α → AS → Hp → Prop} {E : Ex → AS → Hp → Prop} (R : Rel Γ s H) (h : After Γ s (MH.pure a s.hp) Q E) : Q a s H := h s H rfl (Ext.refl s) R
theorem After.okAt {a : α} {Q : α → AS → Hp → Prop} {E : Ex → AS → Hp → Prop} {s' : AS} {H' : Hp} (R : Rel Γ s' H') (e : Ext s s') (h : After Γ s (.ok a s'.hp) Q E) : Q a s' H' := h s' H' rfl e R

/-! ### views -/
theorem nrm_ok (R : Rel Γ s H) {v : Val} {u : V} (r : RV Γ s.F s.ρ v u) : RV Γ s.F s.ρ (nrm v s.hp) u := by
  cases v with
  | t x => exact r
  | ref n =>
    obtain ⟨a, ea, rfl⟩ := r
    have keep : RV Γ s.F s.ρ (.ref n) (.ref a) := ⟨a, ea, rfl⟩
    unfold nrm
    dsimp only
    split
    · rename_i x e
      obtain ⟨b, eb, c⟩ := R.cell n _ e
      rw [ea] at eb
      cases eb
      exact c
    · exact keep

/-- the cell at n, frozen as x -/
def AS.fz (s : AS) (n : Nat) (x : T) (a : Addr) (o : HO) : AS := ⟨s.hp.set n (.frz x), upd s.F a o, s.Fr, s.ρ⟩
theorem Cell.mono {F F' Fr : Hp} {ρ ρ' : List Addr} {H : Hp} {a : Addr} {ob : Ob} (le : Le F F') (p : ρ <+: ρ') (hn : F' a = F a ∨ F a ≠ none) (c : Cell Γ F Fr ρ H a ob) : Cell Γ F' Fr ρ' H a ob := by
  cases ob with
  | lst vs =>
    obtain ⟨c1, c2, us, c3, c4⟩ := c
    refine ⟨?_, c2, us, c3, c4.mono le p⟩
    rcases hn with hn | hn
    · rw [hn]; exact c1
    · exact absurd c1 hn
  | dct vs =>
    obtain ⟨c1, c2, us, c3, c4⟩ := c
    refine ⟨?_, c2, us, c3, c4.mono le p⟩
    rcases hn with hn | hn
    · rw [hn]; exact c1
    · exact absurd c1 hn
  | ins k vs =>
    obtain ⟨c1, c2, dx, us, c3, c4⟩ := c
    refine ⟨?_, c2, dx, us, c3, c4.mono le p⟩
    rcases hn with hn | hn
    · rw [hn]; exact c1
    · exact absurd c1 hn
  | frz x => exact RT.mono le x _ c
theorem get_lt {α : Type} {l : List α} {n : Nat} {x : α} (h : l[n]? = some x) : n < l.length := (List.getElem?_eq_some_iff.mp h).1
theorem fz_ok (R : Rel Γ s H) {n : Nat} {a : Addr} {x : T} {o : HO} (ea : s.ρ[n]? = some a) (hn : n < s.hp.length) (hH : H a = some o) (hFr : s.Fr a = none) (rx : RT Γ (upd s.F a o) x (.ref a)) :
    Rel Γ (s.fz n x a o) H ∧ Ext s (s.fz n x a o) := by
  have le : Le s.F (upd s.F a o) := fun p u e => by
    by_cases hp : p = a
    · subst hp
      have := R.fz _ _ e
      rw [hH] at this
      cases this
      exact upd_same
    · rw [upd_ne hp]; exact e
  refine ⟨⟨fun p u e => ?_, R.fr, fun p u e => ?_, by simp [AS.fz, R.len], R.inj, R.th, R.nf, fun m ob e => ?_⟩, ⟨le, rfl, List.prefix_refl _⟩⟩
  · have e : upd s.F a o p = some u := e
    by_cases hp : p = a
    · subst hp; rw [upd_same] at e; cases e; exact hH
    · rw [upd_ne hp] at e; exact R.fz p u e
  · show upd s.F a o p = none
    have hp : p ≠ a := fun z => by subst z; have e : s.Fr p = some u := e; rw [hFr] at e; cases e
    rw [upd_ne hp]
    exact R.dj p u e
  · have e : (s.hp.set n (.frz x))[m]? = some ob := e
    by_cases hm : n = m
    · subst hm
      rw [List.getElem?_set_self hn] at e
      cases e
      exact ⟨a, ea, rx⟩
    · rw [List.getElem?_set_ne hm] at e
      obtain ⟨b, eb, c⟩ := R.cell m ob e
      refine ⟨b, eb, c.mono le (List.prefix_refl _) ?_⟩
      have hb : b ≠ a := fun z => by subst z; exact hm (R.inj n m b ea eb)
      exact .inl (upd_ne hb)

/-- frozen, or refused: what freezing comes to -/
def Fzd (Γ : Run) (s : AS) (H : Hp) (u : V) (r : RH T) : Prop := r = .bad ∨ ∃ x s', r = .ok x s'.hp ∧ Ext s s' ∧ Rel Γ s' H ∧ RT Γ s'.F x u
def FzdL (Γ : Run) (s : AS) (H : Hp) (us : List V) (r : RH (List T)) : Prop := r = .bad ∨ ∃ x s', r = .ok x s'.hp ∧ Ext s s' ∧ Rel Γ s' H ∧ RTs Γ s'.F x us
theorem mp_fz {f : Val → MH T} (hf : ∀ (s : AS) v u, Rel Γ s H → RV Γ s.F s.ρ v u → Fzd Γ s H u (f v s.hp)) : ∀ (vs : List Val) (us : List V) (s : AS), Rel Γ s H → RVs Γ s.F s.ρ vs us → FzdL Γ s H us (mp f vs s.hp)
  | [], us, s, R, r => by
    cases r
    exact .inr ⟨[], s, rfl, Ext.refl s, R, by simp only [RTs]⟩
  | v :: vs, us, s, R, r => by
    cases r with
    | cons r t =>
      rename_i u us
      show FzdL Γ s H (u :: us) (MH.bind (f v) (fun y => MH.bind (mp f vs) fun ys => MH.pure (y :: ys)) s.hp)
      rcases hf s v u R r with e | ⟨x, s1, e, x1, R1, rx⟩
      · rw [bind_no e]; exact .inl rfl
      · rw [bind_ok e]
        rcases mp_fz hf vs us s1 R1 (RVs.ext x1 t) with e | ⟨xs, s2, e, x2, R2, rxs⟩
        · rw [bind_no e]; exact .inl rfl
        · rw [bind_ok e]
          refine .inr ⟨x :: xs, s2, rfl, x1.trans x2, R2, ?_⟩
          simp only [RTs]
          exact ⟨u, us, rfl, RT.mono x2.F x u rx, rxs⟩
theorem RTd.of_zip {F : Hp} {ρ : List Addr} : ∀ {kvs : List (T × Val)} {us : List (Key × V)} {ts : List T}, RVd Γ F ρ kvs us → ∀ {F' : Hp}, RTs Γ F' ts (us.map (·.2)) → RTd Γ F' ((kvs.map (·.1)).zip ts) us
  | _, _, ts, .nil, F', h => by
    rw [List.map_nil] at h
    have : ts = [] := by
      cases ts with
      | nil => rfl
      | cons t ts => simp only [RTs] at h; obtain ⟨_, _, e, _⟩ := h; cases e
    subst this
    simp [RTd]
  | _, _, ts, .cons (a := p) (b := q) r t, F', h => by
    rw [List.map_cons] at h
    cases ts with
    | nil => simp only [RTs] at h; cases h
    | cons y ys =>
      simp only [RTs] at h
      obtain ⟨v, rr, e, a, b⟩ := h
      cases e
      rw [List.map_cons, List.zip_cons_cons]
      simp only [RTd]
      exact ⟨q.1, q.2, _, rfl, r.1, a, RTd.of_zip t b⟩
theorem RTf.of_zip {F : Hp} {ρ : List Addr} : ∀ {kvs : List (Nat × Val)} {us : List (Str × V)} {ts : List T}, RVf Γ F ρ kvs us → ∀ {F' : Hp}, RTs Γ F' ts (us.map (·.2)) → RTf Γ F' ((kvs.map (·.1)).zip ts) us
  | _, _, ts, .nil, F', h => by
    rw [List.map_nil] at h
    have : ts = [] := by
      cases ts with
      | nil => rfl
      | cons t ts => simp only [RTs] at h; obtain ⟨_, _, e, _⟩ := h; cases e
    subst this
    simp [RTf]
  | _, _, ts, .cons (a := p) (b := q) r t, F', h => by
    rw [List.map_cons] at h
    cases ts with
    | nil => simp only [RTs] at h; cases h
    | cons y ys =>
      simp only [RTs] at h
      obtain ⟨v, rr, e, a, b⟩ := h
      cases e
      rw [List.map_cons, List.zip_cons_cons]
      obtain ⟨q1, q2⟩ := q
      obtain ⟨r1, r2⟩ := r
      have r1 : q1 = fldN p.1 := r1
      subst r1
      simp only [RTf]
      exact ⟨q2, _, rfl, a, RTf.of_zip t b⟩
theorem RVd.vals {F : Hp} {ρ : List Addr} : ∀ {kvs : List (T × Val)} {us : List (Key × V)}, RVd Γ F ρ kvs us → RVs Γ F ρ (kvs.map (·.2)) (us.map (·.2))
  | _, _, .nil => .nil
  | _, _, .cons r t => .cons r.2 (RVd.vals t)
theorem RVf.vals {F : Hp} {ρ : List Addr} : ∀ {kvs : List (Nat × Val)} {us : List (Str × V)}, RVf Γ F ρ kvs us → RVs Γ F ρ (kvs.map (·.2)) (us.map (·.2))
  | _, _, .nil => .nil
  | _, _, .cons r t => .cons r.2 (RVf.vals t)

theorem fzn_ok : ∀ (k : Nat) (s : AS) (v : Val) (u : V), Rel Γ s H → RV Γ s.F s.ρ v u → Fzd Γ s H u (fzn k v s.hp)
  | 0, s, .t x, u, R, r => .inr ⟨x, s, rfl, Ext.refl s, R, r⟩
  | k + 1, s, .t x, u, R, r => .inr ⟨x, s, rfl, Ext.refl s, R, r⟩
  | 0, s, .ref n, u, R, r => .inl rfl
  | k + 1, s, .ref n, u, R, r => by
    obtain ⟨a, ea, rfl⟩ := r
    unfold fzn
    cases e : s.hp[n]? with
    | none => exact .inl rfl
    | some ob =>
      have hn := get_lt e
      obtain ⟨b, eb, c⟩ := R.cell n _ e
      rw [ea] at eb
      cases eb
      cases ob with
      | frz x => exact .inr ⟨x, s, rfl, Ext.refl s, R, c⟩
      | lst vs =>
        obtain ⟨c1, c2, us, c3, c4⟩ := c
        show Fzd Γ s H (.ref a) (MH.bind (mp (fzn k) vs) (fun ts => fzw n (.lst ts)) s.hp)
        rcases mp_fz (fun s v u R r => fzn_ok k s v u R r) vs us s R c4 with e1 | ⟨ts, s1, e1, x1, R1, rts⟩
        · rw [bind_no e1]; exact .inl rfl
        · rw [bind_ok e1]
          have hl : s1.ρ[n]? = some a := pre_get x1.ρ ea
          have hn1 : n < s1.hp.length := by rw [← R1.len]; exact get_lt hl
          have le : Le s1.F (upd s1.F a (.lst us)) := fun p o q => by
            by_cases hp : p = a
            · subst hp; have := R1.fz _ _ q; rw [c3] at this; cases this; exact upd_same
            · rw [upd_ne hp]; exact q
          obtain ⟨R2, x2⟩ := fz_ok (x := .lst ts) R1 hl hn1 c3 (by rw [x1.Fr]; exact c2) (by simp only [RT]; exact ⟨a, us, rfl, upd_same, RTs.mono le ts us rts⟩)
          exact .inr ⟨.lst ts, _, rfl, x1.trans x2, R2, by simp only [RT]; exact ⟨a, us, rfl, upd_same, RTs.mono le ts us rts⟩⟩
      | dct kvs =>
        obtain ⟨c1, c2, us, c3, c4⟩ := c
        show Fzd Γ s H (.ref a) (MH.bind (mp (fzn k) (kvs.map (·.2))) (fun ts => fzw n (.dct ((kvs.map (·.1)).zip ts))) s.hp)
        rcases mp_fz (fun s v u R r => fzn_ok k s v u R r) _ _ s R c4.vals with e1 | ⟨ts, s1, e1, x1, R1, rts⟩
        · rw [bind_no e1]; exact .inl rfl
        · rw [bind_ok e1]
          have hl : s1.ρ[n]? = some a := pre_get x1.ρ ea
          have hn1 : n < s1.hp.length := by rw [← R1.len]; exact get_lt hl
          have le : Le s1.F (upd s1.F a (.dK us)) := fun p o q => by
            by_cases hp : p = a
            · subst hp; have := R1.fz _ _ q; rw [c3] at this; cases this; exact upd_same
            · rw [upd_ne hp]; exact q
          have rd := RTd.mono le _ _ (RTd.of_zip c4 rts)
          obtain ⟨R2, x2⟩ := fz_ok (x := .dct ((kvs.map (·.1)).zip ts)) R1 hl hn1 c3 (by rw [x1.Fr]; exact c2) (by simp only [RT]; exact ⟨a, us, rfl, upd_same, rd⟩)
          exact .inr ⟨_, _, rfl, x1.trans x2, R2, by simp only [RT]; exact ⟨a, us, rfl, upd_same, rd⟩⟩
      | ins c fs =>
        obtain ⟨c1, c2, dx, us, c3, c4⟩ := c
        show Fzd Γ s H (.ref a) (MH.bind (mp (fzn k) (fs.map (·.2))) (fun ts => fzw n (.ins c ((fs.map (·.1)).zip ts))) s.hp)
        rcases mp_fz (fun s v u R r => fzn_ok k s v u R r) _ _ s R c4.vals with e1 | ⟨ts, s1, e1, x1, R1, rts⟩
        · rw [bind_no e1]; exact .inl rfl
        · rw [bind_ok e1]
          have hl : s1.ρ[n]? = some a := pre_get x1.ρ ea
          have hn1 : n < s1.hp.length := by rw [← R1.len]; exact get_lt hl
          have le : Le s1.F (upd s1.F a (.ins (Γ.cA c) dx us)) := fun p o q => by
            by_cases hp : p = a
            · subst hp; have := R1.fz _ _ q; rw [c3] at this; cases this; exact upd_same
            · rw [upd_ne hp]; exact q
          have rd := RTf.mono le _ _ (RTf.of_zip c4 rts)
          obtain ⟨R2, x2⟩ := fz_ok (x := .ins c ((fs.map (·.1)).zip ts)) R1 hl hn1 c3 (by rw [x1.Fr]; exact c2) (by simp only [RT]; exact ⟨a, dx, us, rfl, upd_same, rd⟩)
          exact .inr ⟨_, _, rfl, x1.trans x2, R2, by simp only [RT]; exact ⟨a, dx, us, rfl, upd_same, rd⟩⟩
/-- freezing, then the rest -/
theorem After.pur {v : Val} {u : V} {f : T → MH β} {Q : β → AS → Hp → Prop} {E : Ex → AS → Hp → Prop} (R : Rel Γ s H) (r : RV Γ s.F s.ρ v u) (h : After Γ s (MH.bind (MS.pur v) f s.hp) Q E) :
    ∃ x s', Ext s s' ∧ Rel Γ s' H ∧ RT Γ s'.F x u ∧ After Γ s' (f x s'.hp) Q E := by
  unfold MH.bind MS.pur at h
  rcases fzn_ok 8 s v u R r with e | ⟨x, s', e, x1, R1, rx⟩
  · rw [e] at h; exact h.elim
  · rw [e] at h; exact ⟨x, s', x1, R1, rx, h.from x1⟩
theorem After.purs {vs : List Val} {us : List V} {f : List T → MH β} {Q : β → AS → Hp → Prop} {E : Ex → AS → Hp → Prop} (R : Rel Γ s H) (r : RVs Γ s.F s.ρ vs us) (h : After Γ s (MH.bind (mp MS.pur vs) f s.hp) Q E) :
    ∃ x s', Ext s s' ∧ Rel Γ s' H ∧ RTs Γ s'.F x us ∧ After Γ s' (f x s'.hp) Q E := by
  unfold MH.bind at h
  rcases mp_fz (f := MS.pur) (fun s v u R r => fzn_ok 8 s v u R r) vs us s R r with e | ⟨x, s', e, x1, R1, rx⟩
  · rw [e] at h; exact h.elim
  · rw [e] at h; exact ⟨x, s', x1, R1, rx, h.from x1⟩

/-! ### new things -/
theorem Rel.free (R : Rel Γ s H) {p : Addr} (hp : H p = none) : s.F p = none ∧ s.Fr p = none := by
  constructor
  · cases e : s.F p with
    | none => rfl
    | some o => have := R.fz _ _ e; rw [hp] at this; cases this
  · cases e : s.Fr p with
    | none => rfl
    | some o => have := R.fr _ _ e; rw [hp] at this; cases this
theorem Cell.other {F Fr : Hp} {ρ : List Addr} {a p : Addr} {o : HO} {ob : Ob} (hne : ∀ x, ob ≠ .frz x → a ≠ p) (c : Cell Γ F Fr ρ H a ob) : Cell Γ F Fr ρ (upd H p o) a ob := by
  cases ob with
  | lst vs => obtain ⟨c1, c2, us, c3, c4⟩ := c; exact ⟨c1, c2, us, by rw [upd_ne (hne .non (by simp))]; exact c3, c4⟩
  | dct vs => obtain ⟨c1, c2, us, c3, c4⟩ := c; exact ⟨c1, c2, us, by rw [upd_ne (hne .non (by simp))]; exact c3, c4⟩
  | ins k vs => obtain ⟨c1, c2, dx, us, c3, c4⟩ := c; exact ⟨c1, c2, dx, us, by rw [upd_ne (hne .non (by simp))]; exact c3, c4⟩
  | frz x => exact c
theorem Cell.some_ {F Fr : Hp} {ρ : List Addr} {a : Addr} {ob : Ob} (c : Cell Γ F Fr ρ H a ob) (hk : ∀ x, ob ≠ .frz x) : F a = none ∧ Fr a = none ∧ ∃ o, H a = some o := by
  cases ob with
  | lst vs => obtain ⟨c1, c2, us, c3, c4⟩ := c; exact ⟨c1, c2, _, c3⟩
  | dct vs => obtain ⟨c1, c2, us, c3, c4⟩ := c; exact ⟨c1, c2, _, c3⟩
  | ins k vs => obtain ⟨c1, c2, dx, us, c3, c4⟩ := c; exact ⟨c1, c2, _, c3⟩
  | frz x => exact absurd rfl (hk x)
theorem upd_some {a p : Addr} {o : HO} (h : H a ≠ none) : upd H p o a ≠ none := by
  by_cases e : a = p
  · subst e; rw [upd_same]; simp
  · rw [upd_ne e]; exact h
/-- a new frozen thing -/
def AS.withF (s : AS) (p : Addr) (o : HO) : AS := ⟨s.hp, upd s.F p o, s.Fr, s.ρ⟩
theorem new_frz (R : Rel Γ s H) {p : Addr} (hp : H p = none) (o : HO) : Rel Γ (s.withF p o) (upd H p o) ∧ Ext s (s.withF p o) := by
  obtain ⟨f1, f2⟩ := R.free hp
  have le : Le s.F (upd s.F p o) := Le.upd f1
  refine ⟨⟨fun q u e => ?_, fun q u e => ?_, fun q u e => ?_, R.len, R.inj, fun n a e => upd_some (R.th n a e), R.nf, fun n ob e => ?_⟩, ⟨le, rfl, List.prefix_refl _⟩⟩
  · have e : upd s.F p o q = some u := e
    by_cases hq : q = p
    · subst hq; rw [upd_same] at e ⊢; exact e
    · rw [upd_ne hq] at e ⊢; exact R.fz q u e
  · have hq : q ≠ p := fun z => by subst z; have e : s.Fr q = some u := e; rw [f2] at e; cases e
    rw [upd_ne hq]; exact R.fr q u e
  · have hq : q ≠ p := fun z => by subst z; have e : s.Fr q = some u := e; rw [f2] at e; cases e
    show upd s.F p o q = none
    rw [upd_ne hq]; exact R.dj q u e
  · obtain ⟨a, ea, c⟩ := R.cell n ob e
    refine ⟨a, ea, ?_⟩
    have hne : (∀ x, ob ≠ .frz x) → a ≠ p := fun hk z => by
      obtain ⟨_, _, w, hw⟩ := c.some_ hk
      rw [z, hp] at hw; cases hw
    by_cases hk : ∀ x, ob ≠ .frz x
    · exact (c.mono le (List.prefix_refl _) (.inl (upd_ne (hne hk)))).other fun _ _ => hne hk
    · have : ∃ x, ob = .frz x := by
        cases ob with
        | frz x => exact ⟨x, rfl⟩
        | lst _ => exact absurd (fun x => by simp) hk
        | dct _ => exact absurd (fun x => by simp) hk
        | ins _ _ => exact absurd (fun x => by simp) hk
      obtain ⟨x, rfl⟩ := this
      exact RT.mono le x _ c
/-- a new cell -/
def AS.push (s : AS) (p : Addr) (ob : Ob) : AS := ⟨s.hp ++ [ob], s.F, s.Fr, s.ρ ++ [p]⟩
theorem frz_or (ob : Ob) : (∀ x, ob ≠ .frz x) ∨ ∃ x, ob = .frz x := by
  cases ob with
  | frz x => exact .inr ⟨x, rfl⟩
  | lst _ => exact .inl fun x => by simp
  | dct _ => exact .inl fun x => by simp
  | ins _ _ => exact .inl fun x => by simp
theorem new_cell (R : Rel Γ s H) {p : Addr} (hp : H p = none) {o : HO} {ob : Ob} (hc : Cell Γ s.F s.Fr (s.ρ ++ [p]) (upd H p o) p ob) : Rel Γ (s.push p ob) (upd H p o) ∧ Ext s (s.push p ob) := by
  obtain ⟨f1, f2⟩ := R.free hp
  have pre : s.ρ <+: s.ρ ++ [p] := List.prefix_append _ _
  have key : ∀ {n : Nat} {a : Addr}, (s.ρ ++ [p])[n]? = some a → s.ρ[n]? = some a ∨ (n = s.ρ.length ∧ a = p) := fun {n a} e => by
    by_cases hn : n < s.ρ.length
    · rw [List.getElem?_append_left hn] at e; exact .inl e
    · rw [List.getElem?_append_right (by omega)] at e
      have h0 : n - s.ρ.length = 0 := by
        by_cases h0 : n - s.ρ.length = 0
        · exact h0
        · rw [List.getElem?_eq_none (by simp; omega)] at e; cases e
      rw [h0] at e
      cases e
      exact .inr ⟨by omega, rfl⟩
  have nop : ∀ {n : Nat} {b : Addr}, s.ρ[n]? = some b → b ≠ p := fun {n b} e z => R.th n b e (by rw [z]; exact hp)
  refine ⟨⟨fun q u e => ?_, fun q u e => ?_, R.dj, by simp [AS.push, R.len], fun m n a e1 e2 => ?_, fun n a e => ?_, fun n a e => ?_, fun n ob' e => ?_⟩, ⟨Le.refl _, rfl, pre⟩⟩
  · rw [upd_ne (ne_of_none e f1)]; exact R.fz q u e
  · rw [upd_ne (ne_of_none e f2)]; exact R.fr q u e
  · rcases key e1 with q1 | ⟨h1, q1⟩ <;> rcases key e2 with q2 | ⟨h2, q2⟩
    · exact R.inj m n a q1 q2
    · exact absurd q2 (nop q1)
    · exact absurd q1 (nop q2)
    · omega
  · rcases key e with q | ⟨h, q⟩
    · exact upd_some (R.th n a q)
    · rw [q, upd_same]; simp
  · show s.Fr a = none
    rcases key e with q | ⟨h, q⟩
    · exact R.nf n a q
    · rw [q]; exact f2
  · have e : (s.hp ++ [ob])[n]? = some ob' := e
    by_cases hn : n < s.hp.length
    · rw [List.getElem?_append_left hn] at e
      obtain ⟨a, ea, c⟩ := R.cell n ob' e
      exact ⟨a, pre_get pre ea, (c.mono (Le.refl _) pre (.inl rfl)).other fun _ _ => nop ea⟩
    · rw [List.getElem?_append_right (by omega)] at e
      have h0 : n - s.hp.length = 0 := by
        by_cases h0 : n - s.hp.length = 0
        · exact h0
        · rw [List.getElem?_eq_none (by simp; omega)] at e; cases e
      rw [h0] at e
      cases e
      refine ⟨p, ?_, hc⟩
      have hn' : n = s.ρ.length := by rw [R.len]; omega
      show (s.ρ ++ [p])[n]? = some p
      rw [hn', List.getElem?_append_right (Nat.le_refl _), Nat.sub_self]
      rfl
/-- a cell written -/
def AS.wr (s : AS) (n : Nat) (ob : Ob) : AS := ⟨s.hp.set n ob, s.F, s.Fr, s.ρ⟩
theorem wr_cell (R : Rel Γ s H) {n : Nat} {a : Addr} (ea : s.ρ[n]? = some a) (f1 : s.F a = none) (f2 : s.Fr a = none) {o : HO} {ob : Ob} (hc : Cell Γ s.F s.Fr s.ρ (upd H a o) a ob) : Rel Γ (s.wr n ob) (upd H a o) ∧ Ext s (s.wr n ob) := by
  have hn : n < s.hp.length := by rw [← R.len]; exact get_lt ea
  refine ⟨⟨fun q u e => ?_, fun q u e => ?_, R.dj, by simp [AS.wr, R.len], R.inj, fun m b e => upd_some (R.th m b e), R.nf, fun m ob' e => ?_⟩, Ext.refl s |> fun x => ⟨x.F, x.Fr, x.ρ⟩⟩
  · rw [upd_ne (ne_of_none e f1)]; exact R.fz q u e
  · rw [upd_ne (ne_of_none e f2)]; exact R.fr q u e
  · have e : (s.hp.set n ob)[m]? = some ob' := e
    by_cases hm : n = m
    · subst hm
      rw [List.getElem?_set_self hn] at e
      cases e
      exact ⟨a, ea, hc⟩
    · rw [List.getElem?_set_ne hm] at e
      obtain ⟨b, eb, c⟩ := R.cell m ob' e
      exact ⟨b, eb, c.other fun _ _ z => hm (R.inj n m b (by rw [z]; exact ea) eb)⟩
end
end MS

set_option Elab.async false
set_option linter.all false
set_option maxRecDepth 100000
/-! MSE: the judgements' rules: names, constants, operators. -/
namespace MS
open PySem L2
theorem PE.imp {X : Cx} {e : Expr} {t t' : TE} (h : PE X e t) (i : ∀ σ H Q, t' σ H Q → t σ H Q) : PE X e t' := ⟨fun pins s σ H Q I q => h.run pins s σ H Q I (i σ H Q q)⟩
theorem PT.imp {X : Cx} {e : Expr} {t t' : TT} (h : PT X e t) (i : ∀ σ H Q, t' σ H Q → t σ H Q) : PT X e t' := ⟨fun pins s σ H Q I q => h.run pins s σ H Q I (i σ H Q q)⟩
theorem PW.imp {X : Cx} {e : Expr} {t t' : TT} (h : PW X e t) (i : ∀ σ H Q, t' σ H Q → t σ H Q) : PW X e t' := ⟨fun wh pins s σ H Q I q => h.run wh pins s σ H Q I (i σ H Q q)⟩
theorem PA.imp {X : Cx} {es : List Expr} {t t' : TA} (h : PA X es t) (i : ∀ σ H Q, t' σ H Q → t σ H Q) : PA X es t' := ⟨fun pos pins s σ H Q I q => h.run pos pins s σ H Q I (i σ H Q q)⟩
theorem PS.imp {X : Cx} {st : Stmt} {t t' : TS} (h : PS X st t) (i : ∀ D σ H, t' D σ H → t D σ H) : PS X st t' := ⟨fun pins s σ H D I q => h.run pins s σ H D I (i D σ H q)⟩
theorem PSs.imp {X : Cx} {st : List Stmt} {t t' : TS} (h : PSs X st t) (i : ∀ D σ H, t' D σ H → t D σ H) : PSs X st t' := ⟨fun pins s σ H D I q => h.run pins s σ H D I (i D σ H q)⟩

/-! ### the forms of the text -/
def stB : Expr → Bool
  | .Starred .. => true
  | _ => false
def slB : Expr → Bool
  | .Slice .. => true
  | _ => false
def seB : Expr → Bool
  | .Set .. => true
  | _ => false
def abB : Expr → Bool
  | .Call (.Name _ _) [] [] _ => true
  | _ => false
def cmB : Expr → Bool
  | .ListComp .. => true | .SetComp .. => true | .DictComp .. => true
  | _ => false
def tuB : Expr → Bool
  | .Tuple .. => true | .List .. => true
  | _ => false
def tsB : Expr → Bool
  | .UnaryOp .Not _ _ => true | .BoolOp .. => true | .IfExp .. => true | .Compare .. => true
  | _ => false
theorem star_cons {e : Expr} {es : List Expr} {env : Env} (h : stB e = false) : starEach (e :: es) env = (false, eval e env) :: starEach es env := by
  cases e <;> first | rfl | cases h
theorem plain_ix {b : Expr} (h : slB b = false) : PlainIx b := by
  intro o i
  cases b <;> first | rfl | cases h
theorem mark_no {b : Expr} {op : CmpOp} (h : seB b = false) : behindInMarks op b = false := by
  cases b <;> first | rfl | cases h
theorem base_no {o : Expr} {n : Str} {env : Env} {whole : Sem Value} (h : abB o = false) : attributeBase o n env whole = whole := by
  unfold attributeBase
  split
  · cases h
  · rfl
theorem swap_no {e : Expr} {t : Option Expr} {l : Nat} {env : Env} (h : cmB e = false) : swapsWith e t l env = pure false := by
  cases e <;> first | rfl | cases h
theorem swap1_no {e tg : Expr} {l : Nat} {env : Env} (h : cmB e = false) : swapsWithSole [tg] e l env = pure false := swap_no h
theorem stores_no {e tg : Expr} {env : Env} (h : tuB e = false) : swappedStores [tg] e env = pure none := by
  unfold swappedStores
  cases e <;> first | (cases tg <;> rfl) | cases h
theorem test_plain {e : Expr} {env : Env} {whole : Sem Value} (h : tsB e = false) : isTrue e env whole = (do let v ← whole; standAt e.pos; holding [v] (truthy v)) := by
  cases e <;> first | rfl | cases h | skip
  rename_i op a pos
  cases op <;> first | rfl | cases h
theorem spl_plain : ∀ {es : List Expr} {env : Env} {pos : Pos}, es.any stB = false → (backTo pos (starEach es env)).any (·.1) = false
  | [], _, _, _ => rfl
  | e :: es, env, pos, h => by
    rw [List.any_cons, Bool.or_eq_false_iff] at h
    rw [star_cons h.1]
    show (false || (backTo pos (starEach es env)).any (·.1)) = false
    rw [spl_plain h.2]
    rfl

section
variable {Γ : Run} {X : Cx} {C : Cl} {pos : Pos}

/-! ### names, constants -/
theorem se_var {i : Nat} {x : Str} (hN : X.N[i]? = some x) (hv : Vis X.env.scope x) (hd : (x == ("__debug__" : Str)) = false) (hcd : (x == ("__classdict__" : Str)) = false) : SE Γ X (.Name x pos) (evE C (.var i)) := by
  intro W tk
  refine PE.imp (pe_var hN hv hd hcd) ?_
  rintro σ H Q ⟨loc, s, R, L, A⟩
  simp only [evE] at A
  split at A
  · rename_i v e
    obtain ⟨u, eu, r⟩ := L.at_ i v e
    exact ⟨u, eu, A s H rfl (Ext.refl s) R u (nrm_ok R r)⟩
  · exact A.elim
theorem se_con {e : Expr} {v : V} {x : T} {m : Loc → MH Val} (h : PE X e (tC v)) (hm : ∀ loc, m loc = MH.pure (.t x)) (hx : ∀ F : Hp, RT Γ F x v) : SE Γ X e m := by
  intro W tk
  refine PE.imp h ?_
  rintro σ H Q ⟨loc, s, R, L, A⟩
  rw [hm] at A
  exact After.ok R A v (hx _)
theorem se_int {i : Int} {j : Nat} : SE Γ X (.Constant (.int i) j pos) (evE C (.int i)) := se_con pe_int (fun _ => by simp only [evE]; rfl) fun F => by simp only [RT]
theorem se_bl {b : Bool} {j : Nat} : SE Γ X (.Constant (.bool b) j pos) (evE C (.bl b)) := se_con pe_bl (fun _ => by simp only [evE]; rfl) fun F => by simp only [RT]
theorem se_non {j : Nat} : SE Γ X (.Constant .none j pos) (evE C .non) := se_con pe_non (fun _ => by simp only [evE]; rfl) fun F => by simp only [RT]
theorem se_str {x : Str} {j : Nat} : SE Γ X (.Constant (.str x) j pos) (evE C (.str x)) := se_con pe_str (fun _ => by simp only [evE]; rfl) fun F => by simp only [RT]

/-! ### an argument list -/
theorem sa_nil : SA Γ X [] (evEs C []) := by
  intro W tk
  refine PA.imp pa_nil ?_
  rintro σ H Q ⟨loc, s, R, L, A⟩
  simp only [evEs] at A
  exact After.ok R A [] .nil
theorem sa_cons {e : Expr} {es : List Expr} {m : E} {ms : List E} (ha : SE Γ X e (evE C m)) (hr : SA Γ X es (evEs C ms)) (hs : stB e = false) : SA Γ X (e :: es) (evEs C (m :: ms)) := by
  intro W tk
  refine PA.imp (pa_cons (ha W tk) (hr W tk) (star_cons hs)) ?_
  rintro σ H Q ⟨loc, s, R, L, A⟩
  simp only [evEs] at A
  refine ⟨loc, s, R, L, A.bind.imp (fun v s1 H1 x1 R1 A1 u r => ?_) (fun _ _ _ _ _ q => q)⟩
  refine ⟨loc, s1, R1, L.ext x1, A1.bind.imp (fun vs s2 H2 x2 R2 A2 us rs => ?_) (fun _ _ _ _ _ q => q)⟩
  exact After.ok R2 A2 (u :: us) (.cons (r.ext x2) rs)

/-! ### operators by values -/
/-- what a rule asks is what the interpreter finds -/
def OpLk (Γ : Run) (o : Op) (r : R2) : Prop := ∀ (s : AS) (H : Hp) (v w : Val) (u u' : V) (Q : VK) (E : Ex → AS → Hp → Prop), Rel Γ s H → RV Γ s.F s.ρ v u → RV Γ s.F s.ρ w u' →
  After Γ s (opM o [v, w] s.hp) (fun x s' H' => ∀ z, RV Γ s'.F s'.ρ x z → Q z H') E → r u u' H Q
def UnLk (Γ : Run) (o : Op) (r : V → Hp → VK → Prop) : Prop := ∀ (s : AS) (H : Hp) (v : Val) (u : V) (Q : VK) (E : Ex → AS → Hp → Prop), Rel Γ s H → RV Γ s.F s.ρ v u →
  After Γ s (opM o [v] s.hp) (fun x s' H' => ∀ z, RV Γ s'.F s'.ρ x z → Q z H') E → r u H Q
theorem evE_op2 {o : Op} {a b : E} {loc : Loc} : evE C (.op o [a, b]) loc = MH.bind (evE C a loc) fun v => MH.bind (evE C b loc) fun w => opM o [v, w] := by
  simp only [evE, evEs, pure_eq, MH.bind_assoc, MH.pure_bind]
theorem evE_op1 {o : Op} {a : E} {loc : Loc} : evE C (.op o [a]) loc = MH.bind (evE C a loc) fun v => opM o [v] := by
  simp only [evE, evEs, pure_eq, MH.bind_assoc, MH.pure_bind]
theorem te_op {o : Op} {r : R2} {a b : E} {W : WX} (lk : OpLk Γ o r) {σ : L2.St} {H : Hp} {Q : VK} (h : tE Γ (evE C (.op o [a, b])) W σ H Q) : tOp r (tE Γ (evE C a) W) (tE Γ (evE C b) W) σ H Q := by
  obtain ⟨loc, s, R, L, A⟩ := h
  rw [evE_op2] at A
  refine ⟨loc, s, R, L, A.bind.imp (fun v s1 H1 x1 R1 A1 u r => ?_) (fun _ _ _ _ _ q => q)⟩
  refine ⟨loc, s1, R1, L.ext x1, A1.bind.imp (fun w s2 H2 x2 R2 A2 u' r' => ?_) (fun _ _ _ _ _ q => q)⟩
  exact lk s2 H2 v w u u' Q _ R2 (r.ext x2) r' A2
theorem se_bin {o : Op} {op : Operator} {r : R2} {ea eb : Expr} {a b : E} (ho : OpR X (binaryOp op) r) (lk : OpLk Γ o r) (ha : SE Γ X ea (evE C a)) (hb : SE Γ X eb (evE C b)) : SE Γ X (.BinOp ea op eb pos) (evE C (.op o [a, b])) :=
  fun W tk => PE.imp (pe_op ho (ha W tk) (hb W tk)) fun _ _ _ h => te_op lk h
/-- a two-place operation, the slots known -/
def OpS (X : Cx) (f : Value → Value → Sem Value) (r : L2.St → R2) : Prop :=
  ∀ (pins : List (Addr × Obj)) (s : Shared) (σ : L2.St) (H : Hp) (x y : V) (v u : Value) (Q : VK), Inv X pins σ H s → RelV x v → RelV y u → r σ x y H Q → wpAny (model X.prog X.w) X.A (f v u) (EP X pins σ Q) X.xe s
def tOpS (r : L2.St → R2) (ta tb : TE) : TE := fun σ H Q => ta σ H fun x H1 => tb σ H1 fun y H2 => r σ x y H2 Q
theorem pe_cmpS {op : CmpOp} {r : L2.St → R2} {a b : Expr} {ta tb : TE} (ho : OpS X (compareOp op) r) (ha : PE X a ta) (hb : PE X b tb) (hm : behindInMarks op b = false) : PE X (.Compare a [op] [b] pos) (tOpS r ta tb) := by
  refine ⟨fun pins s σ H Q I h => ?_⟩
  exact wpAny_Compare1 (binT ha hb I h fun v u s2 x y H2 I2 rx ry q => ho pins s2 σ H2 x y v u Q I2 rx ry q) hm
theorem pt_cmpS {op : CmpOp} {r : L2.St → R2} {a b : Expr} {ta tb : TE} (ho : OpS X (compareOp op) r) (ha : PE X a ta) (hb : PE X b tb) (hm : behindInMarks op b = false) : PT X (.Compare a [op] [b] pos) (tTest (tOpS r ta tb)) := by
  refine ⟨fun pins s σ H Q I h => ?_⟩
  refine wpAny_isTrue_Compare1 (thn (ha.run pins s σ H _ I h) fun v s1 ⟨x, H1, I1, r1, q1⟩ => thn (hb.run pins s1 σ H1 _ I1 q1) fun u s2 ⟨y, H2, I2, r2, q2⟩ =>
    thn (ho pins s2 σ H2 x y v u _ I2 r1 r2 q2) fun c s3 ⟨z, H3, I3, r3, k, e, q3⟩ => ?_) hm
  subst e
  cases r3
  exact PySem.wpAny_truthy_bool ⟨H3, I3, q3⟩
/-- a comparison -/
def SC (Γ : Run) (X : Cx) (e : Expr) (m : Loc → MH Val) : Prop := ∀ W, Takes X W → ∃ (op : CmpOp) (a b : Expr) (r : L2.St → R2) (ta tb : TE) (pos : Pos), e = .Compare a [op] [b] pos ∧ OpS X (compareOp op) r ∧ PE X a ta ∧ PE X b tb ∧ behindInMarks op b = false ∧
  ∀ σ H Q, tE Γ m W σ H Q → tOpS r ta tb σ H Q
theorem SC.se {Γ : Run} {X : Cx} {e : Expr} {m : Loc → MH Val} (h : SC Γ X e m) : SE Γ X e m := by
  intro W tk
  obtain ⟨op, a, b, r, ta, tb, pos, rfl, ho, ha, hb, hm, k⟩ := h W tk
  exact PE.imp (pe_cmpS ho ha hb hm) k
theorem OpR.s {f : Value → Value → Sem Value} {r : R2} (h : OpR X f r) : OpS X f (fun _ => r) := fun pins s σ H x y v u Q I rx ry q => h pins s σ H x y v u Q I rx ry q
theorem sc_cmp {o : Op} {op : CmpOp} {r : R2} {ea eb : Expr} {a b : E} (ho : OpR X (compareOp op) r) (lk : OpLk Γ o r) (ha : SE Γ X ea (evE C a)) (hb : SE Γ X eb (evE C b)) (hm : seB eb = false) : SC Γ X (.Compare ea [op] [eb] pos) (evE C (.op o [a, b])) :=
  fun W tk => ⟨op, ea, eb, fun _ => r, _, _, pos, rfl, OpR.s ho, ha W tk, hb W tk, mark_no hm, fun _ _ _ h => te_op lk h⟩
theorem se_un {o : Op} {op : UnaryOp} {r : V → Hp → VK → Prop} {ea : Expr} {a : E} (ho : UnR X (unaryOp op) r) (lk : UnLk Γ o r) (ha : SE Γ X ea (evE C a)) : SE Γ X (.UnaryOp op ea pos) (evE C (.op o [a])) := by
  intro W tk
  refine PE.imp (pe_un ho (ha W tk)) ?_
  rintro σ H Q ⟨loc, s, R, L, A⟩
  rw [evE_op1] at A
  refine ⟨loc, s, R, L, A.bind.imp (fun v s1 H1 x1 R1 A1 u r => ?_) (fun _ _ _ _ _ q => q)⟩
  exact lk s1 H1 v u Q _ R1 r A1
theorem se_ix {o : Op} {r : R2} {ea eb : Expr} {a b : E} (ho : IxR X r) (lk : OpLk Γ o r) (ha : SE Γ X ea (evE C a)) (hb : SE Γ X eb (evE C b)) (hm : slB eb = false) : SE Γ X (.Subscript ea eb pos) (evE C (.op o [a, b])) :=
  fun W tk => PE.imp (pe_ix ho (ha W tk) (hb W tk) (plain_ix hm)) fun _ _ _ h => te_op lk h

/-! ### what values are -/
theorem rt_int {F : Hp} {i : Int} {u : V} : RT Γ F (.int i) u ↔ u = .int i := by simp only [RT]
theorem rt_bl {F : Hp} {i : Bool} {u : V} : RT Γ F (.bl i) u ↔ u = .bl i := by simp only [RT]
theorem rt_str {F : Hp} {i : Str} {u : V} : RT Γ F (.str i) u ↔ u = .str i := by simp only [RT]
theorem rt_non {F : Hp} {u : V} : RT Γ F .non u ↔ u = .non := by simp only [RT]
theorem rt_tup {F : Hp} {xs : List T} {u : V} : RT Γ F (.tup xs) u ↔ ∃ p vs, u = .ref p ∧ TupF Γ.K F p vs ∧ RTs Γ F xs vs := by simp only [RT]
theorem rt_lst {F : Hp} {xs : List T} {u : V} : RT Γ F (.lst xs) u ↔ ∃ p vs, u = .ref p ∧ F p = some (.lst vs) ∧ RTs Γ F xs vs := by simp only [RT]
theorem rv_int {F : Hp} {ρ : List Addr} {i : Int} {u : V} : RV Γ F ρ (.t (.int i)) u ↔ u = .int i := rt_int (Γ := Γ) (F := F)
theorem rv_bl {F : Hp} {ρ : List Addr} {i : Bool} {u : V} : RV Γ F ρ (.t (.bl i)) u ↔ u = .bl i := rt_bl (Γ := Γ) (F := F)
theorem rv_str {F : Hp} {ρ : List Addr} {i : Str} {u : V} : RV Γ F ρ (.t (.str i)) u ↔ u = .str i := rt_str (Γ := Γ) (F := F)
theorem rv_non {F : Hp} {ρ : List Addr} {u : V} : RV Γ F ρ (.t .non) u ↔ u = .non := rt_non (Γ := Γ) (F := F)

variable {β : Type} {s : AS} {H : Hp} {Q : β → AS → Hp → Prop} {E' : Ex → AS → Hp → Prop}
theorem After.intV {v : Val} {u : V} {f : Int → MH β} (r : RV Γ s.F s.ρ v u) (h : After Γ s (MH.bind (MS.intV v) f s.hp) Q E') : ∃ i, v = .t (.int i) ∧ u = .int i ∧ After Γ s (f i s.hp) Q E' := by
  unfold MS.intV at h
  split at h
  · rename_i i
    exact ⟨i, rfl, rv_int.mp r, h⟩
  · exact h.elim
theorem After.blV {v : Val} {u : V} {f : Bool → MH β} (r : RV Γ s.F s.ρ v u) (h : After Γ s (MH.bind (MS.blV v) f s.hp) Q E') : ∃ i, v = .t (.bl i) ∧ u = .bl i ∧ After Γ s (f i s.hp) Q E' := by
  unfold MS.blV at h
  split at h
  · rename_i i
    exact ⟨i, rfl, rv_bl.mp r, h⟩
  · exact h.elim
theorem After.strV {v : Val} {u : V} {f : Str → MH β} (r : RV Γ s.F s.ρ v u) (h : After Γ s (MH.bind (MS.strV v) f s.hp) Q E') : ∃ i, v = .t (.str i) ∧ u = .str i ∧ After Γ s (f i s.hp) Q E' := by
  unfold MS.strV at h
  split at h
  · rename_i i
    exact ⟨i, rfl, rv_str.mp r, h⟩
  · exact h.elim
/-- a list, frozen -/
theorem After.lstP {v : Val} {u : V} {f : List T → MH β} (R : Rel Γ s H) (r : RV Γ s.F s.ρ v u) (h : After Γ s (MH.bind (MS.lstP v) f s.hp) Q E') :
    ∃ xs s' p us, Ext s s' ∧ Rel Γ s' H ∧ u = .ref p ∧ s'.F p = some (.lst us) ∧ RTs Γ s'.F xs us ∧ After Γ s' (f xs s'.hp) Q E' := by
  unfold MS.lstP at h
  rw [bind_eq, MH.bind_assoc] at h
  obtain ⟨x, s', x1, R1, rx, A⟩ := After.pur R r h
  split at A
  · rename_i xs
    obtain ⟨p, us, e, hF, rs⟩ := rt_lst.mp rx
    exact ⟨xs, s', p, us, x1, R1, e, hF, rs, A⟩
  · exact A.elim
theorem RTs.map_vals {F : Hp} {ρ : List Addr} {xs : List T} {us : List V} (h : RTs Γ F xs us) : RVs Γ F ρ (xs.map .t) us := RVs.of_ts h
theorem rvs_ints {F : Hp} {ρ : List Addr} : ∀ ns : List Int, RVs Γ F ρ (ns.map fun i => .t (.int i)) (ns.map V.int)
  | [] => .nil
  | n :: ns => .cons (rv_int.mpr rfl) (rvs_ints ns)
/-- the items -/
theorem After.seqV {v : Val} {u : V} {f : List Val → MH β} (R : Rel Γ s H) (r : RV Γ s.F s.ρ v u) (h : After Γ s (MH.bind (MS.seqV v) f s.hp) Q E') :
    ∃ vs p us, u = .ref p ∧ (SqL Γ.K H p us ∨ SqT Γ.K H p us) ∧ RVs Γ s.F s.ρ vs us ∧ After Γ s (f vs s.hp) Q E' := by
  unfold MS.seqV at h
  cases v with
  | t x =>
    cases x with
    | tup xs =>
      obtain ⟨p, us, e, q, rs⟩ := rt_tup.mp r
      exact ⟨_, p, us, e, .inr (R.fz.tupF q).sqT, RVs.of_ts rs, h⟩
    | lst xs =>
      obtain ⟨p, us, e, q, rs⟩ := rt_lst.mp r
      exact ⟨_, p, us, e, .inl (SqL.of (R.fz _ _ q)), RVs.of_ts rs, h⟩
    | scr ns =>
      have r : RT Γ s.F (.scr ns) u := r
      simp only [RT] at r
      obtain ⟨p, e, q⟩ := r
      exact ⟨_, p, _, e, .inl (R.fz.sqL q), rvs_ints ns, h⟩
    | _ => exact h.elim
  | ref n =>
    obtain ⟨a, ea, rfl⟩ := r
    dsimp only [MH.bind] at h
    split at h
    · rename_i vs' h' e
      split at e
      · rename_i vs ec
        cases e
        obtain ⟨b, eb, c1, c2, us, c3, c4⟩ := R.cell n _ ec
        rw [ea] at eb; cases eb
        exact ⟨_, a, us, rfl, .inl (SqL.of c3), c4, h⟩
      · rename_i xs ec
        cases e
        obtain ⟨b, eb, c⟩ := R.cell n _ ec
        rw [ea] at eb; cases eb
        obtain ⟨p, us, e, q, rs⟩ := rt_lst.mp c
        cases e
        exact ⟨_, a, us, rfl, .inl (SqL.of (R.fz _ _ q)), RVs.of_ts rs, h⟩
      · cases e
    · rename_i e
      split at e <;> cases e
    · exact h.elim
/-- a list that may change -/
theorem After.cellV {v : Val} {u : V} {f : Nat × List Val → MH β} (R : Rel Γ s H) (r : RV Γ s.F s.ρ v u) (h : After Γ s (MH.bind (MS.cellV v) f s.hp) Q E') :
    ∃ n vs p us, v = .ref n ∧ u = .ref p ∧ s.ρ[n]? = some p ∧ s.hp[n]? = some (.lst vs) ∧ s.F p = none ∧ s.Fr p = none ∧ H p = some (.lst us) ∧ RVs Γ s.F s.ρ vs us ∧ After Γ s (f (n, vs) s.hp) Q E' := by
  unfold MS.cellV at h
  cases v with
  | t x => exact h.elim
  | ref n =>
    obtain ⟨a, ea, rfl⟩ := r
    dsimp only [MH.bind] at h
    split at h
    · rename_i p' h' e
      split at e
      · rename_i vs ec
        cases e
        obtain ⟨b, eb, c1, c2, us, c3, c4⟩ := R.cell n _ ec
        rw [ea] at eb; cases eb
        exact ⟨n, vs, a, us, rfl, rfl, ea, ec, c1, c2, c3, c4, h⟩
      · cases e
    · rename_i e
      split at e <;> cases e
    · exact h.elim
end
end MS

set_option Elab.async false
set_option linter.all false
set_option maxRecDepth 100000
/-! MSF: the operators' links. -/
namespace MS
open PySem PySem.Spec PyProof.Rows L2
section
variable {Γ : Run} {X : Cx} {C : Cl} {pos : Pos}
theorem PE.or {X : Cx} {e : Expr} {t t' : TE} (h : PE X e t) (h' : PE X e t') : PE X e (fun σ H Q => t σ H Q ∨ t' σ H Q) :=
  ⟨fun pins s σ H Q I q => q.elim (h.run pins s σ H Q I) (h'.run pins s σ H Q I)⟩
theorem after_bad {α : Type} {s : AS} {Q : α → AS → Hp → Prop} {E : Ex → AS → Hp → Prop} {p : Prop} (h : After Γ s (bad s.hp) Q E) : p := h.elim

/-! ### ints -/
theorem lk_iop {o : Op} {ok : Int → Int → Bool} {f : Int → Int → Int} {P : Int → Int → Prop} (ho : ∀ v w, opM o [v, w] = iop ok f v w) (hP : ∀ i j, ok i j = true → P i j) : OpLk Γ o (rI P fun i j => .int (f i j)) := by
  intro s H v w u u' Q E R r r' A
  rw [ho] at A
  unfold iop at A
  split at A
  · rename_i i j
    split at A
    · rename_i h
      exact ⟨i, j, rv_int.mp r, rv_int.mp r', hP i j h, After.ok R A _ (rv_int.mpr rfl)⟩
    · exact after_bad A
  · exact after_bad A
theorem lk_cop {o : Op} {f : Int → Int → Bool} (ho : ∀ v w, opM o [v, w] = cop f v w) : OpLk Γ o (rI0 fun i j => .bl (f i j)) := by
  intro s H v w u u' Q E R r r' A
  rw [ho] at A
  unfold cop at A
  split at A
  · rename_i i j
    exact ⟨i, j, rv_int.mp r, rv_int.mp r', After.ok R A _ (rv_bl.mpr rfl)⟩
  · exact after_bad A
theorem rI0_of {g : Int → Int → V} {x y : V} {H : Hp} {Q : VK} (h : rI (fun _ _ => True) g x y H Q) : rI0 g x y H Q := by
  obtain ⟨i, j, a, b, _, q⟩ := h
  exact ⟨i, j, a, b, q⟩
theorem lk_sub : OpLk Γ .sub (rI0 fun i j => .int (i - j)) := fun s H v w u u' Q E R r r' A => rI0_of (lk_iop (o := .sub) (P := fun _ _ => True) (fun _ _ => rfl) (fun _ _ _ => trivial) s H v w u u' Q E R r r' A)
theorem lk_fdv : OpLk Γ .fdv (rI CDivN fun i j => .int (i.fdiv j)) := lk_iop (fun _ _ => rfl) fun i j h => of_decide_eq_true h
theorem lk_mod : OpLk Γ .mod (rI (fun _ j => j ≠ 0) fun i j => .int (i.fmod j)) := lk_iop (fun _ _ => rfl) fun i j h => of_decide_eq_true h
theorem lk_pow : OpLk Γ .pow (rI CPow fun i j => .int (i ^ j.toNat)) := lk_iop (fun _ _ => rfl) fun i j h => of_decide_eq_true h
theorem lk_lt : OpLk Γ .lt (rI0 fun i j => .bl (decide (i < j))) := lk_cop fun _ _ => rfl
theorem lk_le : OpLk Γ .le (rI0 fun i j => .bl (decide (i ≤ j))) := lk_cop fun _ _ => rfl
theorem lk_gt : OpLk Γ .gt (rI0 fun i j => .bl (decide (j < i))) := lk_cop fun _ _ => rfl
theorem lk_ge : OpLk Γ .ge (rI0 fun i j => .bl (decide (j ≤ i))) := lk_cop fun _ _ => rfl
theorem lk_neg : UnLk Γ .neg (rU fun i => .int (-i)) := by
  intro s H v u Q E R r A
  have A : After Γ s (MH.bind (intV v) (fun i => int (-i)) s.hp) _ _ := A
  obtain ⟨i, _, e, A⟩ := A.intV r
  exact ⟨i, e, After.ok R A _ (rv_int.mpr rfl)⟩

/-! ### new lists, tuples -/
/-- a new list of frozen items -/
theorem After.newL {s : AS} {H : Hp} {xs : List T} {us : List V} {Q : VK} {E : Ex → AS → Hp → Prop} (R : Rel Γ s H) (rs : RTs Γ s.F xs us)
    (A : After Γ s (MH.pure (.t (.lst xs)) s.hp) (fun x s' H' => ∀ z, RV Γ s'.F s'.ρ x z → Q z H') E) (p : Addr) (hp : H p = none) : Q (.ref p) (upd H p (.lst us)) := by
  obtain ⟨R1, x1⟩ := new_frz R hp (.lst us)
  exact A (s.withF p (.lst us)) _ rfl x1 R1 _ (rt_lst.mpr ⟨p, us, rfl, upd_same, rs.mono x1.F xs us⟩)
theorem After.newT {s : AS} {H : Hp} {xs : List T} {us : List V} {Q : VK} {E : Ex → AS → Hp → Prop} {o : Obj} (R : Rel Γ s H) (rs : RTs Γ s.F xs us) (ho : o.dict = none)
    (A : After Γ s (MH.pure (.t (.tup xs)) s.hp) (fun x s' H' => ∀ z, RV Γ s'.F s'.ρ x z → Q z H') E) (p : Addr) (hp : H p = none) : Q (.ref p) (upd H p (.frz o (.tup us))) := by
  obtain ⟨R1, x1⟩ := new_frz R hp (.frz o (.tup us))
  exact A (s.withF p _) _ rfl x1 R1 _ (rt_tup.mpr ⟨p, us, rfl, .inl ⟨o, upd_same, ho⟩, rs.mono x1.F xs us⟩)
/-- a new list, frozen or not -/
theorem After.keep {s : AS} {H : Hp} {m : Bool} {vs : List Val} {us : List V} {Q : VK} {E : Ex → AS → Hp → Prop} (R : Rel Γ s H) (rs : RVs Γ s.F s.ρ vs us)
    (A : After Γ s (MS.keep m vs s.hp) (fun x s' H' => ∀ z, RV Γ s'.F s'.ρ x z → Q z H') E) (p : Addr) (hp : H p = none) : Q (.ref p) (upd H p (.lst us)) := by
  unfold MS.keep at A
  cases m with
  | true =>
    obtain ⟨f1, f2⟩ := R.free hp
    obtain ⟨R1, x1⟩ := new_cell (ob := .lst vs) (o := .lst us) R hp ⟨f1, f2, us, upd_same, rs.mono (Le.refl _) (List.prefix_append _ _)⟩
    refine A (s.push p (.lst vs)) _ rfl x1 R1 _ ⟨p, ?_, rfl⟩
    show (s.ρ ++ [p])[s.hp.length]? = some p
    rw [← R.len, List.getElem?_append_right (Nat.le_refl _), Nat.sub_self]
    rfl
  | false =>
    have A : After Γ s (MH.bind (mp MS.pur vs) (fun ts => MH.pure (Val.t (T.lst ts))) s.hp) _ _ := A
    obtain ⟨ts, s1, x1, R1, rts, A⟩ := A.purs R rs
    exact A.newL R1 rts p hp

/-! ### + -/
/-- t + u, the new tuple's object known -/
def rCatF (K : PySem.W.Frag) : R2 := fun x y H Q => ∃ a b xs ys, x = .ref a ∧ y = .ref b ∧ SqT K H a xs ∧ SqT K H b ys ∧ xs.length + ys.length ≤ sizeLine ∧
  (xs = [] → Q (.ref b) H) ∧ (xs ≠ [] → ys = [] → Q (.ref a) H) ∧ (xs ≠ [] → ys ≠ [] → ∀ (p : Addr) (o : Obj), H p = none → o.dict = none → Q (.ref p) (upd H p (.frz o (.tup (xs ++ ys)))))
theorem laid_tup {pins : List (Addr × Obj)} {σ : L2.St} {H : Hp} {s : Shared} {Q : VK} {xs : List V} {us : List Value} (I : Inv X pins σ H s) (r : Vals xs us) (hz : xs.length ≤ sizeLine)
    (q : ∀ (p : Addr) (o : Obj), H p = none → o.dict = none → Q (.ref p) (upd H p (.frz o (.tup xs)))) :
    EP X pins σ Q (.ref s.heap.objs.size) { s with heap := s.heap.push { cls := .type "tuple", data := .seq us.toArray } } := by
  refine ⟨.ref s.heap.objs.size, _, I.laid (t' := s.toks) (o := .frz { cls := .type "tuple", data := .seq us.toArray } (.tup xs)) (fun b ob q => Heap.get?_push_of_some _ q) (Nat.le_refl _) ?_, rfl, q _ _ (I.hok.fresh (Nat.le_refl _)) rfl⟩
  exact ⟨Heap.get?_push_size _ rfl, hz, _, r, IsTup.new _ _⟩
theorem op_catF : OpR X (binaryOp .Add) (rCatF X.K) := by
  intro pins s σ H x y v u Q I rx ry h
  obtain ⟨a, b, xs, ys, rfl, rfl, ha, hb, hz, q0, q1, q2⟩ := h
  cases rx
  cases ry
  obtain ⟨its, r1, p1, _⟩ := I.tuple ha
  obtain ⟨its2, r2, p2, _⟩ := I.tuple hb
  by_cases hx : xs = []
  · subst hx
    cases r1
    exact L2.cat_tup0 p1 p2 ⟨.ref b, H, I, rfl, q0 rfl⟩
  · refine HT.cat_tup p1 p2 (fun z => hx (r1.nil_iff.mp z)) (fun z => ⟨.ref a, H, I, rfl, q1 hx (r2.nil_iff.mp z)⟩) (fun z => ?_) (by rw [← r1.length, ← r2.length]; exact hz)
    exact laid_tup I (r1.append r2) (by rw [List.length_append]; exact hz) (q2 hx fun w => z (r2.nil_iff.mpr w))
theorem op_addAll : OpR X (binaryOp .Add) (fun x y H Q => rI0 (fun i j => .int (i + j)) x y H Q ∨ (∃ i j, x = .str i ∧ y = .str j ∧ i.length + j.length ≤ sizeLine ∧ Q (.str (i ++ j)) H) ∨ rCatF X.K x y H Q ∨ rCat x y H Q) :=
  op_add.or (op_add_str.or (op_catF.or op_cat))
theorem lk_add : OpLk Γ .add (fun x y H Q => rI0 (fun i j => .int (i + j)) x y H Q ∨ (∃ i j, x = .str i ∧ y = .str j ∧ i.length + j.length ≤ sizeLine ∧ Q (.str (i ++ j)) H) ∨ rCatF Γ.K x y H Q ∨ rCat x y H Q) := by
  intro s H v w u u' Q E R r r' A
  change After Γ s (addM v w s.hp) _ _ at A
  unfold addM at A
  split at A
  · exact .inl ⟨_, _, rv_int.mp r, rv_int.mp r', After.ok R A _ (rv_int.mpr rfl)⟩
  · split at A
    · rename_i h
      exact .inr (.inl ⟨_, _, rv_str.mp r, rv_str.mp r', h, After.ok R A _ (rv_str.mpr rfl)⟩)
    · exact after_bad A
  · rename_i xs ys
    split at A
    · rename_i h
      obtain ⟨a, us, e1, t1, rs1⟩ := rt_tup.mp r
      obtain ⟨b, ws, e2, t2, rs2⟩ := rt_tup.mp r'
      have l1 := RTs.length rs1
      have l2 := RTs.length rs2
      refine .inr (.inr (.inl ⟨a, b, us, ws, e1, e2, (R.fz.tupF t1).sqT, (R.fz.tupF t2).sqT, by rw [← l1, ← l2]; exact h, fun z => ?_, fun _ z => ?_, fun _ _ p o hp ho => ?_⟩))
      · subst z
        have : xs = [] := List.eq_nil_of_length_eq_zero l1
        subst this
        exact After.ok R A _ (rt_tup.mpr ⟨b, ws, rfl, t2, rs2⟩)
      · subst z
        have : ys = [] := List.eq_nil_of_length_eq_zero l2
        subst this
        rw [List.append_nil] at A
        exact After.ok R A _ (rt_tup.mpr ⟨a, us, rfl, t1, rs1⟩)
      · exact After.newT R (rs1.app rs2) ho A p hp
    · exact after_bad A
  · obtain ⟨xs, s1, p, us, x1, R1, e1, hF, rs, A⟩ := A.lstP R r
    obtain ⟨ys, s2, q, ws, x2, R2, e2, hF2, rs2, A⟩ := A.lstP R1 (r'.ext x1)
    split at A
    · rename_i h
      have hl := RTs.length rs
      have hl2 := RTs.length rs2
      exact .inr (.inr (.inr ⟨p, q, us, ws, e1, e2, R1.fz _ _ hF, R2.fz _ _ hF2, by rw [← hl, ← hl2]; exact h, fun a ha => A.newL R2 ((rs.mono x2.F xs us).app rs2) a ha⟩))
    · exact after_bad A
/-! ### * -/
theorem op_mulAll : OpR X (binaryOp .Mult) (fun x y H Q => rI CMul (fun i j => .int (i * j)) x y H Q ∨ rRep x y H Q) := op_mul.or op_rep
theorem RTs.rep {F : Hp} {xs : List T} {us : List V} (h : RTs Γ F xs us) : ∀ n : Nat, RTs Γ F (List.replicate n xs).flatten (List.replicate n us).flatten
  | 0 => by simp [RTs]
  | n + 1 => by
    rw [List.replicate_succ, List.replicate_succ, List.flatten_cons, List.flatten_cons]
    exact h.app (RTs.rep h n)
theorem lk_mul : OpLk Γ .mul (fun x y H Q => rI CMul (fun i j => .int (i * j)) x y H Q ∨ rRep x y H Q) := by
  intro s H v w u u' Q E R r r' A
  change After Γ s (mulM v w s.hp) _ _ at A
  unfold mulM at A
  split at A
  · split at A
    · rename_i h
      exact .inl ⟨_, _, rv_int.mp r, rv_int.mp r', of_decide_eq_true h, After.ok R A _ (rv_int.mpr rfl)⟩
    · exact after_bad A
  · rename_i k _
    obtain ⟨xs, s1, p, us, x1, R1, e1, hF, rs, A⟩ := A.lstP R r
    split at A
    · rename_i h
      simp only [Bool.and_eq_true, decide_eq_true_eq] at h
      have hl := RTs.length rs
      exact .inr ⟨p, k, us, e1, rv_int.mp r', R1.fz _ _ hF, h.1.1, h.1.2, by rw [← hl]; exact h.2, fun a ha => A.newL R1 (rs.rep _) a ha⟩
    · exact after_bad A
  · exact after_bad A

/-! ### is None, is True -/
theorem rt_not_non {F : Hp} {x : T} (h : RT Γ F x .non) : x = .non := by
  cases x with
  | non => rfl
  | bl b => rw [rt_bl] at h; cases h
  | int b => rw [rt_int] at h; cases h
  | str b => rw [rt_str] at h; cases h
  | tup b => obtain ⟨_, _, e, _⟩ := rt_tup.mp h; cases e
  | lst b => obtain ⟨_, _, e, _⟩ := rt_lst.mp h; cases e
  | dct b => simp only [RT] at h; obtain ⟨_, _, e, _⟩ := h; cases e
  | ins c b => simp only [RT] at h; obtain ⟨_, _, _, e, _⟩ := h; cases e
  | scr b => simp only [RT] at h; obtain ⟨_, e, _⟩ := h; cases e
  | fn b => simp only [RT] at h

theorem sc_isN {x0 : Expr} {j : Nat} {p' : Pos} {a : E} (ha : SE Γ X x0 (evE C a)) : SC Γ X (.Compare x0 [.Is] [.Constant .none j p'] pos) (evE C (.op .isN [a])) := by
  intro W tk
  refine ⟨_, _, _, _, _, _, pos, rfl, OpR.s op_isN, ha W tk, pe_non, nomark _, ?_⟩
  rintro σ H Q ⟨loc, s, R, L, A⟩
  rw [evE_op1] at A
  refine ⟨loc, s, R, L, A.bind.imp (fun v s1 H1 x1 R1 A1 u r => ?_) (fun _ _ _ _ _ q => q)⟩
  refine ⟨rfl, ?_⟩
  have A1 : After Γ s1 ((match v with | .t .non => bl true | _ => bl false) s1.hp) _ _ := A1
  split at A1
  · rw [rv_non.mp r]
    exact After.ok R1 A1 _ (rv_bl.mpr rfl)
  · rename_i hv
    have hu : u ≠ .non := by
      rintro rfl
      cases v with
      | ref n => obtain ⟨_, _, e⟩ := r; cases e
      | t x =>
        have e := rt_not_non r
        subst e
        exact hv rfl
    rw [decide_eq_false hu]
    exact After.ok R1 A1 _ (rv_bl.mpr rfl)
theorem sc_isnN {x0 : Expr} {j : Nat} {p' : Pos} {a : E} (ha : SE Γ X x0 (evE C a)) : SC Γ X (.Compare x0 [.IsNot] [.Constant .none j p'] pos) (evE C (.op .isnN [a])) := by
  intro W tk
  refine ⟨_, _, _, _, _, _, pos, rfl, OpR.s op_notN, ha W tk, pe_non, nomark _, ?_⟩
  rintro σ H Q ⟨loc, s, R, L, A⟩
  rw [evE_op1] at A
  refine ⟨loc, s, R, L, A.bind.imp (fun v s1 H1 x1 R1 A1 u r => ?_) (fun _ _ _ _ _ q => q)⟩
  refine ⟨rfl, ?_⟩
  have A1 : After Γ s1 ((match v with | .t .non => bl false | _ => bl true) s1.hp) _ _ := A1
  split at A1
  · rw [rv_non.mp r]
    exact After.ok R1 A1 _ (rv_bl.mpr rfl)
  · rename_i hv
    have hu : u ≠ .non := by
      rintro rfl
      cases v with
      | ref n => obtain ⟨_, _, e⟩ := r; cases e
      | t x =>
        have e := rt_not_non r
        subst e
        exact hv rfl
    rw [decide_eq_false hu]
    exact After.ok R1 A1 _ (rv_bl.mpr rfl)
theorem sc_isB {c : Bool} {x0 : Expr} {j : Nat} {p' : Pos} {a : E} (ha : SE Γ X x0 (evE C a)) : SC Γ X (.Compare x0 [.Is] [.Constant (.bool c) j p'] pos) (evE C (.op (.isB c) [a])) := by
  intro W tk
  refine ⟨_, _, _, _, _, _, pos, rfl, OpR.s op_isBl, ha W tk, pe_bl, nomark _, ?_⟩
  rintro σ H Q ⟨loc, s, R, L, A⟩
  rw [evE_op1] at A
  refine ⟨loc, s, R, L, A.bind.imp (fun v s1 H1 x1 R1 A1 u r => ?_) (fun _ _ _ _ _ q => q)⟩
  have A1 : After Γ s1 (MH.bind (blV v) (fun b => bl (decide (b = c))) s1.hp) _ _ := A1
  obtain ⟨b, _, e, A1⟩ := A1.blV r
  exact ⟨b, c, e, rfl, After.ok R1 A1 _ (rv_bl.mpr rfl)⟩
theorem sc_isnB {c : Bool} {x0 : Expr} {j : Nat} {p' : Pos} {a : E} (ha : SE Γ X x0 (evE C a)) : SC Γ X (.Compare x0 [.IsNot] [.Constant (.bool c) j p'] pos) (evE C (.op (.isnB c) [a])) := by
  intro W tk
  refine ⟨_, _, _, _, _, _, pos, rfl, OpR.s op_notBl, ha W tk, pe_bl, nomark _, ?_⟩
  rintro σ H Q ⟨loc, s, R, L, A⟩
  rw [evE_op1] at A
  refine ⟨loc, s, R, L, A.bind.imp (fun v s1 H1 x1 R1 A1 u r => ?_) (fun _ _ _ _ _ q => q)⟩
  have A1 : After Γ s1 (MH.bind (blV v) (fun b => bl (!decide (b = c))) s1.hp) _ _ := A1
  obtain ⟨b, _, e, A1⟩ := A1.blV r
  exact ⟨b, c, e, rfl, After.ok R1 A1 _ (rv_bl.mpr rfl)⟩

/-! ### o[i] -/
theorem atI_map {α β : Type} {R : α → β → Prop} {xs : List α} {ys : List β} (h : Paired R xs ys) {i : Int} {x : α} (e : atI xs i = some x) : ∃ y, atI ys i = some y ∧ R x y := by
  unfold atI at e ⊢
  rw [← Paired.len h]
  cases k : ixN xs.length i with
  | none => rw [k] at e; cases e
  | some j =>
    rw [k] at e
    exact Paired.get1 h e
theorem lk_idx : OpLk Γ .idx (rIx Γ.K) := by
  intro s H v w u u' Q E R r r' A
  change After Γ s (idxM v w s.hp) _ _ at A
  unfold idxM at A
  split at A
  · rename_i z i
    split at A
    · rename_i hz
      cases hc : atI z.cps.toList i with
      | none => rw [hc] at A; exact after_bad A
      | some c =>
        rw [hc] at A
        exact .inr (.inr ⟨z, i, c, rv_str.mp r, rv_int.mp r', hz, hc, After.ok R A _ (rv_str.mpr rfl)⟩)
    · exact after_bad A
  · rename_i i _
    obtain ⟨vs, p, us, e, q, rs, A⟩ := A.seqV R r
    cases hx : atI vs i with
    | none => rw [hx] at A; exact after_bad A
    | some x =>
      rw [hx] at A
      obtain ⟨y, hy, ry⟩ := atI_map rs hx
      have fin : Q y H := A s H rfl (Ext.refl s) R y (nrm_ok R ry)
      rcases q with q | q
      · exact .inl ⟨p, us, i, y, e, rv_int.mp r', q, hy, fin⟩
      · exact .inr (.inl ⟨p, us, i, y, e, rv_int.mp r', q, hy, fin⟩)
  · exact after_bad A
end
end MS

set_option Elab.async false
set_option linter.all false
set_option maxRecDepth 100000
/-! MSG: calls of built-ins, dicts. -/
namespace MS
open PySem PySem.Spec PyProof.Rows L2
section
variable {Γ : Run} {X : Cx} {C : Cl} {pos p : Pos}
def CaLk (Γ : Run) (o : Op) (r : List V → Hp → VK → Prop) : Prop := ∀ (s : AS) (H : Hp) (vs : List Val) (us : List V) (Q : VK) (E : Ex → AS → Hp → Prop), Rel Γ s H → RVs Γ s.F s.ρ vs us →
  After Γ s (opM o vs s.hp) (fun x s' H' => ∀ z, RV Γ s'.F s'.ρ x z → Q z H') E → r us H Q
theorem te_call {o : Op} {r : List V → Hp → VK → Prop} {ms : List E} {W : WX} (lk : CaLk Γ o r) {σ : L2.St} {H : Hp} {Q : VK} (h : tE Γ (evE C (.op o ms)) W σ H Q) : tCB r (tA Γ (evEs C ms) W) σ H Q := by
  obtain ⟨loc, s, R, L, A⟩ := h
  simp only [evE] at A
  exact ⟨loc, s, R, L, A.bind.imp (fun v s1 H1 x1 R1 A1 u r => lk s1 H1 v u Q _ R1 r A1) (fun _ _ _ _ _ q => q)⟩
theorem se_callB {o : Op} {x : Str} {id : String} {r : List V → Hp → VK → Prop} {e : Expr} {es : List Expr} {ms : List E} (hc : CallR X (.builtin id) r) (lk : CaLk Γ o r) (hg : Gl X x) (hm : X.mg x = none) (hv : bootBuiltins x = some (.builtin id))
    (ha : SA Γ X (e :: es) (evEs C ms)) (hst : (e :: es).any stB = false) (hn : x ≠ "__name__" := by decide) (hd : (x == ("__debug__" : Str)) = false := by decide) : SE Γ X (.Call (.Name x p) (e :: es) [] pos) (evE C (.op o ms)) := by
  rw [List.any_cons, Bool.or_eq_false_iff] at hst
  exact fun W tk => PE.imp (pe_callB hc hg hm hv (ha W tk) hn hd (star_cons hst.1) (spl_plain hst.2)) fun _ _ _ h => te_call lk h
theorem se_callTy {o : Op} {x : Str} {id : String} {r : List V → Hp → VK → Prop} {e : Expr} {es : List Expr} {ms : List E} (hc : CallR X (.type id) r) (lk : CaLk Γ o r) (hg : Gl X x) (hm : X.mg x = none) (hv : bootBuiltins x = some (.type id))
    (ha : SA Γ X (e :: es) (evEs C ms)) (hst : (e :: es).any stB = false) (hn : x ≠ "__name__" := by decide) (hd : (x == ("__debug__" : Str)) = false := by decide) : SE Γ X (.Call (.Name x p) (e :: es) [] pos) (evE C (.op o ms)) := by
  rw [List.any_cons, Bool.or_eq_false_iff] at hst
  exact fun W tk => PE.imp (pe_callTy hc hg hm hv (ha W tk) hn hd (star_cons hst.1) (spl_plain hst.2)) fun _ _ _ h => te_call lk h

/-- one argument -/
theorem lk_one {o : Op} {r : List V → Hp → VK → Prop} (hno : ∀ vs h, (∀ a, vs ≠ [a]) → opM o vs h = .bad)
    (h1 : ∀ (s : AS) (H : Hp) (a : Val) (u : V) (Q : VK) (E : Ex → AS → Hp → Prop), Rel Γ s H → RV Γ s.F s.ρ a u → After Γ s (opM o [a] s.hp) (fun x s' H' => ∀ z, RV Γ s'.F s'.ρ x z → Q z H') E → r [u] H Q) : CaLk Γ o r := by
  intro s H vs us Q E R rs A
  cases rs with
  | nil => rw [hno _ _ (by simp)] at A; exact A.elim
  | cons r1 t =>
    cases t with
    | nil => exact h1 s H _ _ Q E R r1 A
    | cons r2 t => rw [hno _ _ (by simp)] at A; exact A.elim
theorem lk_two {o : Op} {r : List V → Hp → VK → Prop} (hno : ∀ vs h, (∀ a b, vs ≠ [a, b]) → opM o vs h = .bad)
    (h1 : ∀ (s : AS) (H : Hp) (a b : Val) (u w : V) (Q : VK) (E : Ex → AS → Hp → Prop), Rel Γ s H → RV Γ s.F s.ρ a u → RV Γ s.F s.ρ b w → After Γ s (opM o [a, b] s.hp) (fun x s' H' => ∀ z, RV Γ s'.F s'.ρ x z → Q z H') E → r [u, w] H Q) : CaLk Γ o r := by
  intro s H vs us Q E R rs A
  cases rs with
  | nil => rw [hno _ _ (by simp)] at A; exact A.elim
  | cons r1 t =>
    cases t with
    | nil => rw [hno _ _ (by simp)] at A; exact A.elim
    | cons r2 t =>
      cases t with
      | nil => exact h1 s H _ _ _ _ Q E R r1 r2 A
      | cons r3 t => rw [hno _ _ (by simp)] at A; exact A.elim
theorem no_one {o : Op} (h0 : opM o [] = bad) (h2 : ∀ a b vs, opM o (a :: b :: vs) = bad) : ∀ vs h, (∀ a, vs ≠ [a]) → opM o vs h = .bad := by
  intro vs h hv
  match vs with
  | [] => rw [h0]; rfl
  | [a] => exact absurd rfl (hv a)
  | a :: b :: vs => rw [h2]; rfl
theorem no_two {o : Op} (h0 : opM o [] = bad) (h1 : ∀ a, opM o [a] = bad) (h2 : ∀ a b c vs, opM o (a :: b :: c :: vs) = bad) : ∀ vs h, (∀ a b, vs ≠ [a, b]) → opM o vs h = .bad := by
  intro vs h hv
  match vs with
  | [] => rw [h0]; rfl
  | [a] => rw [h1]; rfl
  | [a, b] => exact absurd rfl (hv a b)
  | a :: b :: c :: vs => rw [h2]; rfl

theorem lk_len : CaLk Γ .len (fun xs H Q => ∃ x n, xs = [x] ∧ LenV Γ.K x H n ∧ Q (.int n) H) := by
  refine lk_one (no_one rfl fun _ _ _ => rfl) fun s H a u Q E R r A => ?_
  change After Γ s (lenM a s.hp) _ _ at A
  unfold lenM at A
  split at A
  · split at A
    · rename_i h
      have e := rv_str.mp r
      subst e
      exact ⟨_, _, rfl, ⟨h, rfl⟩, After.ok R A _ (rv_int.mpr rfl)⟩
    · exact after_bad A
  · obtain ⟨vs, p, us, e, q, rs, A⟩ := A.seqV R r
    subst e
    have hl := Paired.len rs
    refine ⟨_, us.length, rfl, ?_, by rw [← hl]; exact After.ok R A _ (rv_int.mpr rfl)⟩
    rcases q with q | q
    · exact .inl ⟨us, q, rfl⟩
    · exact .inr ⟨us, q, rfl⟩
theorem lk_abs : CaLk Γ .abs (fun xs H Q => ∃ i, xs = [.int i] ∧ Q (.int (if i < 0 then -i else i)) H) := by
  refine lk_one (no_one rfl fun _ _ _ => rfl) fun s H a u Q E R r A => ?_
  have A : After Γ s (MH.bind (intV a) (fun i => int (if i < 0 then -i else i)) s.hp) _ _ := A
  obtain ⟨i, _, e, A⟩ := A.intV r
  subst e
  exact ⟨i, rfl, After.ok R A _ (rv_int.mpr rfl)⟩
theorem lk_int1 : CaLk Γ .int1 (fun xs H Q => (∃ i, xs = [.int i] ∧ Q (.int i) H) ∨ ∃ k, xs = [.bl k] ∧ Q (.int (if k then 1 else 0)) H) := by
  refine lk_one (no_one rfl fun _ _ _ => rfl) fun s H a u Q E R r A => ?_
  change After Γ s ((match a with | .t (.int i) => int i | .t (.bl b) => int (if b then 1 else 0) | _ => bad) s.hp) _ _ at A
  split at A
  · exact .inl ⟨_, by rw [rv_int.mp r], After.ok R A _ (rv_int.mpr rfl)⟩
  · exact .inr ⟨_, by rw [rv_bl.mp r], After.ok R A _ (rv_int.mpr rfl)⟩
  · exact after_bad A
theorem lk_str1 : CaLk Γ .str1 (fun xs H Q => ∃ i : Int, xs = [.int i] ∧ i.natAbs.log2 < 1920 ∧ Q (.str (Str.ofString (toString i))) H) := by
  refine lk_one (no_one rfl fun _ _ _ => rfl) fun s H a u Q E R r A => ?_
  have A : After Γ s (MH.bind (intV a) (fun i => if i.natAbs.log2 < 1920 then str (Str.ofString (toString i)) else bad) s.hp) _ _ := A
  obtain ⟨i, _, e, A⟩ := A.intV r
  subst e
  split at A
  · rename_i h
    exact ⟨i, rfl, h, After.ok R A _ (rv_str.mpr rfl)⟩
  · exact after_bad A
theorem lk_list {m : Bool} : CaLk Γ (.list m) (fun xs H Q => ∃ p ys, xs = [.ref p] ∧ (SqL Γ.K H p ys ∨ SqT Γ.K H p ys) ∧ ∀ l, H l = none → Q (.ref l) (upd H l (.lst ys))) := by
  refine lk_one (no_one rfl fun _ _ _ => rfl) fun s H a u Q E R r A => ?_
  have A : After Γ s (MH.bind (seqV a) (fun xs => keep m xs) s.hp) _ _ := A
  obtain ⟨vs, p, us, e, q, rs, A⟩ := A.seqV R r
  subst e
  exact ⟨p, us, rfl, q, fun l hl => A.keep R rs l hl⟩
/-- tuple(x), the new tuple's object known -/
def rTupF (K : PySem.W.Frag) : List V → Hp → VK → Prop := fun xs H Q => ∃ p ys, xs = [.ref p] ∧ ((SqL K H p ys ∧ ∀ (l : Addr) (o : Obj), H l = none → o.dict = none → Q (.ref l) (upd H l (.frz o (.tup ys)))) ∨ (SqT K H p ys ∧ Q (.ref p) H))
theorem call_tupleF : CallR X (.type "tuple") (rTupF X.K) := by
  intro pins s σ H xs us Q I r h
  obtain ⟨p, ys, rfl, h⟩ := h
  obtain ⟨u, rfl, rx⟩ := vals1 r
  cases rx
  rcases h with ⟨hq, q⟩ | ⟨hq, q⟩
  · obtain ⟨its, r', pl, hz⟩ := I.list hq
    have hlen := r'.length
    refine call_tuple_list pl.isList (fun h' kp => ?_) (by simp only [List.size_toArray] <;> omega)
    have I1 : Inv X pins σ H { s with heap := h' } := I.kept (t' := s.toks) kp
    exact laid_tup I1 r' hz q
  · obtain ⟨its, r', pl, hz⟩ := I.tuple hq
    exact call_tuple_same pl ⟨.ref p, H, I, rfl, q⟩
theorem lk_tuple : CaLk Γ .tuple (rTupF Γ.K) := by
  refine lk_one (no_one rfl fun _ _ _ => rfl) fun s H a u Q E R r A => ?_
  change After Γ s ((match a with | .t (.tup xs) => MH.pure (Val.t (T.tup xs)) | a => MH.bind (lstP a) fun xs => MH.pure (Val.t (T.tup xs))) s.hp) _ _ at A
  split at A
  · obtain ⟨a, us, e1, t1, rs1⟩ := rt_tup.mp r
    subst e1
    exact ⟨a, us, rfl, .inr ⟨(R.fz.tupF t1).sqT, After.ok R A _ r⟩⟩
  · obtain ⟨xs, s1, p, us, x1, R1, e1, hF, rs, A⟩ := A.lstP R r
    subst e1
    exact ⟨p, us, rfl, .inl ⟨SqL.of (R1.fz _ _ hF), fun l o hl ho => After.newT R1 rs ho A l hl⟩⟩
theorem lk_max2 : CaLk Γ .max2 (fun xs H Q => ∃ i j, xs = [.int i, .int j] ∧ Q (.int (if j > i then j else i)) H) := by
  refine lk_two (no_two rfl (fun _ => rfl) fun _ _ _ _ => rfl) fun s H a b u w Q E R r r' A => ?_
  have A : After Γ s (MH.bind (intV a) (fun i => MH.bind (intV b) fun j => int (if j > i then j else i)) s.hp) _ _ := A
  obtain ⟨i, _, e, A⟩ := A.intV r
  obtain ⟨j, _, e', A⟩ := A.intV r'
  subst e e'
  exact ⟨i, j, rfl, After.ok R A _ (rv_int.mpr rfl)⟩
theorem lk_min2 : CaLk Γ .min2 (fun xs H Q => ∃ i j, xs = [.int i, .int j] ∧ Q (.int (if j < i then j else i)) H) := by
  refine lk_two (no_two rfl (fun _ => rfl) fun _ _ _ _ => rfl) fun s H a b u w Q E R r r' A => ?_
  have A : After Γ s (MH.bind (intV a) (fun i => MH.bind (intV b) fun j => int (if j < i then j else i)) s.hp) _ _ := A
  obtain ⟨i, _, e, A⟩ := A.intV r
  obtain ⟨j, _, e', A⟩ := A.intV r'
  subst e e'
  exact ⟨i, j, rfl, After.ok R A _ (rv_int.mpr rfl)⟩
theorem After.blsV {β : Type} {s : AS} {Q : β → AS → Hp → Prop} {E' : Ex → AS → Hp → Prop} : ∀ {xs : List T} {us : List V} {f : List Bool → MH β}, RTs Γ s.F xs us → After Γ s (MH.bind (MS.blsV (xs.map .t)) f s.hp) Q E' → ∃ bs, us = bs.map V.bl ∧ After Γ s (f bs s.hp) Q E'
  | [], us, f, rs, A => by
    simp only [RTs] at rs
    exact ⟨[], rs, A⟩
  | x :: xs, us, f, rs, A => by
    simp only [RTs] at rs
    obtain ⟨v, r, e, rv, rt⟩ := rs
    have A : After Γ s (MH.bind (MH.bind (MS.blV (.t x)) fun b => MH.bind (MS.blsV (xs.map .t)) fun bs => MH.pure (b :: bs)) f s.hp) Q E' := A
    rw [MH.bind_assoc] at A
    obtain ⟨b, _, e1, A⟩ := A.blV (u := v) (show RV Γ s.F s.ρ (.t x) v from rv)
    rw [MH.bind_assoc] at A
    obtain ⟨bs, e2, A⟩ := After.blsV rt A
    exact ⟨b :: bs, by rw [e, e1, e2]; rfl, A⟩
theorem After.intsV {β : Type} {s : AS} {Q : β → AS → Hp → Prop} {E' : Ex → AS → Hp → Prop} : ∀ {xs : List T} {us : List V} {f : List Int → MH β}, RTs Γ s.F xs us → After Γ s (MH.bind (MS.intsV (xs.map .t)) f s.hp) Q E' → ∃ bs, us = bs.map V.int ∧ After Γ s (f bs s.hp) Q E'
  | [], us, f, rs, A => by
    simp only [RTs] at rs
    exact ⟨[], rs, A⟩
  | x :: xs, us, f, rs, A => by
    simp only [RTs] at rs
    obtain ⟨v, r, e, rv, rt⟩ := rs
    have A : After Γ s (MH.bind (MH.bind (MS.intV (.t x)) fun b => MH.bind (MS.intsV (xs.map .t)) fun bs => MH.pure (b :: bs)) f s.hp) Q E' := A
    rw [MH.bind_assoc] at A
    obtain ⟨b, _, e1, A⟩ := A.intV (u := v) (show RV Γ s.F s.ρ (.t x) v from rv)
    rw [MH.bind_assoc] at A
    obtain ⟨bs, e2, A⟩ := After.intsV rt A
    exact ⟨b :: bs, by rw [e, e1, e2]; rfl, A⟩
theorem lk_any : CaLk Γ .any (rAny Γ.K) := by
  refine lk_one (no_one rfl fun _ _ _ => rfl) fun s H a u Q E R r A => ?_
  have A : After Γ s (MH.bind (lstP a) (fun xs => MH.bind (blsV (xs.map .t)) fun bs => bl (bs.any id)) s.hp) _ _ := A
  obtain ⟨xs, s1, p, us, x1, R1, e1, hF, rs, A⟩ := A.lstP R r
  obtain ⟨bs, e2, A⟩ := After.blsV rs A
  subst e1 e2
  exact ⟨p, bs, rfl, SqL.of (R1.fz _ _ hF), After.ok R1 A _ (rv_bl.mpr rfl)⟩
theorem lk_all : CaLk Γ .all (rAll Γ.K) := by
  refine lk_one (no_one rfl fun _ _ _ => rfl) fun s H a u Q E R r A => ?_
  have A : After Γ s (MH.bind (lstP a) (fun xs => MH.bind (blsV (xs.map .t)) fun bs => bl (bs.all id)) s.hp) _ _ := A
  obtain ⟨xs, s1, p, us, x1, R1, e1, hF, rs, A⟩ := A.lstP R r
  obtain ⟨bs, e2, A⟩ := After.blsV rs A
  subst e1 e2
  exact ⟨p, bs, rfl, SqL.of (R1.fz _ _ hF), After.ok R1 A _ (rv_bl.mpr rfl)⟩
theorem lk_sum : CaLk Γ .sum (rSum Γ.K) := by
  refine lk_one (no_one rfl fun _ _ _ => rfl) fun s H a u Q E R r A => ?_
  have A : After Γ s (MH.bind (lstP a) (fun xs => MH.bind (intsV (xs.map .t)) fun bs => int bs.sum) s.hp) _ _ := A
  obtain ⟨xs, s1, p, us, x1, R1, e1, hF, rs, A⟩ := A.lstP R r
  obtain ⟨bs, e2, A⟩ := After.intsV rs A
  subst e1 e2
  exact ⟨p, bs, rfl, SqL.of (R1.fz _ _ hF), After.ok R1 A _ (rv_int.mpr rfl)⟩
end
end MS

set_option Elab.async false
set_option linter.all false
set_option maxRecDepth 100000
/-! MSH: data; methods of lists and tuples. -/
namespace MS
open PySem PySem.Spec PyProof.Rows L2
section
variable {Γ : Run} {X : Cx} {C : Cl} {pos p : Pos}
/-! ### data -/
mutual
theorem dp_of {F H : Hp} (le : Le F H) : ∀ (x : T) (u : V) (d : PyData), RT Γ F x u → x.toD = some d → Dp Γ.K H u d
  | .non, u, d, r, e => by rw [rt_non] at r; subst r; simp only [T.toD] at e; cases e; exact .non
  | .bl b, u, d, r, e => by rw [rt_bl] at r; subst r; simp only [T.toD] at e; cases e; exact .bl b
  | .int b, u, d, r, e => by rw [rt_int] at r; subst r; simp only [T.toD] at e; cases e; exact .int b
  | .str b, u, d, r, e => by rw [rt_str] at r; subst r; simp only [T.toD] at e; cases e; exact .str b
  | .tup xs, u, d, r, e => by
    obtain ⟨a, us, rfl, t, rs⟩ := rt_tup.mp r
    simp only [T.toD] at e
    obtain ⟨ds, e1, rfl⟩ := Option.map_eq_some_iff.mp e
    exact .tup (le.tupF t).sqT (dps_of le xs us ds rs e1)
  | .lst xs, u, d, r, e => by
    obtain ⟨a, us, rfl, t, rs⟩ := rt_lst.mp r
    simp only [T.toD] at e
    obtain ⟨ds, e1, rfl⟩ := Option.map_eq_some_iff.mp e
    exact .lst (SqL.of (le _ _ t)) (dps_of le xs us ds rs e1)
  | .dct _, u, d, r, e => by simp only [T.toD] at e; cases e
  | .ins _ _, u, d, r, e => by simp only [T.toD] at e; cases e
  | .scr _, u, d, r, e => by simp only [T.toD] at e; cases e
  | .fn _, u, d, r, e => by simp only [T.toD] at e; cases e
theorem dps_of {F H : Hp} (le : Le F H) : ∀ (xs : List T) (us : List V) (ds : List PyData), RTs Γ F xs us → T.toDs xs = some ds → DpAll Γ.K H us ds
  | [], us, ds, r, e => by simp only [RTs] at r; simp only [T.toDs] at e; cases e; subst r; exact .nil
  | x :: xs, us, ds, r, e => by
    simp only [RTs] at r
    obtain ⟨v, r', rfl, a, b⟩ := r
    simp only [T.toDs] at e
    split at e
    · rename_i d ds' e1 e2
      cases e
      exact .cons (dp_of le x v d a e1) (dps_of le xs r' ds' b e2)
    · cases e
end
theorem data_of {F H : Hp} (le : Le F H) {x : T} {u : V} {d : PyData} (r : RT Γ F x u) (e : x.data = some d) : Dp Γ.K H u d ∧ SeqAt.shaped d = true := by
  unfold T.data at e
  split at e
  · rename_i d' h
    split at e
    · rename_i hs
      cases e
      exact ⟨dp_of le x u _ r h, hs⟩
    · cases e
  · cases e
theorem snapL_dp {s : AS} {H : Hp} {f : Val → List Ob → Option T} (hf : ∀ v u x d, RV Γ s.F s.ρ v u → f v s.hp = some x → x.toD = some d → Dp Γ.K H u d) : ∀ (vs : List Val) (us : List V) (xs : List T) (ds : List PyData), RVs Γ s.F s.ρ vs us → snapL f vs s.hp = some xs → T.toDs xs = some ds → DpAll Γ.K H us ds
  | [], us, xs, ds, r, e, q => by
    cases r
    simp only [snapL] at e
    cases e
    simp only [T.toDs] at q
    cases q
    exact .nil
  | v :: vs, us, xs, ds, r, e, q => by
    cases r with
    | cons r t =>
      simp only [snapL] at e
      split at e
      · rename_i y ys e1 e2
        cases e
        simp only [T.toDs] at q
        split at q
        · rename_i d ds' q1 q2
          cases q
          exact .cons (hf _ _ _ _ r e1 q1) (snapL_dp hf vs _ ys ds' t e2 q2)
        · cases q
      · cases e
theorem snap_dp {s : AS} {H : Hp} (R : Rel Γ s H) : ∀ (k : Nat) (v : Val) (u : V) (x : T) (d : PyData), RV Γ s.F s.ρ v u → snap k v s.hp = some x → x.toD = some d → Dp Γ.K H u d
  | 0, .t y, u, x, d, r, e, q => by simp only [snap] at e; cases e; exact dp_of R.fz _ u d r q
  | k + 1, .t y, u, x, d, r, e, q => by simp only [snap] at e; cases e; exact dp_of R.fz _ u d r q
  | 0, .ref n, u, x, d, r, e, q => by simp only [snap] at e; cases e
  | k + 1, .ref n, u, x, d, r, e, q => by
    obtain ⟨a, ea, rfl⟩ := r
    simp only [snap] at e
    split at e
    · rename_i y ec
      cases e
      obtain ⟨b, eb, c⟩ := R.cell n _ ec
      rw [ea] at eb; cases eb
      exact dp_of R.fz _ _ d c q
    · rename_i vs ec
      obtain ⟨ts, e1, rfl⟩ := Option.map_eq_some_iff.mp e
      obtain ⟨b, eb, c1, c2, us, c3, c4⟩ := R.cell n _ ec
      rw [ea] at eb; cases eb
      simp only [T.toD] at q
      obtain ⟨ds, q1, rfl⟩ := Option.map_eq_some_iff.mp q
      exact .lst (SqL.of c3) (snapL_dp (fun v u x d r e q => snap_dp R k v u x d r e q) vs us ts ds c4 e1 q1)
    · cases e
theorem After.dataOf {β : Type} {s : AS} {H : Hp} {Q : β → AS → Hp → Prop} {E' : Ex → AS → Hp → Prop} {v : Val} {u : V} {f : PyData → MH β} (R : Rel Γ s H) (r : RV Γ s.F s.ρ v u) (h : After Γ s (MH.bind (MS.dataOf v) f s.hp) Q E') :
    ∃ d, Dp Γ.K H u d ∧ SeqAt.shaped d = true ∧ After Γ s (f d s.hp) Q E' := by
  unfold MH.bind MS.dataOf at h
  cases e : (snap 8 v s.hp).bind T.data with
  | none => rw [e] at h; exact h.elim
  | some d =>
    rw [e] at h
    obtain ⟨x, e1, e2⟩ := Option.bind_eq_some_iff.mp e
    unfold T.data at e2
    split at e2
    · rename_i d' h1
      split at e2
      · rename_i hs
        cases e2
        exact ⟨_, snap_dp R 8 v u x _ r e1 h1, hs, h⟩
      · cases e2
    · cases e2

/-! ### count, index -/
def rCountD (K : PySem.W.Frag) : V → List V → Hp → VK → Prop := fun x xs H Q => ∃ (a : Addr) (y : V) (d : PyData) (ds : List PyData), x = V.ref a ∧ xs = [y] ∧ Dp K H (V.ref a) (.list ds) ∧ Dp K H y d ∧
  SeqAt.shaped (.list ds) = true ∧ SeqAt.shaped d = true ∧ Q (.int ((ds.filter fun z => PyData.eqv z d).length : Nat)) H
theorem mt_countD (hu : X.A.units + 65 < cLine) : MtR X "list.count" (rCountD X.K) := by
  intro pins s σ H x xs v us Q I rx rxs h
  obtain ⟨a, y, d, ds, rfl, rfl, hl, hy, sl, sd, q⟩ := h
  cases rx
  cases rxs with
  | cons ry rt =>
    rename_i uy ut
    cases rt
    obtain ⟨bs, r1⟩ := Dp.reads I d y uy hy ry
    have hxs : PyData.canLayAll0 ds = true := SeqAt.canLay_of_shaped sl
    have hroom : X.A.units + 1 + min (PyData.depthAll ds) d.depth < cLine := room_in_shaped sd hu
    cases hl with
    | lst hs ha =>
      obtain ⟨its, rv, ⟨⟨cls, dd, data, sls⟩, n, ho, hc, hdn, hdt⟩, hlen⟩ := I.list hs
      simp only at hc hdt
      subst hc hdt
      obtain ⟨as, h4⟩ := Dp.readsAll I ds _ its ha rv
      have hmap : its.map (SeqAt.readOf s.heap) = ds := SeqAt.readsAll_map ds its as hxs h4
      refine call_meets PySem.F.slot_list_count ⟨_, ho, rfl⟩ PySem.F.entry_list_count (PySem.F.args_list_count_2 _ _)
        (SeqAt.list_countAt a its.toArray n dd sls uy (fun u => PyData.eqv (SeqAt.readOf s.heap u) d)) ⟨ho, SeqAt.items_eqAt (vs := its.toArray) (show ReadsAll s.heap its.toArray.toList ds as from h4) r1 hxs (SeqAt.canLay_of_shaped sd) hroom, ?_⟩
      have e : (its.toArray.toList.countP fun u => PyData.eqv (SeqAt.readOf s.heap u) d) = (ds.filter fun z => PyData.eqv z d).length := by
        rw [← hmap, ← List.countP_eq_length_filter, List.countP_map]
        rfl
      rw [e]
      exact ⟨.int _, H, I.tok _, ⟨_, rfl⟩, q⟩
def rCountT (K : PySem.W.Frag) : V → List V → Hp → VK → Prop := fun x xs H Q => ∃ (a : Addr) (y : V) (d : PyData) (ds : List PyData), x = V.ref a ∧ xs = [y] ∧ Dp K H (V.ref a) (.tuple ds) ∧ Dp K H y d ∧
  SeqAt.shaped (.tuple ds) = true ∧ SeqAt.shaped d = true ∧ Q (.int ((ds.filter fun z => PyData.eqv z d).length : Nat)) H
theorem mt_countT (hu : X.A.units + 65 < cLine) : MtR X "tuple.count" (rCountT X.K) := by
  intro pins s σ H x xs v us Q I rx rxs h
  obtain ⟨a, y, d, ds, rfl, rfl, hl, hy, sl, sd, q⟩ := h
  cases rx
  cases rxs with
  | cons ry rt =>
    rename_i uy ut
    cases rt
    obtain ⟨bs, r1⟩ := Dp.reads I d y uy hy ry
    have hxs : PyData.canLayAll0 ds = true := SeqAt.canLay_of_shaped sl
    have hroom : X.A.units + 1 + min (PyData.depthAll ds) d.depth < cLine := room_in_shaped (xs := ds) sd hu
    cases hl with
    | tup hs ha =>
      obtain ⟨its, rv, ⟨⟨cls, dd, data, sls⟩, ho, hc, n, hdt⟩, hlen⟩ := I.tuple hs
      simp only at hc hdt
      subst hc hdt
      obtain ⟨as, h4⟩ := Dp.readsAll I ds _ its ha rv
      have hmap : its.map (SeqAt.readOf s.heap) = ds := SeqAt.readsAll_map ds its as hxs h4
      refine call_meets PySem.F.slot_tuple_count ⟨_, ho, rfl⟩ PySem.F.entry_tuple_count (PySem.F.args_tuple_count_2 _ _)
        (SeqAt.tuple_countAt a its.toArray n dd sls uy (fun u => PyData.eqv (SeqAt.readOf s.heap u) d)) ⟨ho, SeqAt.items_eqAt (vs := its.toArray) (show ReadsAll s.heap its.toArray.toList ds as from h4) r1 hxs (SeqAt.canLay_of_shaped sd) hroom, ?_⟩
      have e : (its.toArray.toList.countP fun u => PyData.eqv (SeqAt.readOf s.heap u) d) = (ds.filter fun z => PyData.eqv z d).length := by
        rw [← hmap, ← List.countP_eq_length_filter, List.countP_map]
        rfl
      rw [e]
      exact ⟨.int _, H, I.tok _, ⟨_, rfl⟩, q⟩
def rIndexT (K : PySem.W.Frag) : V → List V → Hp → VK → Prop := fun x xs H Q => ∃ (a : Addr) (y : V) (d : PyData) (ds : List PyData) (j : Nat) (z : PyData), x = V.ref a ∧ xs = [y] ∧ Dp K H (V.ref a) (.tuple ds) ∧ Dp K H y d ∧
  SeqAt.shaped (.tuple ds) = true ∧ SeqAt.shaped d = true ∧ ds[j]? = some z ∧ PyData.eqv z d = true ∧ (∀ (m : Nat) (z' : PyData), m < j → ds[m]? = some z' → PyData.eqv z' d = false) ∧ Q (.int (j : Nat)) H
theorem mt_indexT (hu : X.A.units + 65 < cLine) : MtR X "tuple.index" (rIndexT X.K) := by
  intro pins s σ H x xs v us Q I rx rxs h
  obtain ⟨a, y, d, ds, j, z, rfl, rfl, hl, hy, sl, sd, hz, hzj, hno, q⟩ := h
  cases rx
  cases rxs with
  | cons ry rt =>
    rename_i uy ut
    cases rt
    obtain ⟨bs, r1⟩ := Dp.reads I d y uy hy ry
    have hxs : PyData.canLayAll0 ds = true := SeqAt.canLay_of_shaped sl
    have hroom : X.A.units + 1 + min (PyData.depthAll ds) d.depth < cLine := room_in_shaped (xs := ds) sd hu
    cases hl with
    | tup hs ha =>
      obtain ⟨its, rv, ⟨⟨cls, dd, data, sls⟩, ho, hc, n, hdt⟩, hlen⟩ := I.tuple hs
      simp only at hc hdt
      subst hc hdt
      obtain ⟨as, h4⟩ := Dp.readsAll I ds _ its ha rv
      have hn : its.length = ds.length := SeqAt.ReadsAll.length ds its as h4
      have hmap : its.map (SeqAt.readOf s.heap) = ds := SeqAt.readsAll_map ds its as hxs h4
      obtain ⟨hjd, _⟩ := List.getElem?_eq_some_iff.mp hz
      have hjl : j < its.length := by omega
      have hj : j < its.toArray.size := by simpa using hjl
      have at_ : ∀ (m : Nat) (hm : m < its.toArray.size) (z' : PyData), ds[m]? = some z' → SeqAt.readOf s.heap its.toArray[m] = z' := by
        intro m hm z' hz'
        have hml : m < its.length := by simpa using hm
        rw [← hmap, List.getElem?_map, List.getElem?_eq_getElem hml] at hz'
        have e1 : SeqAt.readOf s.heap its[m] = z' := Option.some.inj (show some (SeqAt.readOf s.heap its[m]) = some z' from hz')
        simpa using e1
      refine call_meets PySem.F.slot_tuple_index ⟨_, ho, rfl⟩ PySem.F.entry_tuple_index (PySem.F.args_tuple_index_2 _ _)
        (TI.tuple_indexAt a its.toArray n dd sls uy (fun u => PyData.eqv (SeqAt.readOf s.heap u) d) j hj ?_ ?_) ⟨ho, SeqAt.items_eqAt (vs := its.toArray) (show ReadsAll s.heap its.toArray.toList ds as from h4) r1 hxs (SeqAt.canLay_of_shaped sd) hroom, ?_⟩
      · show PyData.eqv (SeqAt.readOf s.heap its.toArray[j]) d = true
        rw [at_ j hj z hz]
        exact hzj
      · intro m hm hmj
        have hmd : m < ds.length := by
          have : its.toArray.size = its.length := List.size_toArray
          omega
        have hz' : ds[m]? = some ds[m] := List.getElem?_eq_getElem hmd
        show PyData.eqv (SeqAt.readOf s.heap its.toArray[m]) d = false
        rw [at_ m hm _ hz']
        exact hno m _ hmj hz'
      · exact ⟨.int (j : Nat), H, I.tok _, ⟨_, rfl⟩, q⟩
/-- o.m(..) of a tuple -/
def tBMt (K : PySem.W.Frag) (r : V → List V → Hp → VK → Prop) (to : TE) (t : TA) : TE := fun σ H Q => to σ H fun x H1 => (∃ p vs, x = .ref p ∧ TupF K H1 p vs) ∧ t σ H1 fun xs H2 => r x xs H2 Q
theorem pe_bmT {name : Str} {id : String} {r : V → List V → Hp → VK → Prop} {o e : Expr} {es : List Expr} {to : TE} {t : TA} {apos cpos : Pos} (slot : Slot "tuple" name id) (hty : typeOf (.builtin id) = pure (.type "method_descriptor")) (hm : MtR X id r) (ho : PE X o to) (ha : PA X (e :: es) t)
    (hbase : attributeBase o name X.env (eval o X.env) = eval o X.env)
    (hfew : ((backTo cpos (starEach (e :: es) X.env)).all (fun x => !x.1) && (backToKw cpos (keywordEach [] X.env)).all (fun x => x.1.isSome)
      && decide ((e :: es).length + ([] : List Keyword).length + (if ([] : List Keyword).isEmpty then 0 else 1) < 30)) = true)
    (hline : (apos.endLine == cpos.line) = true) (hs : starEach (e :: es) X.env = (false, eval e X.env) :: starEach es X.env) (hplain : (backTo cpos (starEach es X.env)).any (·.1) = false) :
    PE X (.Call (.Attribute o name apos) (e :: es) [] cpos) (tBMt X.K r to t) := by
  refine ⟨fun pins s σ H Q I h => ?_⟩
  refine wpAny_Call_method_late hbase hfew hline rfl (thn (ho.run pins s σ H _ I h) fun v s1 ⟨x, H1, I1, r1, ⟨p, vs, ex, ty⟩, q1⟩ => ?_)
  subst ex
  cases r1
  have key : ∃ ob, s1.heap.get? p = some ob ∧ ob.cls = .type "tuple" ∧ ob.dict = none := by
    rcases ty with ⟨ob, hF, hd⟩ | ⟨ob, its, n, hk, hc, hd, _⟩
    · obtain ⟨e1, _, its, _, o', e2, c2, _⟩ := I1.hok _ _ hF
      rw [e1] at e2; cases e2
      exact ⟨ob, e1, c2, hd⟩
    · exact ⟨ob, I1.kIn p ob hk, hc, hd⟩
  obtain ⟨ob, e1, c1, d1⟩ := key
  refine ⟨"tuple", id, PySem.F.plainAttrs_tuple, slot, hty, ⟨ob, e1, c1⟩, fun a ea => ?_, ?_⟩
  · cases ea; exact ⟨ob, e1, d1⟩
  · have hA := ha.run cpos pins s1 σ H1 _ I1 q1
    rw [hs] at hA ⊢
    refine Calls.callWith_builtin (by show (false || (backTo cpos (starEach es X.env)).any (·.1)) = false; rw [hplain] <;> rfl) (Calls.evalArgs_plain ?_)
    exact thn hA fun us s2 ⟨vs, H2, I2, r2, q2⟩ => hm pins s2 σ H2 (.ref p) vs _ us Q I2 rfl r2 q2
end
end MS

set_option Elab.async false
set_option linter.all false
set_option maxRecDepth 100000
/-! MSI: methods, fields, displays, and, or, f-strings. -/
namespace MS
open PySem PySem.Spec PyProof.Rows L2
section
variable {Γ : Run} {X : Cx} {C : Cl} {pos p apos cpos : Pos}
theorem all_plain : ∀ {es : List Expr} {env : Env} {pos : Pos}, es.any stB = false → (backTo pos (starEach es env)).all (fun x => !x.1) = true
  | [], _, _, _ => rfl
  | e :: es, env, pos, h => by
    rw [List.any_cons, Bool.or_eq_false_iff] at h
    rw [star_cons h.1]
    show (!false && (backTo pos (starEach es env)).all (fun x => !x.1)) = true
    rw [all_plain h.2]
    rfl
theorem few_plain {es : List Expr} {env : Env} (h : es.any stB = false) (hl : es.length < 20) : ((backTo cpos (starEach es env)).all (fun x => !x.1) && (backToKw cpos (keywordEach [] env)).all (fun x => x.1.isSome)
      && decide (es.length + ([] : List Keyword).length + (if ([] : List Keyword).isEmpty then 0 else 1) < 30)) = true := by
  rw [all_plain h]
  have : (backToKw cpos (keywordEach [] env)).all (fun x => x.1.isSome) = true := rfl
  rw [this]
  simp
  omega
/-- a method of a list or a tuple: the rule's reading by values -/
def LmLk (Γ : Run) (o : Op) (r : V → List V → Hp → VK → Prop) : Prop := ∀ (s : AS) (H : Hp) (a : Val) (vs : List Val) (u : V) (us : List V) (Q : VK) (E : Ex → AS → Hp → Prop), Rel Γ s H → RV Γ s.F s.ρ a u → RVs Γ s.F s.ρ vs us →
  After Γ s (opM o (a :: vs) s.hp) (fun x s' H' => ∀ z, RV Γ s'.F s'.ρ x z → Q z H') E → r u us H Q
theorem ty_list {s : AS} {H : Hp} {tp : Bool} {a : Val} {u : V} {β : Type} {f : Unit → MH β} {Q : β → AS → Hp → Prop} {E : Ex → AS → Hp → Prop} (R : Rel Γ s H) (r : RV Γ s.F s.ρ a u) (h : After Γ s (MH.bind (isSeq tp a) f s.hp) Q E) :
    (tyV Γ.K "list" u H ∨ (tp = true ∧ ∃ xs, a = .t (.tup xs))) ∧ After Γ s (f () s.hp) Q E := by
  cases a with
  | t x =>
    cases x with
    | lst xs =>
      obtain ⟨q, us, rfl, hF, _⟩ := rt_lst.mp r
      exact ⟨.inl (.inl ⟨rfl, us, SqL.of (R.fz _ _ hF)⟩), h⟩
    | tup xs =>
      cases tp with
      | true => exact ⟨.inr ⟨rfl, xs, rfl⟩, h⟩
      | false => exact h.elim
    | _ => exact h.elim
  | ref n =>
    obtain ⟨b, eb, rfl⟩ := r
    unfold isSeq MH.bind at h
    dsimp only at h
    cases e : s.hp[n]? with
    | none => rw [e] at h; exact h.elim
    | some ob =>
      rw [e] at h
      obtain ⟨b', eb', c⟩ := R.cell n _ e
      rw [eb] at eb'; cases eb'
      cases ob with
      | lst vs =>
        obtain ⟨_, _, us, c3, _⟩ := c
        exact ⟨.inl (.inl ⟨rfl, us, SqL.of c3⟩), h⟩
      | frz x =>
        cases x with
        | lst xs =>
          obtain ⟨q, us, e1, hF, _⟩ := rt_lst.mp c
          cases e1
          exact ⟨.inl (.inl ⟨rfl, us, SqL.of (R.fz _ _ hF)⟩), h⟩
        | _ => exact h.elim
      | _ => exact h.elim
theorem evE_lm {o : Op} {l : E} {ms : List E} {loc : Loc} : evE C (.lm o l ms) loc = MH.bind (evE C l loc) fun a => MH.bind (isSeq o.tp a) fun _ => MH.bind (evEs C ms loc) fun vs => opM o (a :: vs) := by simp only [evE]
/-- of lists alone -/
theorem se_lmL {o : Op} {name : Str} {id : String} {r : V → List V → Hp → VK → Prop} {eo e : Expr} {es : List Expr} {l : E} {ms : List E} (ht : o.tp = false) (slot : Slot "list" name id) (hty : typeOf (.builtin id) = pure (.type "method_descriptor")) (hm : MtR X id r) (lk : LmLk Γ o r) (hK : X.K = Γ.K)
    (hl : SE Γ X eo (evE C l)) (ha : SA Γ X (e :: es) (evEs C ms)) (hb : abB eo = false) (hst : (e :: es).any stB = false) (hlen : (e :: es).length < 20) (hline : (apos.endLine == cpos.line) = true) : SE Γ X (.Call (.Attribute eo name apos) (e :: es) [] cpos) (evE C (.lm o l ms)) := by
  have h1 : stB e = false ∧ es.any stB = false := by rw [List.any_cons, Bool.or_eq_false_iff] at hst; exact hst
  intro W tk
  refine PE.imp (pe_bm PySem.F.plainAttrs_list slot hty hm (hl W tk) (ha W tk) (base_no hb) (few_plain hst hlen) hline (star_cons h1.1) (spl_plain h1.2)) ?_
  rintro σ H Q ⟨loc, s, R, L, A⟩
  rw [evE_lm] at A
  refine ⟨loc, s, R, L, A.bind.imp (fun a s1 H1 x1 R1 A1 u r => ?_) (fun _ _ _ _ _ q => q)⟩
  obtain ⟨ty, A2⟩ := ty_list R1 r A1
  rcases ty with ty | ⟨z, _⟩
  · refine ⟨by rw [hK]; exact ty, loc, s1, R1, L.ext x1, A2.bind.imp (fun vs s2 H2 x2 R2 A3 us rs => ?_) (fun _ _ _ _ _ q => q)⟩
    exact lk s2 H2 a vs u us Q _ R2 (r.ext x2) rs A3
  · rw [ht] at z; cases z
theorem se_lmL0 {o : Op} {name : Str} {id : String} {r : V → List V → Hp → VK → Prop} {eo : Expr} {l : E} (ht : o.tp = false) (slot : Slot "list" name id) (hty : typeOf (.builtin id) = pure (.type "method_descriptor")) (hm : MtR X id r) (lk : LmLk Γ o r) (hK : X.K = Γ.K)
    (hl : SE Γ X eo (evE C l)) (hb : abB eo = false) (hline : (apos.endLine == cpos.line) = true) : SE Γ X (.Call (.Attribute eo name apos) [] [] cpos) (evE C (.lm o l [])) := by
  intro W tk
  refine PE.imp (pe_bm0 PySem.F.plainAttrs_list slot hty hm (hl W tk) (base_no hb) hline) ?_
  rintro σ H Q ⟨loc, s, R, L, A⟩
  rw [evE_lm] at A
  refine ⟨loc, s, R, L, A.bind.imp (fun a s1 H1 x1 R1 A1 u r => ?_) (fun _ _ _ _ _ q => q)⟩
  obtain ⟨ty, A2⟩ := ty_list R1 r A1
  rcases ty with ty | ⟨z, _⟩
  · refine ⟨by rw [hK]; exact ty, ?_⟩
    simp only [evEs, pure_eq, MH.pure_bind] at A2
    exact lk s1 H1 a [] u [] Q _ R1 r .nil A2
  · rw [ht] at z; cases z
/-- of lists and tuples -/
theorem se_lmT {o : Op} {name : Str} {id id' : String} {r r' : V → List V → Hp → VK → Prop} {eo e : Expr} {es : List Expr} {l : E} {ms : List E} (slot : Slot "list" name id) (hty : typeOf (.builtin id) = pure (.type "method_descriptor")) (hm : MtR X id r)
    (slot' : Slot "tuple" name id') (hty' : typeOf (.builtin id') = pure (.type "method_descriptor")) (hm' : MtR X id' r') (hK : X.K = Γ.K)
    (lk : ∀ (s : AS) (H : Hp) (a : Val) (vs : List Val) (u : V) (us : List V) (Q : VK) (E : Ex → AS → Hp → Prop), Rel Γ s H → RV Γ s.F s.ρ a u → RVs Γ s.F s.ρ vs us → (∀ xs, a ≠ .t (.tup xs)) → After Γ s (opM o (a :: vs) s.hp) (fun x s' H' => ∀ z, RV Γ s'.F s'.ρ x z → Q z H') E → r u us H Q)
    (lk' : ∀ (s : AS) (H : Hp) (xs : List T) (vs : List Val) (u : V) (us : List V) (Q : VK) (E : Ex → AS → Hp → Prop), Rel Γ s H → RT Γ s.F (.tup xs) u → RVs Γ s.F s.ρ vs us → After Γ s (opM o (.t (.tup xs) :: vs) s.hp) (fun x s' H' => ∀ z, RV Γ s'.F s'.ρ x z → Q z H') E → r' u us H Q)
    (hl : SE Γ X eo (evE C l)) (ha : SA Γ X (e :: es) (evEs C ms)) (hb : abB eo = false) (hst : (e :: es).any stB = false) (hlen : (e :: es).length < 20) (hline : (apos.endLine == cpos.line) = true) : SE Γ X (.Call (.Attribute eo name apos) (e :: es) [] cpos) (evE C (.lm o l ms)) := by
  have h1 : stB e = false ∧ es.any stB = false := by rw [List.any_cons, Bool.or_eq_false_iff] at hst; exact hst
  intro W tk
  refine PE.imp (PE.or (pe_bm PySem.F.plainAttrs_list slot hty hm (hl W tk) (ha W tk) (base_no hb) (few_plain hst hlen) hline (star_cons h1.1) (spl_plain h1.2))
    (pe_bmT slot' hty' hm' (hl W tk) (ha W tk) (base_no hb) (few_plain hst hlen) hline (star_cons h1.1) (spl_plain h1.2))) ?_
  rintro σ H Q ⟨loc, s, R, L, A⟩
  rw [evE_lm] at A
  have A0 := A.bind
  by_cases ht : ∃ xs h1, evE C l loc s.hp = .ok (.t (.tup xs)) h1
  · obtain ⟨xs, h1, e1⟩ := ht
    refine .inr ⟨loc, s, R, L, ?_⟩
    rw [e1] at A0 ⊢
    intro s1 H1 eh x1 R1 u r
    have A1 := A0 s1 H1 eh x1 R1
    obtain ⟨ty, A2⟩ := ty_list (a := .t (.tup xs)) R1 r A1
    obtain ⟨q, us0, e2, t, rs0⟩ := rt_tup.mp r
    refine ⟨⟨q, us0, e2, by rw [hK]; exact R1.fz.tupF t⟩, loc, s1, R1, L.ext x1, A2.bind.imp (fun vs s2 H2 x2 R2 A3 us rs => ?_) (fun _ _ _ _ _ q => q)⟩
    exact lk' s2 H2 xs vs u us Q _ R2 (RT.mono x2.F _ _ r) rs A3
  · refine .inl ⟨loc, s, R, L, ?_⟩
    cases e1 : evE C l loc s.hp with
    | bad => rw [e1] at A0; exact A0
    | exc x h1 => rw [e1] at A0; exact A0
    | ok a h1 =>
      have nt : ∀ xs, a ≠ .t (.tup xs) := fun xs z => ht ⟨xs, h1, by rw [e1, z]⟩
      rw [e1] at A0
      intro s1 H1 eh x1 R1 u r
      have A1 := A0 s1 H1 eh x1 R1
      obtain ⟨ty, A2⟩ := ty_list R1 r A1
      rcases ty with ty | ⟨_, xs, z⟩
      · refine ⟨by rw [hK]; exact ty, loc, s1, R1, L.ext x1, A2.bind.imp (fun vs s2 H2 x2 R2 A3 us rs => ?_) (fun _ _ _ _ _ q => q)⟩
        exact lk s2 H2 a vs u us Q _ R2 (r.ext x2) rs nt A3
      · exact absurd z (nt xs)
/-! the methods -/
theorem lk_append : LmLk Γ .append rAppend := by
  intro s H a vs u us Q E R r rs A
  match vs, rs with
  | [v], .cons rv .nil =>
    rename_i w
    have A : After Γ s (MH.bind (cellV a) (fun q => if q.2.length < SL then MH.bind (put q.1 (.lst (q.2 ++ [v]))) (fun _ => MH.pure (Val.t T.non)) else bad) s.hp) _ _ := A
    obtain ⟨n, xs, q, ys, e1, e2, hρ, hc, f1, f2, hH, rx, A⟩ := A.cellV R r
    dsimp only at A
    split at A
    · rename_i hl
      obtain ⟨R1, x1⟩ := wr_cell (ob := .lst (xs ++ [v])) (o := .lst (ys ++ [w])) R hρ f1 f2 ⟨f1, f2, _, upd_same, Paired.app rx (.cons rv .nil)⟩
      refine ⟨q, ys, w, e2, rfl, hH, by rw [← Paired.len rx]; exact hl, ?_⟩
      exact A (s.wr n _) _ rfl x1 R1 _ (rv_non.mpr rfl)
    · exact after_bad A
  | [], _ => exact A.elim
  | _ :: _ :: _, _ => exact A.elim
theorem Paired.dropLast {α β : Type} {R : α → β → Prop} : ∀ {xs : List α} {ys : List β}, Paired R xs ys → Paired R xs.dropLast ys.dropLast
  | _, _, .nil => .nil
  | _, _, .cons _ .nil => .nil
  | _, _, .cons r (.cons r' t) => .cons r (Paired.dropLast (.cons r' t))
theorem lk_pop : LmLk Γ .pop rPop := by
  intro s H a vs u us Q E R r rs A
  match vs, rs with
  | [], .nil =>
    have A : After Γ s (MH.bind (cellV a) (fun q => match q.2[q.2.length - 1]? with | some y => MH.bind (put q.1 (.lst q.2.dropLast)) (fun _ => fun h => .ok (nrm y h) h) | none => bad) s.hp) _ _ := A
    obtain ⟨n, xs, q, ys, e1, e2, hρ, hc, f1, f2, hH, rx, A⟩ := A.cellV R r
    dsimp only at A
    cases hy : xs[xs.length - 1]? with
    | none => rw [hy] at A; exact A.elim
    | some y =>
      rw [hy] at A
      obtain ⟨w, hw, rw'⟩ := Paired.get1 rx hy
      obtain ⟨R1, x1⟩ := wr_cell (ob := .lst xs.dropLast) (o := .lst ys.dropLast) R hρ f1 f2 ⟨f1, f2, _, upd_same, Paired.dropLast rx⟩
      refine ⟨q, ys, w, e2, rfl, hH, by rw [← Paired.len rx]; exact hw, ?_⟩
      exact A (s.wr n _) _ rfl x1 R1 _ (nrm_ok R1 (rw'.ext x1))
  | _ :: _, _ => exact A.elim
theorem lk_clear : LmLk Γ .clear rClear := by
  intro s H a vs u us Q E R r rs A
  match vs, rs with
  | [], .nil =>
    have A : After Γ s (MH.bind (cellV a) (fun q => MH.bind (put q.1 (.lst [])) (fun _ => MH.pure (Val.t T.non))) s.hp) _ _ := A
    obtain ⟨n, xs, q, ys, e1, e2, hρ, hc, f1, f2, hH, rx, A⟩ := A.cellV R r
    obtain ⟨R1, x1⟩ := wr_cell (ob := .lst []) (o := .lst []) R hρ f1 f2 ⟨f1, f2, _, upd_same, .nil⟩
    exact ⟨q, ys, e2, rfl, hH, A (s.wr n _) _ rfl x1 R1 _ (rv_non.mpr rfl)⟩
  | _ :: _, _ => exact A.elim
/-- frozen data, then the rest -/
theorem After.seqDL {s : AS} {H : Hp} {a : Val} {u : V} {f : List PyData → MH Val} {Q : Val → AS → Hp → Prop} {E' : Ex → AS → Hp → Prop} (R : Rel Γ s H) (r : RV Γ s.F s.ρ a u) (nt : ∀ xs, a ≠ .t (.tup xs)) (h : After Γ s (MS.seqD a f s.hp) Q E') :
    ∃ ds s', Ext s s' ∧ Rel Γ s' H ∧ (∃ q, u = .ref q) ∧ Dp Γ.K H u (.list ds) ∧ SeqAt.shaped (.list ds) = true ∧ After Γ s' (f ds s'.hp) Q E' := by
  unfold MS.seqD at h
  split at h
  · exact absurd rfl (nt _)
  · obtain ⟨xs, s', p, us, x1, R1, e, hF, rs, A⟩ := h.lstP R r
    cases hd : (T.lst xs).data with
    | none => rw [hd] at A; exact A.elim
    | some d =>
      rw [hd] at A
      have dd := data_of (x := .lst xs) R1.fz (rt_lst.mpr ⟨p, us, e, hF, rs⟩) hd
      cases d with
      | list ds => exact ⟨ds, s', x1, R1, ⟨p, e⟩, dd.1, dd.2, A⟩
      | _ => exact A.elim
theorem After.seqDT {s : AS} {H : Hp} {xs : List T} {u : V} {f : List PyData → MH Val} {Q : Val → AS → Hp → Prop} {E' : Ex → AS → Hp → Prop} (R : Rel Γ s H) (r : RT Γ s.F (.tup xs) u) (h : After Γ s (MS.seqD (.t (.tup xs)) f s.hp) Q E') :
    ∃ ds, (∃ q, u = .ref q) ∧ Dp Γ.K H u (.tuple ds) ∧ SeqAt.shaped (.tuple ds) = true ∧ After Γ s (f ds s.hp) Q E' := by
  have h : After Γ s ((match (T.tup xs).data with | some (.tuple ds) => f ds | _ => bad) s.hp) Q E' := h
  cases hd : (T.tup xs).data with
  | none => rw [hd] at h; exact h.elim
  | some d =>
    rw [hd] at h
    have dd := data_of R.fz r hd
    obtain ⟨q, us, e, _⟩ := rt_tup.mp r
    cases d with
    | tuple ds => exact ⟨ds, ⟨q, e⟩, dd.1, dd.2, h⟩
    | _ => exact h.elim
theorem After.datP {s : AS} {H : Hp} {v : Val} {u : V} {f : PyData → MH Val} {Q : Val → AS → Hp → Prop} {E' : Ex → AS → Hp → Prop} (R : Rel Γ s H) (r : RV Γ s.F s.ρ v u) (h : After Γ s (MH.bind (MS.pur v) (fun x => match x.data with | some d => f d | none => bad) s.hp) Q E') :
    ∃ d s', Ext s s' ∧ Rel Γ s' H ∧ Dp Γ.K H u d ∧ SeqAt.shaped d = true ∧ After Γ s' (f d s'.hp) Q E' := by
  obtain ⟨x, s', x1, R1, rx, A⟩ := After.pur R r h
  cases hd : x.data with
  | none => rw [hd] at A; exact A.elim
  | some d =>
    rw [hd] at A
    have dd := data_of R1.fz rx hd
    exact ⟨d, s', x1, R1, dd.1, dd.2, A⟩
theorem lk_countL (s : AS) (H : Hp) (a : Val) (vs : List Val) (u : V) (us : List V) (Q : VK) (E : Ex → AS → Hp → Prop) (R : Rel Γ s H) (r : RV Γ s.F s.ρ a u) (rs : RVs Γ s.F s.ρ vs us) (nt : ∀ xs, a ≠ .t (.tup xs)) (A : After Γ s (opM .count (a :: vs) s.hp) (fun x s' H' => ∀ z, RV Γ s'.F s'.ρ x z → Q z H') E) : rCountD Γ.K u us H Q := by
  match vs, rs with
  | [v], .cons rv .nil =>
    rename_i w
    change After Γ s (seqD a (fun ds => MH.bind (MS.pur v) fun x => match x.data with | some d => int (ds.filter fun z => PyData.eqv z d).length | none => bad) s.hp) _ _ at A
    obtain ⟨ds, s1, x1, R1, ⟨q, e⟩, d1, h1, A⟩ := A.seqDL R r nt
    obtain ⟨d, s2, x2, R2, d2, h2, A⟩ := A.datP R1 (rv.ext x1)
    subst e
    exact ⟨q, w, d, ds, rfl, rfl, d1, d2, h1, h2, After.ok R2 A _ (rv_int.mpr rfl)⟩
  | [], _ => exact A.elim
  | _ :: _ :: _, _ => exact A.elim
theorem lk_countT (s : AS) (H : Hp) (xs : List T) (vs : List Val) (u : V) (us : List V) (Q : VK) (E : Ex → AS → Hp → Prop) (R : Rel Γ s H) (r : RT Γ s.F (.tup xs) u) (rs : RVs Γ s.F s.ρ vs us) (A : After Γ s (opM .count (.t (.tup xs) :: vs) s.hp) (fun x s' H' => ∀ z, RV Γ s'.F s'.ρ x z → Q z H') E) : rCountT Γ.K u us H Q := by
  match vs, rs with
  | [v], .cons rv .nil =>
    rename_i w
    change After Γ s (seqD (.t (.tup xs)) (fun ds => MH.bind (MS.pur v) fun x => match x.data with | some d => int (ds.filter fun z => PyData.eqv z d).length | none => bad) s.hp) _ _ at A
    obtain ⟨ds, ⟨q, e⟩, d1, h1, A⟩ := A.seqDT R r
    obtain ⟨d, s2, x2, R2, d2, h2, A⟩ := A.datP R rv
    subst e
    exact ⟨q, w, d, ds, rfl, rfl, d1, d2, h1, h2, After.ok R2 A _ (rv_int.mpr rfl)⟩
  | [], _ => exact A.elim
  | _ :: _ :: _, _ => exact A.elim
theorem find_facts {ds : List PyData} {d : PyData} {j : Nat} (h : (ds.findIdx? fun z => PyData.eqv z d) = some j) : ∃ z, ds[j]? = some z ∧ PyData.eqv z d = true ∧ (∀ (m : Nat) (z' : PyData), m < j → ds[m]? = some z' → PyData.eqv z' d = false) := by
  rw [List.findIdx?_eq_some_iff_getElem] at h
  obtain ⟨hj, h1, h2⟩ := h
  refine ⟨ds[j], List.getElem?_eq_getElem hj, h1, fun m z' hm e => ?_⟩
  have hml : m < ds.length := by omega
  rw [List.getElem?_eq_getElem hml] at e
  cases e
  have := h2 m hm
  simpa using this
theorem lk_indexT (s : AS) (H : Hp) (xs : List T) (vs : List Val) (u : V) (us : List V) (Q : VK) (E : Ex → AS → Hp → Prop) (R : Rel Γ s H) (r : RT Γ s.F (.tup xs) u) (rs : RVs Γ s.F s.ρ vs us) (A : After Γ s (opM .index (.t (.tup xs) :: vs) s.hp) (fun x s' H' => ∀ z, RV Γ s'.F s'.ρ x z → Q z H') E) : rIndexT Γ.K u us H Q := by
  match vs, rs with
  | [v], .cons rv .nil =>
    rename_i w
    change After Γ s (seqD (.t (.tup xs)) (fun ds => MH.bind (MS.pur v) fun x => match x.data with | some d => (match ds.findIdx? fun z => PyData.eqv z d with | some j => int (j : Nat) | none => bad) | none => bad) s.hp) _ _ at A
    obtain ⟨ds, ⟨q, e⟩, d1, h1, A⟩ := A.seqDT R r
    obtain ⟨d, s2, x2, R2, d2, h2, A⟩ := A.datP R rv
    subst e
    cases hj : ds.findIdx? fun z => PyData.eqv z d with
    | none => rw [hj] at A; exact A.elim
    | some j =>
      rw [hj] at A
      obtain ⟨z, hz, hz1, hz2⟩ := find_facts hj
      exact ⟨q, w, d, ds, j, z, rfl, rfl, d1, d2, h1, h2, hz, hz1, hz2, After.ok R2 A _ (rv_int.mpr rfl)⟩
  | [], _ => exact A.elim
  | _ :: _ :: _, _ => exact A.elim
end
end MS

set_option Elab.async false
set_option linter.all false
set_option maxRecDepth 100000
/-! MSJ: fields, dicts, slices, displays. -/
namespace MS
open PySem PySem.Spec PyProof.Rows L2
section
variable {Γ : Run} {X : Cx} {C : Cl} {pos p apos cpos : Pos}
theorem rt_dct {F : Hp} {xs : List (T × T)} {u : V} : RT Γ F (.dct xs) u ↔ ∃ p vs, u = .ref p ∧ F p = some (.dK vs) ∧ RTd Γ F xs vs := by simp only [RT]
theorem rt_ins {F : Hp} {c : Nat} {xs : List (Nat × T)} {u : V} : RT Γ F (.ins c xs) u ↔ ∃ p dx vs, u = .ref p ∧ F p = some (.ins (Γ.cA c) dx vs) ∧ RTf Γ F xs vs := by simp only [RT]
theorem RVd.of_ts {F : Hp} {ρ : List Addr} : ∀ {xs : List (T × T)} {vs : List (Key × V)}, RTd Γ F xs vs → RVd Γ F ρ (xs.map fun q => (q.1, .t q.2)) vs
  | [], vs, h => by simp only [RTd] at h; rw [h]; exact .nil
  | (k, x) :: xs, vs, h => by
    simp only [RTd] at h
    obtain ⟨k', v, r, e, ek, a, b⟩ := h
    rw [e]
    exact .cons ⟨ek, a⟩ (RVd.of_ts b)
theorem RVf.of_ts {F : Hp} {ρ : List Addr} : ∀ {xs : List (Nat × T)} {vs : List (Str × V)}, RTf Γ F xs vs → RVf Γ F ρ (xs.map fun q => (q.1, .t q.2)) vs
  | [], vs, h => by simp only [RTf] at h; rw [h]; exact .nil
  | (k, x) :: xs, vs, h => by
    simp only [RTf] at h
    obtain ⟨v, r, e, a, b⟩ := h
    rw [e]
    exact .cons ⟨rfl, a⟩ (RVf.of_ts b)
/-! ### keys -/
theorem keyOf_keyT (k : Key) : keyOf (keyT k) = some k := by cases k <;> rfl
theorem keyEq_keyT (a b : Key) : keyEq (keyT a) (keyT b) = decide (a = b) := by
  unfold keyEq
  rw [keyOf_keyT, keyOf_keyT]
  simp
theorem dget_val {F : Hp} {ρ : List Addr} {k : Key} : ∀ {kvs : List (T × Val)} {us : List (Key × V)}, RVd Γ F ρ kvs us → match dget kvs (keyT k) with
    | some v => ∃ u, valV us k = some u ∧ RV Γ F ρ v u
    | none => valV us k = none
  | _, _, .nil => rfl
  | _, _, .cons (a := p) (b := q) r t => by
    obtain ⟨k0, v⟩ := p
    obtain ⟨j, u⟩ := q
    obtain ⟨r1, r2⟩ := r
    have r1 : k0 = keyT j := r1
    subst r1
    by_cases h : j = k
    · subst h
      have e : ∀ l, dget ((keyT j, v) :: l) (keyT j) = some v := fun l => by
        unfold dget
        rw [List.find?_cons]
        simp [keyEq_keyT]
      rw [e]
      exact ⟨u, valV_pos rfl, r2⟩
    · have e : ∀ l, dget ((keyT j, v) :: l) (keyT k) = dget l (keyT k) := fun l => by
        unfold dget
        rw [List.find?_cons]
        simp [keyEq_keyT, h]
      rw [e, valV_neg (p := (j, u)) h]
      exact dget_val t
theorem dput_any {F : Hp} {ρ : List Addr} {k : Key} : ∀ {kvs : List (T × Val)} {us : List (Key × V)}, RVd Γ F ρ kvs us → (kvs.any fun p => keyEq p.1 (keyT k)) = us.any fun q => decide (q.1 = k)
  | _, _, .nil => rfl
  | _, _, .cons (a := p) (b := q) r t => by
    rw [List.any_cons, List.any_cons, dput_any t, r.1, keyEq_keyT]
theorem dput_map {F : Hp} {ρ : List Addr} {k : Key} {v : Val} {u : V} (rv : RV Γ F ρ v u) : ∀ {kvs : List (T × Val)} {us : List (Key × V)}, RVd Γ F ρ kvs us → RVd Γ F ρ (kvs.map fun p => if keyEq p.1 (keyT k) then (p.1, v) else p) (us.map fun q => if q.1 = k then (q.1, u) else q)
  | _, _, .nil => .nil
  | _, _, .cons (a := p) (b := q) r t => by
    rw [List.map_cons, List.map_cons]
    refine .cons ?_ (dput_map rv t)
    rw [r.1, keyEq_keyT]
    by_cases h : q.1 = k
    · rw [if_pos (decide_eq_true h), if_pos h]
      exact ⟨rfl, rv⟩
    · rw [if_neg (by rw [decide_eq_false h]; decide), if_neg h]
      exact r
theorem dput_put {F : Hp} {ρ : List Addr} {k : Key} {v : Val} {u : V} (rv : RV Γ F ρ v u) {kvs : List (T × Val)} {us : List (Key × V)} (r : RVd Γ F ρ kvs us) : RVd Γ F ρ (dput kvs (keyT k) v) (putK us k u) := by
  unfold dput putK
  rw [dput_any r]
  split
  · exact dput_map rv r
  · exact Paired.app r (.cons ⟨rfl, rv⟩ .nil)
theorem After.keyV {β : Type} {s : AS} {Q : β → AS → Hp → Prop} {E' : Ex → AS → Hp → Prop} {v : Val} {u : V} {f : T → MH β} (r : RV Γ s.F s.ρ v u) (h : After Γ s (MH.bind (MS.keyV v) f s.hp) Q E') : ∃ k, u = kV k ∧ After Γ s (f (keyT k) s.hp) Q E' := by
  unfold MS.keyV at h
  split at h
  · rename_i i; exact ⟨.inl i, rv_int.mp r, h⟩
  · rename_i i; exact ⟨.inr i, rv_str.mp r, h⟩
  · exact h.elim
theorem After.dctV {β : Type} {s : AS} {H : Hp} {Q : β → AS → Hp → Prop} {E' : Ex → AS → Hp → Prop} {v : Val} {u : V} {f : List (T × Val) → MH β} (R : Rel Γ s H) (r : RV Γ s.F s.ρ v u) (h : After Γ s (MH.bind (MS.dctV v) f s.hp) Q E') :
    ∃ kvs p us, u = .ref p ∧ H p = some (.dK us) ∧ RVd Γ s.F s.ρ kvs us ∧ After Γ s (f kvs s.hp) Q E' := by
  unfold MS.dctV at h
  cases v with
  | t x =>
    cases x with
    | dct xs =>
      obtain ⟨p, us, e, hF, rs⟩ := rt_dct.mp r
      exact ⟨_, p, us, e, R.fz _ _ hF, RVd.of_ts rs, h⟩
    | _ => exact h.elim
  | ref n =>
    obtain ⟨a, ea, rfl⟩ := r
    dsimp only [MH.bind] at h
    cases ec : s.hp[n]? with
    | none => rw [ec] at h; exact h.elim
    | some ob =>
      rw [ec] at h
      obtain ⟨b, eb, c⟩ := R.cell n _ ec
      rw [ea] at eb; cases eb
      cases ob with
      | dct kvs =>
        obtain ⟨c1, c2, us, c3, c4⟩ := c
        exact ⟨kvs, a, us, rfl, c3, c4, h⟩
      | frz x =>
        cases x with
        | dct xs =>
          obtain ⟨p, us, e, hF, rs⟩ := rt_dct.mp c
          cases e
          exact ⟨_, a, us, rfl, R.fz _ _ hF, RVd.of_ts rs, h⟩
        | _ => exact h.elim
      | _ => exact h.elim
/-- d[k] -/
theorem se_dget {ed ek : Expr} {d k : E} (hu : X.A.units + 1 < cLine) (hd : SE Γ X ed (evE C d)) (hk : SE Γ X ek (evE C k)) (hs : NoSl ek) : SE Γ X (.Subscript ed ek pos) (evE C (.op .idxd [d, k])) := by
  intro W tk
  refine PE.imp (pe_dget hu (hd W tk) (hk W tk) hs) ?_
  rintro σ H Q ⟨loc, s, R, L, A⟩
  rw [evE_op2] at A
  refine ⟨loc, s, R, L, A.bind.imp (fun v s1 H1 x1 R1 A1 u r => ?_) (fun _ _ _ _ _ q => q)⟩
  refine ⟨loc, s1, R1, L.ext x1, A1.bind.imp (fun w s2 H2 x2 R2 A2 u' r' => ?_) (fun _ _ _ _ _ q => q)⟩
  change After Γ s2 (MH.bind (keyV w) (fun k => MH.bind (dctV v) fun kvs => match dget kvs k with | some v => fun h => .ok (nrm v h) h | none => bad) s2.hp) _ _ at A2
  obtain ⟨kk, ek, A2⟩ := A2.keyV r'
  obtain ⟨kvs, p, us, eu, hp, rs, A2⟩ := A2.dctV R2 (r.ext x2)
  have hg := dget_val (k := kk) rs
  cases e : dget kvs (keyT kk) with
  | none => rw [e] at A2; exact A2.elim
  | some x =>
    rw [e] at A2 hg
    obtain ⟨z, hz, rz⟩ := hg
    refine ⟨p, z, eu, ?_, A2 s2 H2 rfl (Ext.refl s2) R2 z (nrm_ok R2 rz)⟩
    rw [ek, ← hz]
    exact DGet.k hp

/-! ### fields -/
theorem fldN_inj0 : ∀ f, f < 20 → ∀ g, g < 20 → fldN g = fldN f → g = f := by decide
theorem fldN_q : ∀ f, f < 20 → ("?" : Str) ≠ fldN f := by decide
theorem fldN_inj {f g : Nat} (hf : f < 20) (e : fldN g = fldN f) : g = f := by
  by_cases hg : g < 20
  · exact fldN_inj0 f hf g hg e
  · exfalso
    have : fldN g = "?" := by
      unfold fldN
      rw [List.getD_eq_getElem?_getD, List.getElem?_eq_none (by show 20 ≤ g; omega)]
      rfl
    rw [this] at e
    exact fldN_q f hf e
theorem look_val {F : Hp} {ρ : List Addr} {f : Nat} (hf : f < 20) : ∀ {fs : List (Nat × Val)} {ns : List (Str × V)}, RVf Γ F ρ fs ns → match fs.lookup f with
    | some v => ∃ u, ns.lookup (fldN f) = some u ∧ RV Γ F ρ v u
    | none => ns.lookup (fldN f) = none
  | _, _, .nil => rfl
  | _, _, .cons (a := p) (b := q) r t => by
    obtain ⟨g, v⟩ := p
    obtain ⟨j, u⟩ := q
    obtain ⟨r1, r2⟩ := r
    have r1 : j = fldN g := r1
    subst r1
    by_cases h : g = f
    · subst h
      rw [List.lookup_cons_self, List.lookup_cons_self]
      exact ⟨u, rfl, r2⟩
    · have h' : ¬ fldN g = fldN f := fun z => h (fldN_inj hf z)
      have e1 : ∀ l, List.lookup f ((g, v) :: l) = List.lookup f l := fun l => by
        rw [List.lookup_cons]
        have : (f == g) = false := by simpa using fun z => h z.symm
        rw [this]
      have e2 : ∀ l, List.lookup (fldN f) ((fldN g, u) :: l) = List.lookup (fldN f) l := fun l => by
        rw [List.lookup_cons]
        have : (fldN f == fldN g) = false := by simpa using fun z => h' z.symm
        rw [this]
      rw [e1, e2]
      exact look_val hf t
theorem lookup_map_t {f : Nat} : ∀ fs : List (Nat × T), (fs.map fun q => (q.1, Val.t q.2)).lookup f = (fs.lookup f).map .t
  | [] => rfl
  | (g, x) :: fs => by
    rw [List.map_cons, List.lookup_cons, List.lookup_cons, lookup_map_t fs]
    cases f == g <;> rfl
/-- an attribute of an instance -/
theorem After.fldV {s : AS} {H : Hp} {Q : Val → AS → Hp → Prop} {E' : Ex → AS → Hp → Prop} {f : Nat} (hf : f < 20) {v : Val} {u : V} (R : Rel Γ s H) (r : RV Γ s.F s.ρ v u) (h : After Γ s (MS.fldV f v s.hp) Q E') :
    ∃ a c dx ns z x, u = .ref a ∧ H a = some (.ins (Γ.cA c) dx ns) ∧ ns.lookup (fldN f) = some z ∧ RV Γ s.F s.ρ x z ∧ Q x s H := by
  unfold MS.fldV at h
  cases v with
  | t x =>
    cases x with
    | ins c fs =>
      obtain ⟨a, dx, ns, e, hF, rs⟩ := rt_ins.mp r
      have hv := look_val hf (RVf.of_ts (ρ := s.ρ) rs)
      rw [lookup_map_t] at hv
      dsimp only at h
      cases el : fs.lookup f with
      | none => rw [el] at h; exact h.elim
      | some x =>
        rw [el] at h hv
        obtain ⟨z, hz, rz⟩ := hv
        exact ⟨a, c, dx, ns, z, .t x, e, R.fz _ _ hF, hz, rz, h s H rfl (Ext.refl s) R⟩
    | _ => exact h.elim
  | ref n =>
    obtain ⟨a, ea, rfl⟩ := r
    dsimp only at h
    cases ec : s.hp[n]? with
    | none => rw [ec] at h; exact h.elim
    | some ob =>
      rw [ec] at h
      obtain ⟨b, eb, cc⟩ := R.cell n _ ec
      rw [ea] at eb; cases eb
      cases ob with
      | ins c fs =>
        obtain ⟨c1, c2, dx, ns, c3, c4⟩ := cc
        have hv := look_val hf c4
        dsimp only at h
        cases el : fs.lookup f with
        | none => rw [el] at h; exact h.elim
        | some x =>
          rw [el] at h hv
          obtain ⟨z, hz, rz⟩ := hv
          exact ⟨a, c, dx, ns, z, nrm x s.hp, rfl, c3, hz, nrm_ok R rz, h s H rfl (Ext.refl s) R⟩
      | frz x =>
        cases x with
        | ins c fs =>
          obtain ⟨p, dx, ns, e, hF, rs⟩ := rt_ins.mp cc
          cases e
          have hv := look_val hf (RVf.of_ts (ρ := s.ρ) rs)
          rw [lookup_map_t] at hv
          dsimp only at h
          cases el : fs.lookup f with
          | none => rw [el] at h; exact h.elim
          | some x =>
            rw [el] at h hv
            obtain ⟨z, hz, rz⟩ := hv
            exact ⟨a, c, dx, ns, z, .t x, rfl, R.fz _ _ hF, hz, rz, h s H rfl (Ext.refl s) R⟩
        | _ => exact h.elim
      | _ => exact h.elim
theorem se_fld {eo : Expr} {nm : Str} {f : Nat} {o : E} (hn : nm = fldN f) (hf : f < 20) (hK : X.K = Γ.K) (hC : ∀ c, Cls Γ.K (Γ.cA c)) (hA : ∀ c, NoAttr Γ.K (Γ.cA c) (fldN f)) (ho : SE Γ X eo (evE C o)) (hb : abB eo = false) : SE Γ X (.Attribute eo nm pos) (evE C (.op (.fld f) [o])) := by
  subst hn
  intro W tk
  refine PE.imp (pe_fld (ho W tk) (base_no hb)) ?_
  rintro σ H Q ⟨loc, s, R, L, A⟩
  rw [evE_op1] at A
  refine ⟨loc, s, R, L, A.bind.imp (fun v s1 H1 x1 R1 A1 u r => ?_) (fun _ _ _ _ _ q => q)⟩
  change After Γ s1 (fldV f v s1.hp) _ _ at A1
  obtain ⟨a, c, dx, ns, z, x, e, hH, hl, rz, q⟩ := A1.fldV hf R1 r
  exact ⟨a, Γ.cA c, dx, ns, z, e, hH, by rw [hK]; exact hC c, by rw [hK]; exact hA c, hl, q z rz⟩

/-! ### slices -/
theorem RTs.drop {F : Hp} : ∀ {xs : List T} {us : List V} (n : Nat), RTs Γ F xs us → RTs Γ F (xs.drop n) (us.drop n)
  | xs, us, 0, h => h
  | [], us, n + 1, h => by simp only [RTs] at h; rw [h]; simp [RTs]
  | x :: xs, us, n + 1, h => by
    simp only [RTs] at h
    obtain ⟨v, r, e, _, b⟩ := h
    rw [e]
    exact RTs.drop n b
theorem RTs.take {F : Hp} : ∀ {xs : List T} {us : List V} (n : Nat), RTs Γ F xs us → RTs Γ F (xs.take n) (us.take n)
  | xs, us, 0, h => by simp [RTs]
  | [], us, n + 1, h => by simp only [RTs] at h; rw [h]; simp [RTs]
  | x :: xs, us, n + 1, h => by
    simp only [RTs] at h
    obtain ⟨v, r, e, a, b⟩ := h
    rw [e, List.take_succ_cons, List.take_succ_cons]
    simp only [RTs]
    exact ⟨v, _, rfl, a, RTs.take n b⟩
theorem RTs.cut {F : Hp} {xs : List T} {us : List V} {lo hi : Option Int} (h : RTs Γ F xs us) : RTs Γ F (cutL xs lo hi) (cutV us lo hi) := by
  unfold cutL cutV
  rw [RTs.length h]
  exact (h.drop _).take _
def rSlF (K : PySem.W.Frag) : V → Option Int → Option Int → Hp → VK → Prop := fun x lo hi H Q => ∃ a xs, x = .ref a ∧ SqT K H a xs ∧
  (HT.sIx xs.length 0 lo = 0 ∧ HT.sIx xs.length xs.length hi = xs.length → Q (.ref a) H) ∧ (¬ (HT.sIx xs.length 0 lo = 0 ∧ HT.sIx xs.length xs.length hi = xs.length) → ∀ (p : Addr) (o : Obj), H p = none → o.dict = none → Q (.ref p) (upd H p (.frz o (.tup (cutV xs lo hi)))))
theorem sl_tupF : SlR X (rSlF X.K) := by
  intro pins s σ H x v vl vu lo hi sl Q I rx hs pl pu h
  obtain ⟨a, xs, rfl, hx, q1, q2⟩ := h
  cases rx
  obtain ⟨its, r, ht, hz⟩ := I.tuple hx
  have hlen : its.toArray.size = xs.length := by rw [List.size_toArray]; exact r.length.symm
  by_cases hw : HT.sIx xs.length 0 lo = 0 ∧ HT.sIx xs.length xs.length hi = xs.length
  · refine ⟨"tuple", _, PyProof.Rows.slot_tuple_getitem.lookup, ht.typeIs, ?_⟩
    exact getItem_tuple_whole ht hs pl pu (by rw [hlen]; exact hw) ⟨.ref a, H, I, rfl, q1 hw⟩
  · refine ⟨"tuple", _, PyProof.Rows.slot_tuple_getitem.lookup, ht.typeIs, ?_⟩
    refine HT.getItem_tuple_cut ht hs pl pu (by rw [hlen]; exact hw) ?_ (by rw [hlen]; exact hz)
    rw [hlen]
    exact laid_tup I ((r.drop (HT.sIx xs.length 0 lo)).take (HT.sIx xs.length xs.length hi - HT.sIx xs.length 0 lo)) (Nat.le_trans (cutV_length xs lo hi) hz) (q2 hw)
def rSlAll (K : PySem.W.Frag) : V → Option Int → Option Int → Hp → VK → Prop := fun x lo hi H Q => rSlS x lo hi H Q ∨ rSlF K x lo hi H Q ∨ rSlL K x lo hi H Q
theorem sl_all : SlR X (rSlAll X.K) := sl_str.or (sl_tupF.or sl_list)
theorem sIx_full {n : Nat} {lo hi : Option Int} {xs : List T} (hn : xs.length = n) (h : HT.sIx n 0 lo = 0 ∧ HT.sIx n n hi = n) : cutL xs lo hi = xs := by
  unfold cutL
  rw [hn, h.1, h.2, List.drop_zero, Nat.sub_zero, ← hn, List.take_length]
theorem lk_slc (hK : X.K = Γ.K) {s : AS} {H : Hp} {a : Val} {u : V} {lo hi : Option Int} {Q : VK} {E' : Ex → AS → Hp → Prop} (R : Rel Γ s H) (r : RV Γ s.F s.ρ a u) (A : After Γ s (slcM a lo hi s.hp) (fun x s' H' => ∀ z, RV Γ s'.F s'.ρ x z → Q z H') E') : rSlAll X.K u lo hi H Q := by
  rw [hK]
  unfold slcM at A
  split at A
  · split at A
    · rename_i hz
      exact .inl ⟨_, rv_str.mp r, hz, After.ok R A _ (rv_str.mpr rfl)⟩
    · exact A.elim
  · rename_i xs
    obtain ⟨p, us, e, t, rs⟩ := rt_tup.mp r
    refine .inr (.inl ⟨p, us, e, (R.fz.tupF t).sqT, fun h => ?_, fun _ q o hq ho => ?_⟩)
    · rw [sIx_full (RTs.length rs) h] at A
      exact After.ok R A _ (rt_tup.mpr ⟨p, us, rfl, t, rs⟩)
    · exact After.newT R rs.cut ho A q hq
  · obtain ⟨xs, s1, p, us, x1, R1, e, hF, rs, A⟩ := A.lstP R r
    exact .inr (.inr ⟨p, us, e, SqL.of (R1.fz _ _ hF), fun q hq => After.newL R1 rs.cut A q hq⟩)
theorem se_slc00 {ea : Expr} {a : E} (hK : X.K = Γ.K) (ha : SE Γ X ea (evE C a)) : SE Γ X (.Subscript ea (.Slice none none none p) pos) (evE C (.op (.slc false false) [a])) := by
  intro W tk
  refine PE.imp (pe_slice sl_all (ha W tk) po_none po_none) ?_
  rintro σ H Q ⟨loc, s, R, L, A⟩
  rw [evE_op1] at A
  exact ⟨loc, s, R, L, A.bind.imp (fun v s1 H1 x1 R1 A1 u r => lk_slc hK R1 r A1) (fun _ _ _ _ _ q => q)⟩
theorem se_slc10 {ea el : Expr} {a l : E} (hK : X.K = Γ.K) (ha : SE Γ X ea (evE C a)) (hl : SE Γ X el (evE C l)) : SE Γ X (.Subscript ea (.Slice (some el) none none p) pos) (evE C (.op (.slc true false) [a, l])) := by
  intro W tk
  refine PE.imp (pe_slice sl_all (ha W tk) (po_some (hl W tk)) po_none) ?_
  rintro σ H Q ⟨loc, s, R, L, A⟩
  rw [evE_op2] at A
  refine ⟨loc, s, R, L, A.bind.imp (fun v s1 H1 x1 R1 A1 u r => ?_) (fun _ _ _ _ _ q => q)⟩
  refine ⟨loc, s1, R1, L.ext x1, A1.bind.imp (fun w s2 H2 x2 R2 A2 u' r' => ?_) (fun _ _ _ _ _ q => q)⟩
  change After Γ s2 (MH.bind (intV w) (fun i => slcM v (some i) none) s2.hp) _ _ at A2
  obtain ⟨i, _, e, A2⟩ := A2.intV r'
  exact ⟨i, e, lk_slc hK R2 (r.ext x2) A2⟩
theorem se_slc01 {ea el : Expr} {a l : E} (hK : X.K = Γ.K) (ha : SE Γ X ea (evE C a)) (hl : SE Γ X el (evE C l)) : SE Γ X (.Subscript ea (.Slice none (some el) none p) pos) (evE C (.op (.slc false true) [a, l])) := by
  intro W tk
  refine PE.imp (pe_slice sl_all (ha W tk) po_none (po_some (hl W tk))) ?_
  rintro σ H Q ⟨loc, s, R, L, A⟩
  rw [evE_op2] at A
  refine ⟨loc, s, R, L, A.bind.imp (fun v s1 H1 x1 R1 A1 u r => ?_) (fun _ _ _ _ _ q => q)⟩
  refine ⟨loc, s1, R1, L.ext x1, A1.bind.imp (fun w s2 H2 x2 R2 A2 u' r' => ?_) (fun _ _ _ _ _ q => q)⟩
  change After Γ s2 (MH.bind (intV w) (fun i => slcM v none (some i)) s2.hp) _ _ at A2
  obtain ⟨i, _, e, A2⟩ := A2.intV r'
  exact ⟨i, e, lk_slc hK R2 (r.ext x2) A2⟩
end
end MS

set_option Elab.async false
set_option linter.all false
set_option maxRecDepth 100000
/-! MSK: displays, and, or, not, tests. -/
namespace MS
open PySem PySem.Spec PyProof.Rows L2
section
variable {Γ : Run} {X : Cx} {C : Cl} {pos p apos cpos : Pos}
/-! ### displays -/
def tTupF (t : TA) : TE := fun σ H Q => t σ H fun xs H1 => xs.length ≤ sizeLine ∧ ∀ (p : Addr) (o : Obj), H1 p = none → o.dict = none → Q (.ref p) (upd H1 p (.frz o (.tup xs)))
theorem pe_tupF {x1} {es : List Expr} {t : TA} (h : PA X es t) : PE X (.Tuple es x1 pos) (tTupF t) := by
  refine ⟨fun pins s σ H Q I hq => ?_⟩
  refine wpAny_Tuple_spliced (thn (h.run pos pins s σ H _ I hq) fun us s1 ⟨xs, H1, I1, r, z, q⟩ => ⟨by rw [← r.length]; exact z, ?_⟩)
  exact laid_tup I1 r z q
theorem len_evEs {loc : Loc} : ∀ {ms : List E} {h h' : List Ob} {vs : List Val}, evEs C ms loc h = .ok vs h' → vs.length = ms.length
  | [], h, h', vs, e => by simp only [evEs, pure_eq] at e; unfold MH.pure at e; cases e; rfl
  | m :: ms, h, h', vs, e => by
    simp only [evEs] at e
    unfold MH.bind at e
    cases e1 : evE C m loc h with
    | bad => rw [e1] at e; cases e
    | exc _ _ => rw [e1] at e; cases e
    | ok v h1 =>
      rw [e1] at e
      dsimp only at e
      cases e2 : evEs C ms loc h1 with
      | bad => rw [e2] at e; cases e
      | exc _ _ => rw [e2] at e; cases e
      | ok ws h2 =>
        rw [e2] at e
        cases e
        rw [List.length_cons, List.length_cons, len_evEs e2]
/-- .. with what its items are -/
theorem After.evEs {s : AS} {loc : Loc} {ms : List E} {Q : List Val → AS → Hp → Prop} {E' : Ex → AS → Hp → Prop} (h : After Γ s (MS.evEs C ms loc s.hp) Q E') : After Γ s (MS.evEs C ms loc s.hp) (fun vs s' H' => vs.length = ms.length ∧ Q vs s' H') E' := by
  cases e : MS.evEs C ms loc s.hp with
  | bad => rw [e] at h; exact h
  | exc _ _ => rw [e] at h; exact h
  | ok vs h1 => rw [e] at h; exact fun s' H' a b c => ⟨len_evEs e, h s' H' a b c⟩
theorem se_tup {x1} {es : List Expr} {ms : List E} (ha : SA Γ X es (evEs C ms)) (hl : ms.length ≤ 1000) : SE Γ X (.Tuple es x1 pos) (evE C (.tup ms)) := by
  intro W tk
  refine PE.imp (pe_tupF (ha W tk)) ?_
  rintro σ H Q ⟨loc, s, R, L, A⟩
  simp only [evE] at A
  refine ⟨loc, s, R, L, A.bind.evEs.imp (fun vs s1 H1 x1 R1 A1 us rs => ?_) (fun _ _ _ _ _ q => q)⟩
  obtain ⟨l1, A1⟩ := A1
  obtain ⟨ts, s2, x2, R2, rts, A2⟩ := A1.purs R1 rs
  refine ⟨by rw [← Paired.len rs, l1, sizeLine_eq]; omega, fun q o hq ho => After.newT R2 rts ho A2 q hq⟩
theorem se_lst {es : List Expr} {m : Bool} {ms : List E} (ha : SA Γ X es (evEs C ms)) (hl : ms.length ≤ 1000) : SE Γ X (.List es pos) (evE C (.lst m ms)) := by
  intro W tk
  refine PE.imp (pe_lst (ha W tk)) ?_
  rintro σ H Q ⟨loc, s, R, L, A⟩
  simp only [evE] at A
  refine ⟨loc, s, R, L, A.bind.evEs.imp (fun vs s1 H1 x1 R1 A1 us rs => ?_) (fun _ _ _ _ _ q => q)⟩
  obtain ⟨l1, A1⟩ := A1
  exact ⟨by rw [← Paired.len rs, l1, sizeLine_eq]; omega, fun q hq => After.keep R1 rs A1 q hq⟩

/-! ### and, or, not -/
theorem evAnd_one {e : E} {loc : Loc} : evAnd C [e] loc = evE C e loc := by simp only [evAnd]
theorem evAnd_cons {e e' : E} {es : List E} {loc : Loc} : evAnd C (e :: e' :: es) loc = MH.bind (evE C e loc) fun v => MH.bind (blV v) fun b => if b then evAnd C (e' :: es) loc else bl false := by
  rw [evAnd]
  simp
theorem evOr_one {e : E} {loc : Loc} : evOr C [e] loc = evE C e loc := by simp only [evOr]
theorem evOr_cons {e e' : E} {es : List E} {loc : Loc} : evOr C (e :: e' :: es) loc = MH.bind (evE C e loc) fun v => MH.bind (blV v) fun b => if b then bl true else evOr C (e' :: es) loc := by
  rw [evOr]
  simp
theorem se_one {op} {e : Expr} {m : Loc → MH Val} (h : SE Γ X e m) : SE Γ X (.BoolOp op [e] pos) m := fun W tk => pe_one (h W tk)
theorem se_and_of {e e' : Expr} {es : List Expr} {m m' : Loc → MH Val} (h : SE Γ X e m) (h' : SE Γ X (.BoolOp .And (e' :: es) pos) m') : SE Γ X (.BoolOp .And (e :: e' :: es) pos) (fun loc => MH.bind (m loc) fun v => MH.bind (blV v) fun b => if b then m' loc else bl false) := by
  intro W tk
  refine PE.imp (pe_and (h W tk) (h' W tk)) ?_
  rintro σ H Q ⟨loc, s, R, L, A⟩
  refine ⟨loc, s, R, L, A.bind.imp (fun v s1 H1 x1 R1 A1 u r => ?_) (fun _ _ _ _ _ q => q)⟩
  obtain ⟨b, _, e, A1⟩ := A1.blV r
  refine ⟨b, e, ?_⟩
  cases b with
  | true => exact ⟨loc, s1, R1, L.ext x1, A1⟩
  | false => exact After.ok R1 A1 _ (rv_bl.mpr rfl)
theorem se_or_of {e e' : Expr} {es : List Expr} {m m' : Loc → MH Val} (h : SE Γ X e m) (h' : SE Γ X (.BoolOp .Or (e' :: es) pos) m') : SE Γ X (.BoolOp .Or (e :: e' :: es) pos) (fun loc => MH.bind (m loc) fun v => MH.bind (blV v) fun b => if b then bl true else m' loc) := by
  intro W tk
  refine PE.imp (pe_or (h W tk) (h' W tk)) ?_
  rintro σ H Q ⟨loc, s, R, L, A⟩
  refine ⟨loc, s, R, L, A.bind.imp (fun v s1 H1 x1 R1 A1 u r => ?_) (fun _ _ _ _ _ q => q)⟩
  obtain ⟨b, _, e, A1⟩ := A1.blV r
  refine ⟨b, e, ?_⟩
  cases b with
  | false => exact ⟨loc, s1, R1, L.ext x1, A1⟩
  | true => exact After.ok R1 A1 _ (rv_bl.mpr rfl)
/-- a list of expressions and what they are -/
inductive SEs (Γ : Run) (X : Cx) (C : Cl) : List Expr → List E → Prop where
  | nil : SEs Γ X C [] []
  | cons {e : Expr} {m : E} {es : List Expr} {ms : List E} (h : SE Γ X e (evE C m)) (hs : stB e = false) (t : SEs Γ X C es ms) : SEs Γ X C (e :: es) (m :: ms)
theorem SEs.sa {es : List Expr} {ms : List E} (h : SEs Γ X C es ms) : SA Γ X es (evEs C ms) := by
  induction h with
  | nil => exact sa_nil
  | cons h hs t ih => exact sa_cons h ih hs
theorem se_congr {e : Expr} {m m' : Loc → MH Val} (h : SE Γ X e m) (he : ∀ loc, m' loc = m loc) : SE Γ X e m' := by
  have : m' = m := funext he
  rw [this]; exact h
theorem se_and {es : List Expr} {ms : List E} (h : SEs Γ X C es ms) (h0 : es ≠ []) : SE Γ X (.BoolOp .And es pos) (evE C (.and ms)) := by
  refine se_congr (m := evAnd C ms) ?_ (fun loc => by simp only [evE])
  induction h with
  | nil => exact absurd rfl h0
  | @cons e m es ms h hs t ih =>
    cases t with
    | nil => exact se_congr (se_one h) fun loc => evAnd_one
    | cons h' hs' t' => exact se_congr (se_and_of h (ih (by simp))) fun loc => evAnd_cons
theorem se_or {es : List Expr} {ms : List E} (h : SEs Γ X C es ms) (h0 : es ≠ []) : SE Γ X (.BoolOp .Or es pos) (evE C (.or ms)) := by
  refine se_congr (m := evOr C ms) ?_ (fun loc => by simp only [evE])
  induction h with
  | nil => exact absurd rfl h0
  | @cons e m es ms h hs t ih =>
    cases t with
    | nil => exact se_congr (se_one h) fun loc => evOr_one
    | cons h' hs' t' => exact se_congr (se_or_of h (ih (by simp))) fun loc => evOr_cons
theorem se_not {e : Expr} {m : E} (h : SE Γ X e (evE C m)) : SE Γ X (.UnaryOp .Not e pos) (evE C (.nott m)) := by
  intro W tk
  refine PE.imp (pe_not (h W tk)) ?_
  rintro σ H Q ⟨loc, s, R, L, A⟩
  simp only [evE] at A
  refine ⟨loc, s, R, L, A.bind.imp (fun v s1 H1 x1 R1 A1 u r => ?_) (fun _ _ _ _ _ q => q)⟩
  obtain ⟨b, _, e, A1⟩ := A1.blV r
  exact ⟨b, e, After.ok R1 A1 _ (rv_bl.mpr rfl)⟩
theorem se_ifx {c a b : Expr} {k m n : E} (hc : ST Γ X c (evT C k)) (ha : SE Γ X a (evE C m)) (hb : SE Γ X b (evE C n)) : SE Γ X (.IfExp c a b pos) (evE C (.ifx k m n)) := by
  intro W tk
  refine PE.imp (pe_ifExp (hc W tk) (ha W tk) (hb W tk)) ?_
  rintro σ H Q ⟨loc, s, R, L, A⟩
  simp only [evE] at A
  refine ⟨loc, s, R, L, A.bind.imp (fun d s1 H1 x1 R1 A1 => ?_) (fun _ _ _ _ _ q => q)⟩
  cases d with
  | true => exact ⟨loc, s1, R1, L.ext x1, A1⟩
  | false => exact ⟨loc, s1, R1, L.ext x1, A1⟩
/-! ### chains -/
theorem te_chain {o1 o2 : Op} {r r' : R2} {a b c : E} {W : WX} (l1 : OpLk Γ o1 r) (l2 : OpLk Γ o2 r') {σ : L2.St} {H : Hp} {Q : VK} (h : tE Γ (evE C (.ch o1 o2 a b c)) W σ H Q) : tChain r r' (tE Γ (evE C a) W) (tE Γ (evE C b) W) (tE Γ (evE C c) W) σ H Q := by
  obtain ⟨loc, s, R, L, A⟩ := h
  simp only [evE] at A
  refine ⟨loc, s, R, L, A.bind.imp (fun v s1 H1 x1 R1 A1 u r => ?_) (fun _ _ _ _ _ q => q)⟩
  refine ⟨loc, s1, R1, L.ext x1, A1.bind.imp (fun w s2 H2 x2 R2 A2 u' r' => ?_) (fun _ _ _ _ _ q => q)⟩
  refine l1 s2 H2 v w u u' _ (XW Γ W σ) R2 (r.ext x2) r' (A2.bind.imp (fun x s3 H3 x3 R3 A3 z rz => ?_) (fun _ _ _ _ _ q => q))
  obtain ⟨k, _, e, A3⟩ := A3.blV rz
  refine ⟨k, e, ?_⟩
  cases k with
  | true =>
    refine ⟨loc, s3, R3, ((L.ext x1).ext x2).ext x3, After.imp (After.bind A3) (fun y s4 H4 x4 R4 A4 u2 r2 => ?_) (fun _ _ _ _ _ q => q)⟩
    exact l2 s4 H4 w y u' u2 Q _ R4 ((r'.ext x3).ext x4) r2 A4
  | false => exact After.ok R3 A3 _ (rv_bl.mpr rfl)
theorem se_ch {o1 o2 : Op} {op op' : CmpOp} {r r' : R2} {ea eb ec : Expr} {a b c : E} (h1 : OpR X (compareOp op) r) (h2 : OpR X (compareOp op') r') (l1 : OpLk Γ o1 r) (l2 : OpLk Γ o2 r') (ha : SE Γ X ea (evE C a)) (hb : SE Γ X eb (evE C b)) (hc : SE Γ X ec (evE C c))
    (hm : lastMarks [op, op'] [eb, ec] = false) : SE Γ X (.Compare ea [op, op'] [eb, ec] pos) (evE C (.ch o1 o2 a b c)) :=
  fun W tk => PE.imp (pe_chain h1 h2 (ha W tk) (hb W tk) (hc W tk) hm) fun _ _ _ h => te_chain l1 l2 h

/-! ### tests -/
theorem tru_ok {s : AS} {H : Hp} {v : Val} {u : V} {Q : Bool → AS → Hp → Prop} {E' : Ex → AS → Hp → Prop} (R : Rel Γ s H) (r : RV Γ s.F s.ρ v u) (h : After Γ s (tru v s.hp) Q E') : ∃ k, TruV Γ.K u H k ∧ Q k s H := by
  have go : ∀ {b : Bool}, After Γ s (.ok b s.hp) Q E' → Q b s H := fun h => h s H rfl (Ext.refl s) R
  unfold tru at h
  cases v with
  | t x =>
    cases x with
    | non => rw [rv_non.mp r]; exact ⟨false, rfl, go h⟩
    | bl b => rw [rv_bl.mp r]; exact ⟨b, rfl, go h⟩
    | int i => rw [rv_int.mp r]; exact ⟨_, rfl, go h⟩
    | str z =>
      rw [rv_str.mp r]
      dsimp only at h
      split at h
      · rename_i hz
        refine ⟨_, ⟨hz, rfl⟩, ?_⟩
        have e : (((z.length : Nat) : Int) != 0) = (z.length != 0) := by
          cases z.length <;> rfl
        rw [e]
        exact go h
      · exact h.elim
    | tup xs =>
      obtain ⟨p, us, e, t, rs⟩ := rt_tup.mp r
      rw [e]
      refine ⟨!us.isEmpty, .inr (.inl ⟨us, (R.fz.tupF t).sqT, rfl⟩), ?_⟩
      have : us.isEmpty = xs.isEmpty := by
        have hl := RTs.length rs
        cases xs <;> cases us <;> first | rfl | cases hl
      rw [this]
      exact go h
    | lst xs =>
      obtain ⟨p, us, e, t, rs⟩ := rt_lst.mp r
      rw [e]
      refine ⟨!us.isEmpty, .inl ⟨us, SqL.of (R.fz _ _ t), rfl⟩, ?_⟩
      have : us.isEmpty = xs.isEmpty := by
        have hl := RTs.length rs
        cases xs <;> cases us <;> first | rfl | cases hl
      rw [this]
      exact go h
    | _ => exact h.elim
  | ref n =>
    obtain ⟨a, ea, rfl⟩ := r
    dsimp only at h
    cases ec : s.hp[n]? with
    | none => rw [ec] at h; exact h.elim
    | some ob =>
      rw [ec] at h
      obtain ⟨b, eb, c⟩ := R.cell n _ ec
      rw [ea] at eb; cases eb
      cases ob with
      | lst vs =>
        obtain ⟨c1, c2, us, c3, c4⟩ := c
        refine ⟨!us.isEmpty, .inl ⟨us, SqL.of c3, rfl⟩, ?_⟩
        have : us.isEmpty = vs.isEmpty := by
          have hl := Paired.len c4
          cases vs <;> cases us <;> first | rfl | cases hl
        rw [this]
        exact go h
      | frz x =>
        cases x with
        | lst xs =>
          obtain ⟨p, us, e, t, rs⟩ := rt_lst.mp c
          cases e
          refine ⟨!us.isEmpty, .inl ⟨us, SqL.of (R.fz _ _ t), rfl⟩, ?_⟩
          have : us.isEmpty = xs.isEmpty := by
            have hl := RTs.length rs
            cases xs <;> cases us <;> first | rfl | cases hl
          rw [this]
          exact go h
        | _ => exact h.elim
      | _ => exact h.elim
/-- a plain expression's test is its value's truth -/
theorem st_of {e : Expr} {m : Loc → MH Val} {m' : Loc → MH Bool} (hK : X.K = Γ.K) (h : SE Γ X e m) (hp : tsB e = false) (he : ∀ loc, m' loc = MH.bind (m loc) tru) : ST Γ X e m' := by
  intro W tk
  refine PT.imp (pt_truth (h W tk) fun _ => test_plain hp) ?_
  rintro σ H Q ⟨loc, s, R, L, A⟩
  rw [he] at A
  refine ⟨loc, s, R, L, A.bind.imp (fun v s1 H1 x1 R1 A1 u r => ?_) (fun _ _ _ _ _ q => q)⟩
  obtain ⟨k, t, q⟩ := tru_ok R1 r A1
  exact ⟨k, by rw [hK]; exact t, q⟩
/-- a comparison's test -/
theorem SC.st {e : Expr} {m : Loc → MH Val} {m' : Loc → MH Bool} (h : SC Γ X e m) (he : ∀ loc, m' loc = MH.bind (m loc) blV) : ST Γ X e m' := by
  intro W tk
  obtain ⟨op, a, b, r, ta, tb, pos, rfl, ho, ha, hb, hm, k⟩ := h W tk
  refine PT.imp (pt_cmpS ho ha hb hm) ?_
  rintro σ H Q ⟨loc, s, R, L, A⟩
  rw [he] at A
  refine k σ H _ ⟨loc, s, R, L, A.bind.imp (fun v s1 H1 x1 R1 A1 u r => ?_) (fun _ _ _ _ _ q => q)⟩
  have A2 : After Γ s1 (MH.bind (MS.blV v) MH.pure s1.hp) (fun b s' H' => Q b H') (XW Γ W σ) := by
    have : MH.bind (MS.blV v) MH.pure = MS.blV v := by
      funext h; unfold MH.bind; cases MS.blV v h <;> rfl
    rw [this]; exact A1
  obtain ⟨b, _, e, A2⟩ := A2.blV r
  exact ⟨b, e, After.ok R1 A2⟩
theorem st_congr {e : Expr} {m m' : Loc → MH Bool} (h : ST Γ X e m) (he : ∀ loc, m' loc = m loc) : ST Γ X e m' := by
  have : m' = m := funext he
  rw [this]; exact h
theorem st_not {e : Expr} {m : E} (h : ST Γ X e (evT C m)) : ST Γ X (.UnaryOp .Not e pos) (evT C (.nott m)) := by
  intro W tk
  refine PT.imp (pt_not (h W tk)) ?_
  rintro σ H Q ⟨loc, s, R, L, A⟩
  simp only [evT] at A
  exact ⟨loc, s, R, L, A.bind.imp (fun v s1 H1 x1 R1 A1 => After.ok R1 A1) (fun _ _ _ _ _ q => q)⟩
theorem st_ch {o1 o2 : Op} {op op' : CmpOp} {r r' : R2} {ea eb ec : Expr} {a b c : E} (h1 : OpR X (compareOp op) r) (h2 : OpR X (compareOp op') r') (l1 : OpLk Γ o1 r) (l2 : OpLk Γ o2 r') (ha : SE Γ X ea (evE C a)) (hb : SE Γ X eb (evE C b)) (hc : SE Γ X ec (evE C c))
    (hm : lastMarks [op, op'] [eb, ec] = false) : ST Γ X (.Compare ea [op, op'] [eb, ec] pos) (evT C (.ch o1 o2 a b c)) := by
  intro W tk
  refine PT.imp (pt_chain h1 h2 (ha W tk) (hb W tk) (hc W tk) hm) ?_
  rintro σ H Q ⟨loc, s, R, L, A⟩
  simp only [evT] at A
  refine ⟨loc, s, R, L, A.bind.imp (fun v s1 H1 x1 R1 A1 u r => ?_) (fun _ _ _ _ _ q => q)⟩
  refine ⟨loc, s1, R1, L.ext x1, A1.bind.imp (fun w s2 H2 x2 R2 A2 u' r' => ?_) (fun _ _ _ _ _ q => q)⟩
  refine l1 s2 H2 v w u u' _ (XW Γ W σ) R2 (r.ext x2) r' (A2.bind.imp (fun x s3 H3 x3 R3 A3 z rz => ?_) (fun _ _ _ _ _ q => q))
  obtain ⟨k, _, e, A3⟩ := A3.blV rz
  refine ⟨k, e, ?_⟩
  cases k with
  | true =>
    refine ⟨loc, s3, R3, ((L.ext x1).ext x2).ext x3, After.imp (After.bind A3) (fun y s4 H4 x4 R4 A4 u2 r2 => ?_) (fun _ _ _ _ _ q => q)⟩
    refine l2 s4 H4 w y u' u2 _ (XW Γ W σ) R4 ((r'.ext x3).ext x4) r2 (A4.bind.imp (fun t s5 H5 x5 R5 A5 z rz => ?_) (fun _ _ _ _ _ q => q))
    have A5 : After Γ s5 (MH.bind (MS.blV t) MH.pure s5.hp) (fun b s' H' => Q b H') (XW Γ W σ) := by
      have : MH.bind (MS.blV t) MH.pure = MS.blV t := by
        funext h; unfold MH.bind; cases MS.blV t h <;> rfl
      rw [this]; exact A5
    obtain ⟨k, _, e, A5⟩ := A5.blV rz
    exact ⟨k, e, After.ok R5 A5⟩
  | false => exact ⟨false, rfl, After.ok R3 A3⟩
/-! ### tests with and, or -/
theorem evTand_cons {e : E} {es : List E} {loc : Loc} : evTand C (e :: es) loc = MH.bind (evT C e loc) fun b => if b then evTand C es loc else pure false := by
  simp only [evTand]
theorem evTor_cons {e : E} {es : List E} {loc : Loc} : evTor C (e :: es) loc = MH.bind (evT C e loc) fun b => if b then pure true else evTor C es loc := by
  simp only [evTor]
inductive STs (Γ : Run) (X : Cx) (C : Cl) : List Expr → List E → Prop where
  | nil : STs Γ X C [] []
  | cons {e : Expr} {m : E} {es : List Expr} {ms : List E} (h : ST Γ X e (evT C m)) (t : STs Γ X C es ms) : STs Γ X C (e :: es) (m :: ms)
theorem bind_pure {α : Type} (m : MH α) : MH.bind m (fun b => MH.pure b) = m := by
  funext h
  unfold MH.bind
  cases m h <;> rfl
theorem sw_and {es : List Expr} {ms : List E} (h : STs Γ X C es ms) (h0 : es ≠ []) : SW Γ X (.BoolOp .And es pos) (evTand C ms) := by
  induction h with
  | nil => exact absurd rfl h0
  | @cons e m es ms h t ih =>
    intro W tk
    cases t with
    | nil =>
      refine PW.imp (pw_and1 (h W tk)) ?_
      rintro σ H Q ⟨loc, s, R, L, A⟩
      rw [evTand_cons] at A
      refine ⟨loc, s, R, L, A.bind.imp (fun b s1 H1 x1 R1 A1 => ?_) (fun _ _ _ _ _ q => q)⟩
      cases b with
      | true =>
        simp only [evTand] at A1
        exact After.ok R1 A1
      | false => exact After.ok R1 A1
    | cons h' t' =>
      refine PW.imp (pw_and (h W tk) (ih (by simp) W tk)) ?_
      rintro σ H Q ⟨loc, s, R, L, A⟩
      rw [evTand_cons] at A
      refine ⟨loc, s, R, L, A.bind.imp (fun b s1 H1 x1 R1 A1 => ?_) (fun _ _ _ _ _ q => q)⟩
      cases b with
      | true => exact ⟨loc, s1, R1, L.ext x1, A1⟩
      | false => exact After.ok R1 A1
theorem sw_or {es : List Expr} {ms : List E} (h : STs Γ X C es ms) (h0 : es ≠ []) : SW Γ X (.BoolOp .Or es pos) (evTor C ms) := by
  induction h with
  | nil => exact absurd rfl h0
  | @cons e m es ms h t ih =>
    intro W tk
    cases t with
    | nil =>
      refine PW.imp (pw_or1 (h W tk)) ?_
      rintro σ H Q ⟨loc, s, R, L, A⟩
      rw [evTor_cons] at A
      refine ⟨loc, s, R, L, A.bind.imp (fun b s1 H1 x1 R1 A1 => ?_) (fun _ _ _ _ _ q => q)⟩
      cases b with
      | false =>
        simp only [evTor] at A1
        exact After.ok R1 A1
      | true => exact After.ok R1 A1
    | cons h' t' =>
      refine PW.imp (pw_or (h W tk) (ih (by simp) W tk)) ?_
      rintro σ H Q ⟨loc, s, R, L, A⟩
      rw [evTor_cons] at A
      refine ⟨loc, s, R, L, A.bind.imp (fun b s1 H1 x1 R1 A1 => ?_) (fun _ _ _ _ _ q => q)⟩
      cases b with
      | false => exact ⟨loc, s1, R1, L.ext x1, A1⟩
      | true => exact After.ok R1 A1
theorem st_and {es : List Expr} {ms : List E} (h : STs Γ X C es ms) (h0 : es ≠ []) : ST Γ X (.BoolOp .And es pos) (evT C (.and ms)) := by
  refine st_congr (m := evTand C ms) (fun W tk => (sw_and h h0 W tk).pt) fun loc => by simp only [evT]
theorem st_or {es : List Expr} {ms : List E} (h : STs Γ X C es ms) (h0 : es ≠ []) : ST Γ X (.BoolOp .Or es pos) (evT C (.or ms)) := by
  refine st_congr (m := evTor C ms) (fun W tk => (sw_or h h0 W tk).pt) fun loc => by simp only [evT]
end
end MS

set_option Elab.async false
set_option linter.all false
set_option maxRecDepth 100000
/-! MSL: dict displays, list(range), f-strings. -/
namespace MS
open PySem PySem.Spec PyProof.Rows L2
section
variable {Γ : Run} {X : Cx} {C : Cl} {pos p apos cpos : Pos}
/-! ### f-strings -/
/-- an f-string's part -/
def SF (Γ : Run) (X : Cx) (e : Expr) (m : Loc → MH Str) : Prop := ∀ W, Takes X W → PE X e (fun σ H Q => ∃ loc s, Rel Γ s H ∧ Locs Γ s loc σ ∧ After Γ s (m loc s.hp) (fun v s' H' => Q (.str v) H') (XW Γ W σ))
theorem sf_lit {x : Str} {j : Nat} : SF Γ X (.Constant (.str x) j pos) (evFp C (.lit x)) := by
  intro W tk
  refine PE.imp pe_str ?_
  rintro σ H Q ⟨loc, s, R, L, A⟩
  simp only [evFp] at A
  exact After.ok R A
theorem toString_eq (i : Int) : (Str.ofString (toString i) : Str) = toString i := rfl
theorem sf_val {e : Expr} {m : E} (h : SE Γ X e (evE C m)) : SF Γ X (.FormattedValue e (-1) none pos) (evFp C (.val m)) := by
  intro W tk
  refine PE.imp (pe_fmt (h W tk)) ?_
  rintro σ H Q ⟨loc, s, R, L, A⟩
  simp only [evFp] at A
  refine ⟨loc, s, R, L, A.bind.imp (fun v s1 H1 x1 R1 A1 u r => ?_) (fun _ _ _ _ _ q => q)⟩
  unfold fmtV at A1
  split at A1
  · split at A1
    · rename_i hz
      exact .inl ⟨_, rv_str.mp r, hz, After.ok R1 A1⟩
    · exact A1.elim
  · split at A1
    · rename_i hz
      exact .inr ⟨_, rv_int.mp r, hz, After.ok R1 A1⟩
    · exact A1.elim
  · exact A1.elim
theorem sf_rep {e : Expr} {m : E} (h : SE Γ X e (evE C m)) : SF Γ X (.FormattedValue e 114 none pos) (evFp C (.rep m)) := by
  intro W tk
  refine PE.imp (pe_fmtR (h W tk)) ?_
  rintro σ H Q ⟨loc, s, R, L, A⟩
  simp only [evFp] at A
  refine ⟨loc, s, R, L, A.bind.imp (fun v s1 H1 x1 R1 A1 u r => ?_) (fun _ _ _ _ _ q => q)⟩
  unfold repV at A1
  split at A1
  · split at A1
    · rename_i hz
      exact .inl ⟨_, rv_str.mp r, hz, After.ok R1 A1⟩
    · exact A1.elim
  · split at A1
    · rename_i hz
      exact .inr ⟨_, rv_int.mp r, hz, After.ok R1 A1⟩
    · exact A1.elim
  · exact A1.elim
inductive SFs (Γ : Run) (X : Cx) (C : Cl) : List Expr → List Fp → Prop where
  | nil : SFs Γ X C [] []
  | cons {e : Expr} {m : Fp} {es : List Expr} {ms : List Fp} (h : SF Γ X e (evFp C m)) (t : SFs Γ X C es ms) : SFs Γ X C (e :: es) (m :: ms)
theorem sfs_pj {es : List Expr} {ms : List Fp} (h : SFs Γ X C es ms) {W : WX} (tk : Takes X W) : ∃ ts, PJ X es ts ∧ ∀ acc σ H (Q : Str → Hp → Prop) loc s, Rel Γ s H → Locs Γ s loc σ → After Γ s (evFs C ms loc acc s.hp) (fun v s' H' => Q v H') (XW Γ W σ) → tJs ts acc σ H Q := by
  induction h with
  | nil => exact ⟨[], .nil, fun acc σ H Q loc s R L A => by simp only [evFs] at A; exact After.ok R A⟩
  | @cons e m es ms h t ih =>
    obtain ⟨ts, hp, k⟩ := ih
    refine ⟨_, .cons (h W tk) hp, fun acc σ H Q loc s R L A => ?_⟩
    simp only [evFs] at A
    refine ⟨loc, s, R, L, A.bind.imp (fun v s1 H1 x1 R1 A1 => ?_) (fun _ _ _ _ _ q => q)⟩
    split at A1
    · rename_i hz
      exact ⟨v, rfl, hz, k _ σ H1 Q loc s1 R1 (L.ext x1) A1⟩
    · exact A1.elim
theorem se_fst {v1 v2 : Expr} {rest : List Expr} {ps : List Fp} (h : SFs Γ X C (v1 :: v2 :: rest) ps) : SE Γ X (.JoinedStr (v1 :: v2 :: rest) pos) (evE C (.fst ps)) := by
  intro W tk
  obtain ⟨ts, hp, k⟩ := sfs_pj h tk
  refine PE.imp (pe_joined hp) ?_
  rintro σ H Q ⟨loc, s, R, L, A⟩
  simp only [evE] at A
  refine k Str.empty σ H _ loc s R L (A.bind.imp (fun v s1 H1 x1 R1 A1 => ?_) (fun _ _ _ _ _ q => q))
  exact After.ok R1 A1 _ (rv_str.mpr rfl)

/-! ### list(range(n)) -/
theorem rvs_rng {F : Hp} {ρ : List Addr} (a b : Int) : RVs Γ F ρ ((List.range (b - a).toNat).map fun i => .t (.int (a + (i : Nat)))) (rgV a b) := by
  unfold rgV
  induction List.range (b - a).toNat with
  | nil => exact .nil
  | cons n ns ih => exact .cons (rv_int.mpr rfl) ih
theorem se_lrng {e : Expr} {x : E} {m : Bool} {p2 : Pos} (hc : X.calm = true) (hg : Gl X "list") (hm : X.mg "list" = none) (hg2 : Gl X "range") (hm2 : X.mg "range" = none) (hs : stB e = false) (he : SE Γ X e (evE C x)) :
    SE Γ X (.Call (.Name "list" p) [.Call (.Name "range" p2) [e] [] cpos] [] pos) (evE C (.op (.lrng m) [x])) := by
  intro W tk
  refine PE.imp (pe_listRg hc hg hm (prg_1 hg2 hm2 (he W tk) (star_cons hs)) (star_cons rfl)) ?_
  rintro σ H Q ⟨loc, s, R, L, A⟩
  rw [evE_op1] at A
  refine ⟨loc, s, R, L, A.bind.imp (fun v s1 H1 x1 R1 A1 u r => ?_) (fun _ _ _ _ _ q => q)⟩
  change After Γ s1 (MH.bind (intV v) (fun i => if (decide (-(2 ^ 62) ≤ i) && decide (i < 16777216)) = true then keep m ((List.range i.toNat).map fun k => .t (.int (k : Nat))) else bad) s1.hp) _ _ at A1
  obtain ⟨i, _, e, A1⟩ := A1.intV r
  refine ⟨i, e, ?_⟩
  split at A1
  · rename_i hb
    simp only [Bool.and_eq_true, decide_eq_true_eq] at hb
    refine ⟨⟨by omega, by omega, hb.1, by omega, by omega⟩, fun q hq => After.keep R1 ?_ A1 q hq⟩
    have := rvs_rng (Γ := Γ) (F := s1.F) (ρ := s1.ρ) 0 i
    simpa using this
  · exact A1.elim

/-! ### dict displays -/
inductive SPs (Γ : Run) (X : Cx) (C : Cl) : List (Option Expr) → List Expr → List E → Prop where
  | nil : SPs Γ X C [] [] []
  | cons {k v : Expr} {mk mv : E} {ks : List (Option Expr)} {vs : List Expr} {ms : List E} (hk : SE Γ X k (evE C mk)) (hv : SE Γ X v (evE C mv)) (t : SPs Γ X C ks vs ms) : SPs Γ X C (some k :: ks) (v :: vs) (mk :: mv :: ms)
theorem SPs.len {ks : List (Option Expr)} {vs : List Expr} {ms : List E} (h : SPs Γ X C ks vs ms) : ks.all (·.isSome) = true ∧ ks.length = vs.length := by
  induction h with
  | nil => exact ⟨rfl, rfl⟩
  | cons hk hv t ih => exact ⟨by rw [List.all_cons, ih.1]; rfl, by rw [List.length_cons, List.length_cons, ih.2]⟩
theorem sps_pps {ks : List (Option Expr)} {vs : List Expr} {ms : List E} (h : SPs Γ X C ks vs ms) {W : WX} (tk : Takes X W) : ∃ trs, PPs X pos ks vs trs ∧ ∀ (acc : List (T × Val)) (us : List (Key × V)) σ H (Q : List (V × V) → Hp → Prop) loc s, Rel Γ s H → Locs Γ s loc σ → RVd Γ s.F s.ρ acc us →
    After Γ s (evPs C ms loc acc s.hp) (fun acc' s' H' => ∀ more, more.length = ks.length → RVd Γ s'.F s'.ρ acc' (mergeK us more) → Q (more.map fun kv => (kV kv.1, kv.2)) H') (XW Γ W σ) → tPairs trs σ H Q := by
  induction h with
  | nil => exact ⟨[], pps_nil, fun acc us σ H Q loc s R L ra A => by simp only [evPs] at A; exact After.ok R A [] rfl ra⟩
  | @cons k v mk mv ks vs ms hk hv t ih =>
    obtain ⟨trs, hp, kk⟩ := ih
    refine ⟨_, pps_cons (hk W tk) (hv W tk) hp, fun acc us σ H Q loc s R L ra A => ?_⟩
    simp only [evPs] at A
    refine ⟨loc, s, R, L, A.bind.imp (fun a s1 H1 x1 R1 A1 u r => ?_) (fun _ _ _ _ _ q => q)⟩
    obtain ⟨key, ek, A1⟩ := A1.keyV r
    refine ⟨loc, s1, R1, L.ext x1, A1.bind.imp (fun b s2 H2 x2 R2 A2 u2 r2 => ?_) (fun _ _ _ _ _ q => q)⟩
    subst ek
    have ra2 := ra.mono (x1.trans x2).F (x1.trans x2).ρ
    refine kk _ _ σ H2 _ loc s2 R2 ((L.ext x1).ext x2) (dput_put (k := key) r2 ra2) (A2.imp (fun acc' s3 H3 x3 R3 q more hl hr => ?_) (fun _ _ _ _ _ q => q))
    exact q ((key, u2) :: more) (by rw [List.length_cons, List.length_cons, hl]) hr
theorem se_dsp {ks : List (Option Expr)} {vs : List Expr} {ms : List E} {m : Bool} (h : SPs Γ X C ks vs ms) (h0 : ks ≠ []) (h15 : ks.length ≤ 15) : SE Γ X (.Dict ks vs pos) (evE C (.dsp m ms)) := by
  intro W tk
  obtain ⟨trs, hp, kk⟩ := sps_pps (pos := pos) h tk
  refine PE.imp (pe_disp hp h.len.1 h.len.2 h0 h15) ?_
  rintro σ H Q ⟨loc, s, R, L, A⟩
  intro q hq
  simp only [evE] at A
  obtain ⟨f1, f2⟩ := R.free hq
  obtain ⟨R1, x1⟩ := new_cell (ob := .dct []) (o := .dK []) R hq ⟨f1, f2, [], upd_same, .nil⟩
  have A1 : After Γ (s.push q (.dct [])) (MH.bind (evPs C ms loc []) (fun acc => MH.bind (fillD s.hp.length acc) fun _ => if m = true then (MH.pure (Val.ref s.hp.length) : MH Val) else MH.bind (MS.pur (Val.ref s.hp.length)) fun x => MH.pure (Val.t x)) (s.push q (.dct [])).hp) (fun x s' H' => ∀ z, RV Γ s'.F s'.ρ x z → Q z H') (XW Γ W σ) := (show After Γ s _ _ _ from A).from x1
  have eρ : (s.push q (.dct [])).ρ[s.hp.length]? = some q := by
    show (s.ρ ++ [q])[s.hp.length]? = some q
    rw [← R.len, List.getElem?_append_right (Nat.le_refl _), Nat.sub_self]
    rfl
  refine kk [] [] σ _ _ loc _ R1 (L.ext x1) .nil (A1.bind.imp (fun acc s2 H2 x2 R2 A2 more hl ra => ?_) (fun _ _ _ _ _ q => q))
  unfold MH.bind fillD at A2
  have eρ2 := pre_get x2.ρ eρ
  cases ec : s2.hp[s.hp.length]? with
  | none => rw [ec] at A2; exact A2.elim
  | some ob =>
    rw [ec] at A2
    obtain ⟨b, eb, cc⟩ := R2.cell _ _ ec
    rw [eρ2] at eb; cases eb
    cases ob with
    | dct kvs =>
      cases kvs with
      | nil =>
        obtain ⟨c1, c2, us, c3, c4⟩ := cc
        cases c4
        refine ⟨c3, more, rfl, by rw [hl]; exact h15, ?_⟩
        obtain ⟨R3, x3⟩ := wr_cell (ob := .dct acc) (o := .dK (mergeK [] more)) R2 eρ2 c1 c2 ⟨c1, c2, _, upd_same, ra⟩
        have A3 : After Γ (s2.wr s.hp.length (.dct acc)) ((if m = true then (MH.pure (Val.ref s.hp.length) : MH Val) else MH.bind (MS.pur (Val.ref s.hp.length)) fun x => MH.pure (Val.t x)) (s2.wr s.hp.length (.dct acc)).hp) (fun x s' H' => ∀ z, RV Γ s'.F s'.ρ x z → Q z H') (XW Γ W σ) := (show After Γ s2 _ _ _ from A2).from x3
        have rv : RV Γ (s2.wr s.hp.length (.dct acc)).F (s2.wr s.hp.length (.dct acc)).ρ (.ref s.hp.length) (.ref q) := ⟨q, eρ2, rfl⟩
        cases m with
        | true => exact After.ok R3 A3 _ rv
        | false =>
          obtain ⟨x, s4, x4, R4, rx, A4⟩ := After.pur R3 rv A3
          exact After.ok R4 A4 _ rx
      | cons _ _ => exact A2.elim
    | _ => exact A2.elim
end
end MS

set_option Elab.async false
set_option linter.all false
set_option maxRecDepth 100000
/-! MSM: calls of defs and methods. -/
namespace MS
open PySem PySem.Spec PyProof.Rows L2
/-- what stands of the defs: addresses, parameters, the methods' names -/
structure Info where
  ok : Nat → Bool
  fA : Nat → Addr
  fd : Nat → FuncData
  ps : Nat → List Str
  mN : Nat → Str
  sps : Sp → Bool
  pos : Nat → Bool
/-- a def by the interpreter -/
def spM (Γ : Run) (n : Nat) (g : List Val → MH Val) : L2.Sp := fun us H Q E => us.length = n ∧ ∃ vs s, Rel Γ s H ∧ RVs Γ s.F s.ρ vs us ∧ After Γ s (g vs s.hp) (fun v s' H' => ∀ u, RV Γ s'.F s'.ρ v u → Q u H') (fun e _ H' => ∀ cls d, ExR Γ.cA e cls d H' → E cls d H')
/-- a level of calls, at X -/
structure Lev (Γ : Run) (X : Cx) (I : Info) (k : Nat) (g : Nat → List Val → MH Val) : Prop where
  fn : ∀ f, I.ok f = true → FnOk X.prog X.w X.K X.mg X.base (L2.CX X.prog X.w) k (I.fA f) (I.fd f) (I.ps f) (spM Γ (I.ps f).length (g f)) ∧ (I.pos f = true → Binds X.K (I.fd f) (I.ps f) [])
  no : ∀ f, I.ok f = false → ∀ vs h, g f vs h = .bad
  len : ∀ f vs h, g f vs h ≠ .bad → vs.length = (I.ps f).length
def tyVal (cA : Nat → Addr) : Ty → Value
  | .non => .type "NoneType"
  | .bl => .type "bool"
  | .int => .type "int"
  | .str => .type "str"
  | .tup => .type "tuple"
  | .lst => .type "list"
  | .dct => .type "dict"
  | .ins c => .ref (cA c)
def spVal (cA : Nat → Addr) : Sp → Value
  | .cls d => .ref (cA d)
  | .str => .type "str"
  | .list => .type "list"
  | .tuple => .type "tuple"
  | .int => .type "int"
  | .dict => .type "dict"
def spV (cA : Nat → Addr) : Sp → V
  | .cls d => .ref (cA d)
  | .str => .ty "str"
  | .list => .ty "list"
  | .tuple => .ty "tuple"
  | .int => .ty "int"
  | .dict => .ty "dict"
theorem sp_cls (cA : Nat → Addr) (s : Sp) : ClsV (spV cA s) (spVal cA s) := by
  cases s <;> first | exact .ty _ | exact .own _
structure Ctx (Γ : Run) (X : Cx) (C : Cl) (I : Info) (k : Nat) : Prop where
  hK : X.K = Γ.K
  room : Room (k + 1) X.A
  calm : X.calm = true
  fn : Lev Γ X I (k + 1) C.fn
  nw : Lev Γ X I k C.nw
  mth : ∀ c m f, C.mth c m = some f → Meth X.K (Γ.cA c) (I.mN m) (I.fA f)
  mfl : ∀ c m f, C.mth c m = some f → ∀ g, fldN g ≠ I.mN m
  mps : ∀ c m f, C.mth c m = some f → I.pos f = true
  ini : ∀ c f, C.ini c = some f → Mk X.K (Γ.cA c) (I.fA f)
  cls : ∀ c, Cls X.K (Γ.cA c)
  nf : ∀ c d, (d == c || !C.isa d c) = true → PySem.W.notFirst X.K (Γ.cA c) (.ref (Γ.cA d)) = true
  mN0 : I.mN mEq = "__eq__"
  mN1 : I.mN mIn = "__contains__"
  ne : ∀ c, PySem.W.findIn X.K (.ref (Γ.cA c)) "__ne__" = some (some (.builtin "object.__ne__"))
  kit : ∀ t s, I.sps s = true → PySem.W.kitOne X.K (tyVal Γ.cA t) (spVal Γ.cA s) = some (tyIs C.isa t s)
  ca : ∀ c, PySem.W.findIn X.K (.ref (Γ.cA c)) "__class__" = some (some (.builtin "object.__class__"))
  cg : PySem.W.specialIn X.K (.builtin "object.__class__") "__get__" = some (some (.builtin "getset_descriptor.__get__"))
  ct : PySem.W.takesIn X.K (.builtin "object.__class__") = some true
  ob : ∀ c, PySem.W.mroIn X.K (Γ.cA c) (.type "object") = some true

section
variable {Γ : Run} {X : Cx} {C : Cl} {I : Info} {k : Nat} {pos p apos cpos : Pos}
/-! ### a call apart -/
theorem RVs.apart {F : Hp} {ρ ρ' : List Addr} : ∀ {vs : List Val} {us : List V}, vs.all Val.isT = true → RVs Γ F ρ vs us → RVs Γ F ρ' vs us
  | _, _, _, .nil => .nil
  | v :: vs, _, h, .cons r t => by
    rw [List.all_cons, Bool.and_eq_true] at h
    refine .cons ?_ (RVs.apart h.2 t)
    cases v with
    | t x => exact r
    | ref n => exact absurd h.1 (by simp [Val.isT])
open Classical in
noncomputable def AS.away (s : AS) (H : Hp) : AS := ⟨[], s.F, fun p => if s.F p = none ∧ p ∈ s.ρ then H p else s.Fr p, []⟩
def AS.back (s s' : AS) : AS := ⟨s.hp, s'.F, s.Fr, s.ρ⟩
open Classical in
theorem away_rel {s : AS} {H : Hp} (R : Rel Γ s H) : Rel Γ (s.away H) H := by
  refine ⟨R.fz, fun q o e => ?_, fun q o e => ?_, rfl, fun m n a e => ?_, fun n a e => ?_, fun n a e => ?_, fun n ob e => ?_⟩
  · have e : (if s.F q = none ∧ q ∈ s.ρ then H q else s.Fr q) = some o := e
    split at e
    · exact e
    · exact R.fr q o e
  · have e : (if s.F q = none ∧ q ∈ s.ρ then H q else s.Fr q) = some o := e
    split at e
    · rename_i h; exact h.1
    · exact R.dj q o e
  · simp [AS.away] at e
  · simp [AS.away] at e
  · simp [AS.away] at e
  · simp [AS.away] at e
open Classical in
theorem back_rel {s s' : AS} {H H' : Hp} (R : Rel Γ s H) (x : Ext (s.away H) s') (R' : Rel Γ s' H') : Rel Γ (s.back s') H' ∧ Ext s (s.back s') := by
  have fr : ∀ q o, (if s.F q = none ∧ q ∈ s.ρ then H q else s.Fr q) = some o → s'.Fr q = some o := fun q o e => by rw [x.Fr]; exact e
  have frs : ∀ q o, s.Fr q = some o → s'.Fr q = some o := fun q o e => by
    refine fr q o ?_
    split
    · exact R.fr q o e
    · exact e
  have le : Le s.F s'.F := x.F
  have held : ∀ n a, s.ρ[n]? = some a → s.F a = none → ∀ o, H a = some o → s'.Fr a = some o := fun n a ea fa o ho => by
    refine fr a o ?_
    rw [if_pos ⟨fa, List.mem_of_getElem? ea⟩]
    exact ho
  refine ⟨⟨R'.fz, fun q o e => R'.fr q o (frs q o e), fun q o e => R'.dj q o (frs q o e), R.len, R.inj, fun n a e => ?_, R.nf, fun n ob e => ?_⟩, ⟨le, rfl, List.prefix_refl _⟩⟩
  · cases fa : s.F a with
    | some o => rw [R'.fz a o (le a o fa)]; simp
    | none =>
      have ht := R.th n a e
      cases ho : H a with
      | none => exact absurd ho ht
      | some o => rw [R'.fr a o (held n a e fa o ho)]; simp
  · obtain ⟨a, ea, c⟩ := R.cell n ob e
    refine ⟨a, ea, ?_⟩
    cases ob with
    | frz y => exact RT.mono le y _ c
    | lst vs =>
      obtain ⟨c1, c2, us, c3, c4⟩ := c
      have q := held n a ea c1 _ c3
      exact ⟨R'.dj a _ q, c2, us, R'.fr a _ q, c4.mono le (List.prefix_refl _)⟩
    | dct vs =>
      obtain ⟨c1, c2, us, c3, c4⟩ := c
      have q := held n a ea c1 _ c3
      exact ⟨R'.dj a _ q, c2, us, R'.fr a _ q, c4.mono le (List.prefix_refl _)⟩
    | ins m vs =>
      obtain ⟨c1, c2, dx, us, c3, c4⟩ := c
      have q := held n a ea c1 _ c3
      exact ⟨R'.dj a _ q, c2, dx, us, R'.fr a _ q, c4.mono le (List.prefix_refl _)⟩
/-- what a call must be handed -/
theorem sp_of {g : List Val → MH Val} {n : Nat} {raw : Bool} {s : AS} {H : Hp} {vs : List Val} {us : List V} {Q : VK} {E : XK} (hl : us.length = n) (R : Rel Γ s H) (r : RVs Γ s.F s.ρ vs us)
    (A : After Γ s ((if raw = true then g vs else if vs.all Val.isT = true then apart (g vs) else bad) s.hp) (fun v s' H' => ∀ u, RV Γ s'.F s'.ρ v u → Q u H') (fun e _ H' => ∀ cls d, ExR Γ.cA e cls d H' → E cls d H')) : spM Γ n g us H Q E := by
  refine ⟨hl, ?_⟩
  cases raw with
  | true => exact ⟨vs, s, R, r, A⟩
  | false =>
    have A : After Γ s ((if vs.all Val.isT = true then apart (g vs) else bad) s.hp) _ _ := A
    split at A
    · rename_i ht
      refine ⟨vs, s.away H, away_rel R, RVs.apart ht r, ?_⟩
      show After Γ (s.away H) (g vs []) _ _
      unfold apart at A
      cases e : g vs [] with
      | bad => rw [e] at A; exact A.elim
      | exc y h2 =>
        rw [e] at A
        intro s' H' _ x R'
        obtain ⟨R2, x2⟩ := back_rel R x R'
        exact A (s.back s') H' rfl x2 R2
      | ok v h2 =>
        rw [e] at A
        cases v with
        | ref m => exact A.elim
        | t y =>
          intro s' H' _ x R' u ru
          obtain ⟨R2, x2⟩ := back_rel R x R'
          exact A (s.back s') H' rfl x2 R2 u ru
    · exact A.elim

theorem Lev.not_bad {g : Nat → List Val → MH Val} (L : Lev Γ X I k g) {f : Nat} {raw : Bool} {s : AS} {vs : List Val} {Q : Val → AS → Hp → Prop} {E : Ex → AS → Hp → Prop} (A : After Γ s ((if raw = true then g f vs else if vs.all Val.isT = true then apart (g f vs) else bad) s.hp) Q E) : I.ok f = true ∧ vs.length = (I.ps f).length := by
  have key : ∃ h, g f vs h ≠ .bad := by
    cases raw with
    | true => exact ⟨s.hp, fun z => by rw [if_pos rfl, z] at A; exact A⟩
    | false =>
      rw [if_neg (by simp)] at A
      split at A
      · refine ⟨[], fun z => ?_⟩
        unfold apart at A
        rw [z] at A
        exact A
      · exact A.elim
  obtain ⟨h, hb⟩ := key
  refine ⟨?_, L.len f vs h hb⟩
  cases e : I.ok f with
  | true => rfl
  | false => exact absurd (L.no f e vs h) hb
/-- a call of a def, its arguments there -/
theorem Lev.run {g : Nat → List Val → MH Val} (L : Lev Γ X I k g) (hr : Room k X.A) {W : WX} (tk : Takes X W) {f : Nat} (hp : I.pos f = true) {raw : Bool} {s : AS} {H : Hp} {vs : List Val} {us : List V} {uv : List Value} {Q : VK} {σ : L2.St} {pins : List (Addr × Obj)} {S : Shared} (J : Inv X pins σ H S) (rv : Vals us uv) (R : Rel Γ s H) (r : RVs Γ s.F s.ρ vs us)
    (A : After Γ s ((if raw = true then g f vs else if vs.all Val.isT = true then apart (g f vs) else bad) s.hp) (fun v s' H' => ∀ u, RV Γ s'.F s'.ρ v u → Q u H') (XW Γ W σ)) : wpAny (model X.prog X.w) X.A (call (.ref (I.fA f)) uv) (EP X pins σ Q) X.xe S := by
  obtain ⟨h1, h2⟩ := L.not_bad A
  obtain ⟨F, B⟩ := L.fn f h1
  have B := B hp
  refine run_fnSD (ds := []) (dvs := []) (E := WE W) F hr B .nil (passAt tk σ) J rv ?_
  rw [List.append_nil]
  exact sp_of (by rw [← Paired.len r]; exact h2) R r A
end
end MS

set_option Elab.async false
set_option linter.all false
set_option maxRecDepth 100000
/-! MSN: calls as expressions. -/
namespace MS
open PySem PySem.Spec PyProof.Rows L2
section
variable {Γ : Run} {X : Cx} {C : Cl} {I : Info} {k : Nat} {pos p apos cpos : Pos}
/-- o.m(..): the object first, what is asked of it, then the arguments -/
theorem wp_meth {prog : Program} {w : World} {A : Around} {E : Value → Shared → Prop} {s : Shared} {env : Env} {o : Expr} {name : Str} {apos pos : Pos} {args : List Expr} {Q : Value → Shared → Prop}
    (hbase : attributeBase o name env (eval o env) = eval o env)
    (hfew : ((backTo pos (starEach args env)).all (fun x => !x.1) && (backToKw pos (keywordEach [] env)).all (fun x => x.1.isSome)
      && decide (args.length + ([] : List Keyword).length + (if ([] : List Keyword).isEmpty then 0 else 1) < 30)) = true)
    (hline : (apos.endLine == pos.line) = true)
    (h : wpAny (model prog w) A (eval o env) (fun ov s₁ => ∀ pl, wpAny (model prog w) A (getMethod ov name pl) (fun fx s₂ => wpAny (model prog w) A (callWith pos fx.1 fx.2 (backTo pos (starEach args env)) []) Q E s₂) E s₁) E s) :
    wpAny (model prog w) A (eval (.Call (.Attribute o name apos) args [] pos) env) Q E s := by
  rw [arm_eval_Call, hbase]
  refine wpAny_bind (wpAny_mono h (fun ov s₁ h₁ => ?_) fun _ _ e => e)
  refine wpAny_bind (wpAny_standAt ?_)
  have hform : methodCallForm (args.length + ([] : List Keyword).length) (backTo pos (starEach args env)) (backToKw pos (keywordEach [] env)) = true := hfew
  have hpos : methodCallPos true o env apos pos = pure pos := by unfold methodCallPos; simp [hline]
  unfold methodCall
  rw [hform]
  refine wpAny_bind (wpAny_holding (wpAny_mono (h₁ _) (fun fx s₂ h₂ => ?_) fun _ _ e => e))
  exact wpAny_bind (wpAny_of_eq hpos h₂)
theorem look_none {F : Hp} {ρ : List Addr} {nm : Str} (hn : ∀ g, fldN g ≠ nm) : ∀ {fs : List (Nat × Val)} {ns : List (Str × V)}, RVf Γ F ρ fs ns → ns.lookup nm = none
  | _, _, .nil => rfl
  | _, _, .cons (a := p) (b := q) r t => by
    obtain ⟨j, u⟩ := q
    have r1 : j = fldN p.1 := r.1
    rw [List.lookup_cons]
    have : (nm == j) = false := by
      rw [r1]
      simpa using fun z => hn p.1 z.symm
    rw [this]
    exact look_none hn t
/-- the class of an instance -/
theorem After.clsV {β : Type} {s : AS} {H : Hp} {Q : β → AS → Hp → Prop} {E' : Ex → AS → Hp → Prop} {v : Val} {u : V} {f : Nat → MH β} (R : Rel Γ s H) (r : RV Γ s.F s.ρ v u) (h : After Γ s (MH.bind (MS.clsV v) f s.hp) Q E') :
    ∃ a c dx ns fs, u = .ref a ∧ H a = some (.ins (Γ.cA c) dx ns) ∧ RVf Γ s.F s.ρ fs ns ∧ After Γ s (f c s.hp) Q E' := by
  unfold MS.clsV at h
  cases v with
  | t x =>
    cases x with
    | ins c fs =>
      obtain ⟨a, dx, ns, e, hF, rs⟩ := rt_ins.mp r
      exact ⟨a, c, dx, ns, _, e, R.fz _ _ hF, RVf.of_ts rs, h⟩
    | _ => exact h.elim
  | ref n =>
    obtain ⟨a, ea, rfl⟩ := r
    dsimp only [MH.bind] at h
    cases ec : s.hp[n]? with
    | none => rw [ec] at h; exact h.elim
    | some ob =>
      rw [ec] at h
      obtain ⟨b, eb, cc⟩ := R.cell n _ ec
      rw [ea] at eb; cases eb
      cases ob with
      | ins c fs =>
        obtain ⟨c1, c2, dx, ns, c3, c4⟩ := cc
        exact ⟨a, c, dx, ns, fs, rfl, c3, c4, h⟩
      | frz x =>
        cases x with
        | ins c fs =>
          obtain ⟨q, dx, ns, e, hF, rs⟩ := rt_ins.mp cc
          cases e
          exact ⟨a, c, dx, ns, _, rfl, R.fz _ _ hF, RVf.of_ts rs, h⟩
        | _ => exact h.elim
      | _ => exact h.elim
theorem Ctx.room' (T : Ctx Γ X C I k) : Room k X.A := T.room.mono (Nat.le_succ k)
/-- f(e, ..) -/
theorem se_call {x : Str} {f : Nat} {raw : Bool} {e : Expr} {es : List Expr} {ms : List E} (T : Ctx Γ X C I k) (hp : I.pos f = true) (hg : Gl X x) (hm : X.mg x = some (.ref (I.fA f))) (hk : PySem.W.keepIn X.K (.ref (I.fA f)) = true)
    (ha : SA Γ X (e :: es) (evEs C ms)) (hst : (e :: es).any stB = false) (hdb : (x == ("__debug__" : Str)) = false) : SE Γ X (.Call (.Name x p) (e :: es) [] pos) (evE C (.call raw f ms)) := by
  rw [List.any_cons, Bool.or_eq_false_iff] at hst
  intro W tk
  refine ⟨fun pins S σ H Q J h => ?_⟩
  obtain ⟨loc, s, R, L, A⟩ := h
  simp only [evE] at A
  refine wpAny_Call_Name_kw (ld_glob J hg hm ?_ hdb)
  refine PySem.W.callWith_K (h₀ := X.base) J.ok.mod.kin hk (thn ((ha W tk).run pos pins S σ H (fun us H1 => ∃ vs s1, Rel Γ s1 H1 ∧ RVs Γ s1.F s1.ρ vs us ∧ After Γ s1 (callM C raw f vs s1.hp) (fun v s' H' => ∀ u, RV Γ s'.F s'.ρ v u → Q u H') (XW Γ W σ)) J
    ⟨loc, s, R, L, A.bind.imp (fun vs s1 H1 x1 R1 A1 us rs => ⟨vs, s1, R1, rs, A1⟩) (fun _ _ _ _ _ q => q)⟩) fun us s1 ⟨vs, H1, I1, r, ws, t1, R1, rs, A1⟩ => ⟨I1.kIn, ?_⟩) (star_cons hst.1) (spl_plain hst.2)
  exact T.fn.run T.room tk hp I1 r R1 rs A1
theorem se_call0 {x : Str} {f : Nat} {raw : Bool} (T : Ctx Γ X C I k) (hp : I.pos f = true) (hg : Gl X x) (hm : X.mg x = some (.ref (I.fA f))) (hk : PySem.W.keepIn X.K (.ref (I.fA f)) = true)
    (hdb : (x == ("__debug__" : Str)) = false) : SE Γ X (.Call (.Name x p) [] [] pos) (evE C (.call raw f [])) := by
  intro W tk
  refine ⟨fun pins S σ H Q J h => ?_⟩
  obtain ⟨loc, s, R, L, A⟩ := h
  simp only [evE, evEs, pure_eq, MH.pure_bind] at A
  refine wpAny_Call_Name_kw (ld_glob J hg hm ?_ hdb)
  exact PySem.W.callWith_K0 J.kIn hk (T.fn.run (us := []) T.room tk hp J .nil R .nil A)
/-- o.m(e, ..) -/
theorem evE_meth {raw : Bool} {o : E} {m : Nat} {es : List E} {loc : Loc} : evE C (.meth raw o m es) loc = MH.bind (evE C o loc) fun v => MH.bind (clsV v) fun c => match C.mth c m with
    | some f => MH.bind (evEs C es loc) fun vs => callM C raw f (v :: vs)
    | none => bad := by simp only [evE] <;> rfl
theorem se_meth {nm : Str} {m : Nat} {raw : Bool} {eo e : Expr} {es : List Expr} {o : E} {ms : List E} (T : Ctx Γ X C I k) (hn : nm = I.mN m) (ho : SE Γ X eo (evE C o)) (ha : SA Γ X (e :: es) (evEs C ms)) (hb : abB eo = false) (hst : (e :: es).any stB = false) (hlen : (e :: es).length < 20)
    (hline : (apos.endLine == cpos.line) = true) : SE Γ X (.Call (.Attribute eo nm apos) (e :: es) [] cpos) (evE C (.meth raw o m ms)) := by
  subst hn
  have h1 : stB e = false ∧ es.any stB = false := by rw [List.any_cons, Bool.or_eq_false_iff] at hst; exact hst
  intro W tk
  refine ⟨fun pins S σ H Q J h => ?_⟩
  obtain ⟨loc, s, R, L, A⟩ := h
  rw [evE_meth] at A
  refine wp_meth (base_no hb) (few_plain hst hlen) hline (thn ((ho W tk).run pins S σ H (fun u H1 => ∃ v s1, Rel Γ s1 H1 ∧ Ext s s1 ∧ RV Γ s1.F s1.ρ v u ∧ After Γ s1 (MH.bind (MS.clsV v) (fun c => match C.mth c m with
    | some f => MH.bind (evEs C ms loc) fun vs => callM C raw f (v :: vs)
    | none => bad) s1.hp) (fun v s' H' => ∀ u, RV Γ s'.F s'.ρ v u → Q u H') (XW Γ W σ)) J
    ⟨loc, s, R, L, A.bind.imp (fun v s1 H1 x1 R1 A1 u r => ⟨v, s1, R1, x1, r, A1⟩) (fun _ _ _ _ _ q => q)⟩) fun ov S1 hov => ?_)
  obtain ⟨u, H1, J1, ru, v, s1, R1, x1, r, A1⟩ := hov
  intro pl
  obtain ⟨a, c, dx, ns, fs, eu, hH, hf, A2⟩ := After.clsV R1 r A1
  subst eu
  cases (show ov = Value.ref a from ru)
  cases hm : C.mth c m with
  | none => rw [hm] at A2; exact A2.elim
  | some f =>
    rw [hm] at A2
    refine getmeth_ok J1 hH (T.cls c) (T.mth c m f hm) (look_none (T.mfl c m f hm) hf) ?_
    refine PySem.W.callWith_K (first := [.ref a]) (h₀ := X.base) J1.ok.mod.kin (T.mth c m f hm).kp (thn ((ha W tk).run cpos pins S1 σ H1 (fun us H2 => ∃ vs s2, Rel Γ s2 H2 ∧ RV Γ s2.F s2.ρ v (.ref a) ∧ RVs Γ s2.F s2.ρ vs us ∧ After Γ s2 (callM C raw f (v :: vs) s2.hp) (fun v s' H' => ∀ u, RV Γ s'.F s'.ρ v u → Q u H') (XW Γ W σ)) J1
      ⟨loc, s1, R1, L.ext x1, A2.bind.imp (fun vs s2 H2 x2 R2 A3 us rs => ⟨vs, s2, R2, r.ext x2, rs, A3⟩) (fun _ _ _ _ _ q => q)⟩) fun us' S2 ⟨us, H2, I2, rw2, vs, s2, R2, r2, rs, A3⟩ => ⟨I2.kIn, ?_⟩) (star_cons h1.1) (spl_plain h1.2)
    exact T.fn.run (us := V.ref a :: us) (uv := Value.ref a :: us') T.room tk (T.mps c m f hm) I2 (.cons rfl rw2) R2 (.cons r2 rs) A3
theorem se_meth0 {nm : Str} {m : Nat} {raw : Bool} {eo : Expr} {o : E} (T : Ctx Γ X C I k) (hn : nm = I.mN m) (ho : SE Γ X eo (evE C o)) (hb : abB eo = false)
    (hline : (apos.endLine == cpos.line) = true) : SE Γ X (.Call (.Attribute eo nm apos) [] [] cpos) (evE C (.meth raw o m [])) := by
  subst hn
  intro W tk
  refine ⟨fun pins S σ H Q J h => ?_⟩
  obtain ⟨loc, s, R, L, A⟩ := h
  rw [evE_meth] at A
  refine wp_meth (base_no hb) (by rfl) hline (thn ((ho W tk).run pins S σ H (fun u H1 => ∃ v s1, Rel Γ s1 H1 ∧ Ext s s1 ∧ RV Γ s1.F s1.ρ v u ∧ After Γ s1 (MH.bind (MS.clsV v) (fun c => match C.mth c m with
    | some f => MH.bind (evEs C [] loc) fun vs => callM C raw f (v :: vs)
    | none => bad) s1.hp) (fun v s' H' => ∀ u, RV Γ s'.F s'.ρ v u → Q u H') (XW Γ W σ)) J
    ⟨loc, s, R, L, A.bind.imp (fun v s1 H1 x1 R1 A1 u r => ⟨v, s1, R1, x1, r, A1⟩) (fun _ _ _ _ _ q => q)⟩) fun ov S1 hov => ?_)
  obtain ⟨u, H1, J1, ru, v, s1, R1, x1, r, A1⟩ := hov
  intro pl
  obtain ⟨a, c, dx, ns, fs, eu, hH, hf, A2⟩ := After.clsV R1 r A1
  subst eu
  cases (show ov = Value.ref a from ru)
  cases hm : C.mth c m with
  | none => rw [hm] at A2; exact A2.elim
  | some f =>
    rw [hm] at A2
    simp only [evEs, pure_eq, MH.pure_bind] at A2
    refine getmeth_ok J1 hH (T.cls c) (T.mth c m f hm) (look_none (T.mfl c m f hm) hf) ?_
    exact PySem.W.callWith_K0 (first := [.ref a]) J1.kIn (T.mth c m f hm).kp (T.fn.run (us := [V.ref a]) (uv := [Value.ref a]) T.room tk (T.mps c m f hm) J1 (.cons rfl .nil) R1 (.cons r .nil) A2)
end
end MS

set_option Elab.async false
set_option linter.all false
set_option maxRecDepth 100000
/-! MSNe: != by the own ==. -/
namespace PySem.W
open PySem PySem.Calls PyProof.Rows Builtin
section
variable {prog : Program} {w : World} {A : Around} {E : Value → Shared → Prop} {s : Shared} {K : Frag} {x C f : Addr} {ox : Obj} {od : Option Obj} {name : Str} {b tb : Value}
theorem ifBound_B {M : Model} {id : String} {B : String} {args : List Value} {Q : Option Value → Shared → Prop} (X : K.In s.heap) (I : InstAt s.heap x ox C od) (hs : findIn K (.ref C) name = some (some (.builtin id))) (S : Slot B name id)
    (h : wpAny M A (call (.builtin id) (.ref x :: args)) (fun v => Q (some v)) E s) : wpAny M A (callSpecialIfBound? (.ref x) name args) Q E s := by
  simp only [callSpecialIfBound?, bindSpecialIfBound?]
  refine wpAny_holding (wpAny_bind (wpAny_bind (wpAny_bind (I.type.here ((looks_findIn X hs).here ?_)))))
  simp only [S.bind]
  refine wpAny_bind (wpAny_askSetting (wpAny_ite ?_))
  have fin : wpAny M A (call (.builtin id) ([.ref x] ++ args) >>= fun v => pure (some v)) Q E s := wpAny_bind (wpAny_mono h (fun v s' h' => wpAny_pure h') fun _ _ h' => h')
  split
  · exact wpAny_bind (wpAny_pure (wpAny_pure fin))
  · exact wpAny_tryCatch (wpAny_bind (wpAny_pure (wpAny_pure fin)))
theorem objNe_K {Q : Fin → Shared → Prop} (hu : A.units < cLine) (X : K.In s.heap) (I : InstAt s.heap x ox C od) (hs : findIn K (.ref C) "__eq__" = some (some (.ref f))) (hf : isFn K (.ref f) = true)
    (hcall : wpAny (model prog w) A (call (.ref f) [.ref x, b]) (fun v s' => ∃ b, v = .bool b ∧ Q (.done (.ret (.bool (!b)))) s') E s) :
    wpAny (model prog w) A (Builtin.«object.__ne__» ⟨[.ref x, b], []⟩) Q E s := by
  unfold Builtin.«object.__ne__»
  repeat (first
    | with_reducible refine wpAny_cRoomFor hu ?_
    | (refine wpAny_bind (m := callSpecialIfBound? (.ref x) (Str.ofString "__eq__") [b])
        (ifBound_K X I hs hf (wpAny_mono hcall (fun r s' hr => by
          obtain ⟨b, rfl, hq⟩ := hr
          repeat (first | exact hq | exact wpAny_pure hq | exact wpAny_truthy_bool hq | (refine wpAny_bind (m := truthy (.bool _)) (wpAny_truthy_bool ?_)) | wp_step)) fun _ _ e => e)))
    | wp_step)
theorem ne_K {Q : Value → Shared → Prop} (hu : A.units + 1 < cLine) (X : K.In s.heap) (I : InstAt s.heap x ox C od) (hb : Looks (model prog w) s.heap (typeOf b) tb) (hn : notFirst K C tb = true) (hne : findIn K (.ref C) "__ne__" = some (some (.builtin "object.__ne__")))
    (ho : mroIn K C (.type "object") = some true) (hs : findIn K (.ref C) "__eq__" = some (some (.ref f))) (hf : isFn K (.ref f) = true)
    (h : wpAny (model prog w) A.in1 (call (.ref f) [.ref x, b]) (fun v s' => ∃ b, v = .bool b ∧ Q (.bool (!b)) s') E s) : wpAny (model prog w) A (richCompare .NotEq (.ref x) b) Q E s := by
  have inst : Looks (model prog w) s.heap (isInstance (.ref x) (.type "object")) true := I.type.andThen (looks_mroIn X ho)
  have one : wpAny (model prog w) A (tryCompare (.ref x) "__ne__" b) (fun r s' => ∃ v, r = some v ∧ Q v s') E s := by
    unfold tryCompare
    refine wpAny_bind (ifBound_B X I hne F.cmp_object.ne (wpAny_call (codeAny_call_builtin F.cmp_object.ne.plain F.cmpEntry_ne
      (check_slot F.cmpKind_ne F.cmpSplit_ne inst (F.cmpArgs_ne _ _) (objNe_K (A := A.in1) hu X I hs hf (wpAny_mono h (fun v s' hv => ?_) fun _ _ e => e))))))
    obtain ⟨b, rfl, hq⟩ := hv
    refine ⟨b, rfl, ?_⟩
    first | exact wpAny_pure ⟨_, rfl, hq⟩ | exact ⟨_, rfl, hq⟩
  unfold richCompare
  simp only [oneThing_ref]
  refine wpAny_holding (wpAny_bind (wpAny_cRoomFor (Nat.lt_of_succ_lt hu) ?_))
  refine wpAny_bind (I.type.here (wpAny_bind (hb.here ?_)))
  split
  · rename_i q
    have e : subIn K tb (.ref C) = some false := by
      rcases Bool.or_eq_true_iff.mp hn with e | e
      · rw [beq_iff_eq.mp e] at q; simp at q
      · exact beq_iff_eq.mp e
    refine wpAny_bind ((looks_subIn X e).here ?_)
    simp only [Bool.false_eq_true, if_false]
    refine wpAny_bind (wpAny_mono one (fun r s' z => ?_) fun _ _ e => e)
    obtain ⟨v, rfl, hq⟩ := z
    exact wpAny_pure hq
  · refine wpAny_bind (wpAny_pure ?_)
    simp only [Bool.false_eq_true, if_false]
    refine wpAny_bind (wpAny_mono one (fun r s' z => ?_) fun _ _ e => e)
    obtain ⟨v, rfl, hq⟩ := z
    exact wpAny_pure hq
end
end PySem.W

set_option Elab.async false
set_option linter.all false
set_option maxRecDepth 100000
/-! MSO: ==, !=, in, not in. -/
namespace MS
open PySem PySem.Spec PyProof.Rows L2
section
variable {Γ : Run} {X : Cx} {C : Cl} {I : Info} {k : Nat} {pos p apos cpos : Pos}
/-- two values, by the interpreter's f -/
def rM (Γ : Run) (W : WX) (f : Val → Val → MH Val) : L2.St → R2 := fun σ x y H Q => ∃ s v w, Rel Γ s H ∧ RV Γ s.F s.ρ v x ∧ RV Γ s.F s.ρ w y ∧ After Γ s (f v w s.hp) (fun z s' H' => ∀ u, RV Γ s'.F s'.ρ z u → Q u H') (XW Γ W σ)
theorem sc_of {op : CmpOp} {ea eb : Expr} {a b m : E} {f : Val → Val → MH Val} (ho : ∀ W, Takes X W → OpS X (compareOp op) (rM Γ W f)) (hm : ∀ loc, evE C m loc = MH.bind (evE C a loc) fun v => MH.bind (evE C b loc) fun w => f v w) (ha : SE Γ X ea (evE C a)) (hb : SE Γ X eb (evE C b)) (hs : behindInMarks op eb = false) :
    SC Γ X (.Compare ea [op] [eb] pos) (evE C m) := by
  refine fun W tk => ⟨op, ea, eb, rM Γ W f, _, _, pos, rfl, ho W tk, ha W tk, hb W tk, hs, fun σ H Q h => ?_⟩
  obtain ⟨loc, s, R, L, A⟩ := h
  rw [hm] at A
  refine ⟨loc, s, R, L, A.bind.imp (fun v s1 H1 x1 R1 A1 u r => ?_) (fun _ _ _ _ _ q => q)⟩
  refine ⟨loc, s1, R1, L.ext x1, A1.bind.imp (fun w s2 H2 x2 R2 A2 u' r' => ?_) (fun _ _ _ _ _ q => q)⟩
  exact ⟨s2, v, w, R2, r.ext x2, r', A2⟩
theorem scal2_ok {F : Hp} {ρ : List Addr} {v w : Val} {x y : V} {b : Bool} (r : RV Γ F ρ v x) (r' : RV Γ F ρ w y) (h : scal2 v w = some b) : scal x y = true ∧ decide (x = y) = b := by
  unfold scal2 at h
  split at h
  · rename_i a c
    split at h
    · split at h
      all_goals first
        | (rw [rv_non.mp r, rv_non.mp r']; cases h; exact ⟨rfl, by simp⟩)
        | (rw [rv_bl.mp r, rv_bl.mp r']; cases h; exact ⟨rfl, by simp⟩)
        | (rw [rv_int.mp r, rv_int.mp r']; cases h; exact ⟨rfl, by simp⟩)
        | (rw [rv_str.mp r, rv_str.mp r']; cases h; exact ⟨rfl, by simp⟩)
        | (rw [rv_int.mp r, rv_str.mp r']; cases h; exact ⟨rfl, by simp⟩)
        | (rw [rv_str.mp r, rv_int.mp r']; cases h; exact ⟨rfl, by simp⟩)
        | (rw [rv_bl.mp r, rv_str.mp r']; cases h; exact ⟨rfl, by simp⟩)
        | (rw [rv_str.mp r, rv_bl.mp r']; cases h; exact ⟨rfl, by simp⟩)
        | cases h
        | skip
      · rename_i hs hx
        rw [rv_non.mp r]
        cases c with
        | non => exact (hx rfl).elim
        | bl z => rw [rv_bl.mp r']; exact ⟨rfl, by simp⟩
        | int z => rw [rv_int.mp r']; exact ⟨rfl, by simp⟩
        | str z => rw [rv_str.mp r']; exact ⟨rfl, by simp⟩
        | _ => simp [scalT] at hs
      · rename_i q0 q1 hx q2
        rw [rv_non.mp r']
        cases a with
        | non => exact (hx rfl).elim
        | bl z => rw [rv_bl.mp r]; exact ⟨rfl, by simp⟩
        | int z => rw [rv_int.mp r]; exact ⟨rfl, by simp⟩
        | str z => rw [rv_str.mp r]; exact ⟨rfl, by simp⟩
        | _ => first | (simp [scalT] at q0; done) | (simp [scalT] at q1; done) | (simp [scalT] at q2; done)
    · cases h
  · cases h
/-- a call at one unit more -/
theorem Lev.run1 {g : Nat → List Val → MH Val} (L : Lev Γ X I k g) (hr : Room k X.A.in1) {W : WX} (tk : Takes X W) {f : Nat} (hp : I.pos f = true) {s : AS} {H : Hp} {vs : List Val} {us : List V} {uv : List Value} {Q : VK} {σ : L2.St} {pins : List (Addr × Obj)} {S : Shared} (J : Inv X pins σ H S) (rv : Vals us uv) (R : Rel Γ s H) (r : RVs Γ s.F s.ρ vs us)
    (A : After Γ s ((if vs.all Val.isT = true then apart (g f vs) else bad) s.hp) (fun v s' H' => ∀ u, RV Γ s'.F s'.ρ v u → Q u H') (XW Γ W σ)) : wpAny (model X.prog X.w) X.A.in1 (call (.ref (I.fA f)) uv) (EP X pins σ Q) X.xe S := by
  have A' : After Γ s ((if (false = true) then g f vs else if vs.all Val.isT = true then apart (g f vs) else bad) s.hp) (fun v s' H' => ∀ u, RV Γ s'.F s'.ρ v u → Q u H') (XW Γ W σ) := by
    rw [if_neg (by simp)]; exact A
  obtain ⟨h1, h2⟩ := L.not_bad (raw := false) A'
  obtain ⟨F, B⟩ := L.fn f h1
  have B := B hp
  have hl : us.length = (I.ps f).length := by rw [← Paired.len r]; exact h2
  have hsp := sp_of (raw := false) (E := WE W σ) hl R r A'
  have b := B S uv J.kIn (by rw [List.append_nil, ← rv.length]; exact hl)
  rw [List.append_nil] at b
  have e0 := J.env0
  have e1 : Env0 X.prog X.w X.K X.mg X.base X.A.in1 X.stack S H := ⟨e0.frames, e0.mod, e0.bs, e0.bsz, e0.funs, e0.frf, e0.hok, e0.bare⟩
  refine wpAny_call (codeAny_mono (F.run X.A.in1 X.stack S H ⟨uv, []⟩ uv us Q (WE W σ) hr e1 b rv hsp) fun r s' hq => ?_)
  cases r with
  | error e => exact passAt tk σ pins H S e s' J hq
  | ok fl =>
    cases fl with
    | ret u => exact J.after hq
    | next => exact False.elim hq
    | brk => exact False.elim hq
    | cont => exact False.elim hq
theorem Ctx.cu (T : Ctx Γ X C I k) : X.A.units + 65 < cLine := by
  have := T.room.un
  omega
theorem boolEP {pins : List (Addr × Obj)} {σ : L2.St} {Q : VK} {P : Bool → Shared → Prop} {v : Value} {S : Shared} (h : EP X pins σ (fun u H' => ∃ b, u = .bl b ∧ Q (.bl b) H') v S) (hp : ∀ b H, Inv X pins σ H S → Q (.bl b) H → P b S) : ∃ b, v = .bool b ∧ P b S := by
  obtain ⟨u, H1, J, ru, b, e, q⟩ := h
  subst e
  cases ru
  exact ⟨b, rfl, hp b H1 J q⟩
/-- == -/
theorem eq_ok (T : Ctx Γ X C I k) {W : WX} (tk : Takes X W) : OpS X (compareOp .Eq) (rM Γ W (eqM C false)) := by
  intro pins S σ H x y v u Q J rx ry h
  obtain ⟨s, a, b, R, ra, rb, A⟩ := h
  unfold eqM at A
  split at A
  · rename_i d hd
    obtain ⟨h1, h2⟩ := scal2_ok ra rb hd
    refine op_eq pins S σ H x y v u Q J rx ry ⟨h1, ?_⟩
    rw [h2]
    rw [Bool.xor_false] at A
    exact A s H rfl (Ext.refl s) R _ (rv_bl.mpr rfl)
  · split at A
    · obtain ⟨p, c, dx, ns, fs, e, hH, hf, A⟩ := After.clsV R ra A
      obtain ⟨q, d, dy, ns', fs', e', hH', hf', A⟩ := After.clsV R rb A
      subst e e'
      cases (show v = Value.ref p from rx)
      cases (show u = Value.ref q from ry)
      cases hm : C.mth c mEq with
      | none => rw [hm] at A; exact A.elim
      | some f =>
        rw [hm] at A
        dsimp only at A
        split at A
        · rename_i hn
          obtain ⟨mA, O, _⟩ := ins_get J.hok hH
          obtain ⟨od, Jx, _⟩ := O.look
          obtain ⟨mB, O', _⟩ := ins_get J.hok hH'
          obtain ⟨od', Jy, _⟩ := O'.look
          obtain ⟨m, F⟩ := J.fr
          have M := T.mth c mEq f hm
          rw [T.mN0] at M
          have A2 : After Γ s (callM C false f [a, b] s.hp) (fun z s' H' => ∀ u, RV Γ s'.F s'.ρ z u → ∃ b, u = .bl b ∧ Q (.bl b) H') (XW Γ W σ) := A.bind.imp (fun z s1 H1 x1 R1 A1 u r => by
            obtain ⟨d, _, e, A1⟩ := A1.blV r
            refine ⟨d, e, ?_⟩
            rw [Bool.xor_false] at A1
            exact After.ok R1 A1 _ (rv_bl.mpr rfl)) (fun _ _ _ _ _ q => q)
          have cu := T.cu
          refine PySem.W.cmp_K (op := .Eq) (by omega) F J.mod.kin Jx Jy.type (T.nf c d hn) M.at_ M.fn ?_
          refine wpAny_mono (T.fn.run (raw := false) (us := [.ref p, .ref q]) (uv := [.ref p, .ref q]) T.room tk (T.mps c mEq f hm) J (.cons rfl (.cons rfl .nil)) R (.cons ra (.cons rb .nil)) A2) (fun v s' hv => ?_) fun _ _ e => e
          obtain ⟨b, rfl, hb⟩ := boolEP (P := fun b s' => EP X pins σ Q (.bool b) s') hv fun b H J q => ⟨.bl b, H, J, rfl, q⟩
          exact hb
        · exact A.elim
    · obtain ⟨d, d1, s1, A⟩ := After.dataOf R ra A
      obtain ⟨e, e1, t1, A⟩ := After.dataOf R rb A
      have cu := T.cu
      rw [Bool.xor_false] at A
      refine op_eqD (by omega) pins S σ H x y v u Q J rx ry ⟨d, e, by rw [T.hK]; exact d1, by rw [T.hK]; exact e1, s1, t1, After.ok R A _ (rv_bl.mpr rfl)⟩
/-- != -/
theorem ne_ok (T : Ctx Γ X C I k) {W : WX} (tk : Takes X W) : OpS X (compareOp .NotEq) (rM Γ W (eqM C true)) := by
  intro pins S σ H x y v u Q J rx ry h
  obtain ⟨s, a, b, R, ra, rb, A⟩ := h
  unfold eqM at A
  split at A
  · rename_i d hd
    obtain ⟨h1, h2⟩ := scal2_ok ra rb hd
    refine op_ne pins S σ H x y v u Q J rx ry ⟨h1, ?_⟩
    rw [h2]
    rw [Bool.xor_true] at A
    exact A s H rfl (Ext.refl s) R _ (rv_bl.mpr rfl)
  · split at A
    · obtain ⟨p, c, dx, ns, fs, e, hH, hf, A⟩ := After.clsV R ra A
      obtain ⟨q, d, dy, ns', fs', e', hH', hf', A⟩ := After.clsV R rb A
      subst e e'
      cases (show v = Value.ref p from rx)
      cases (show u = Value.ref q from ry)
      cases hm : C.mth c mEq with
      | none => rw [hm] at A; exact A.elim
      | some f =>
        rw [hm] at A
        dsimp only at A
        split at A
        · rename_i hn
          obtain ⟨mA, O, _⟩ := ins_get J.hok hH
          obtain ⟨od, Jx, _⟩ := O.look
          obtain ⟨mB, O', _⟩ := ins_get J.hok hH'
          obtain ⟨od', Jy, _⟩ := O'.look
          obtain ⟨m, F⟩ := J.fr
          have M := T.mth c mEq f hm
          rw [T.mN0] at M
          have A2 : After Γ s (callM C.low false f [a, b] s.hp) (fun z s' H' => ∀ u, RV Γ s'.F s'.ρ z u → ∃ b, u = .bl b ∧ Q (.bl (!b)) H') (XW Γ W σ) := A.bind.imp (fun z s1 H1 x1 R1 A1 u r => by
            obtain ⟨d, _, e, A1⟩ := A1.blV r
            refine ⟨d, e, ?_⟩
            rw [Bool.xor_true] at A1
            exact After.ok R1 A1 _ (rv_bl.mpr rfl)) (fun _ _ _ _ _ q => q)
          have cu := T.cu
          have r1 : Room k X.A.in1 := ⟨T.room.hd, by have := T.room.dp; show X.A.depth + 3 * k + 5 < _; omega, by have := T.room.un; show X.A.units + 1 + 16 * k + 200 < _; omega⟩
          refine PySem.W.ne_K (by omega) J.kIn Jx Jy.type (T.nf c d hn) (T.ne c) (T.ob c) M.at_ M.fn ?_
          refine wpAny_mono (T.nw.run1 (us := [.ref p, .ref q]) (uv := [.ref p, .ref q]) r1 tk (T.mps c mEq f hm) J (.cons rfl (.cons rfl .nil)) R (.cons ra (.cons rb .nil)) A2) (fun v s' hv => ?_) fun _ _ e => e
          obtain ⟨u, H1, J1, ru, b, e, q⟩ := hv
          subst e
          cases ru
          exact ⟨b, rfl, ⟨.bl (!b), H1, J1, rfl, q⟩⟩
        · exact A.elim
    · obtain ⟨d, d1, s1, A⟩ := After.dataOf R ra A
      obtain ⟨e, e1, t1, A⟩ := After.dataOf R rb A
      have cu := T.cu
      rw [Bool.xor_true] at A
      refine op_neD (by omega) pins S σ H x y v u Q J rx ry ⟨d, e, by rw [T.hK]; exact d1, by rw [T.hK]; exact e1, s1, t1, After.ok R A _ (rv_bl.mpr rfl)⟩
theorem sc_eq {ea eb : Expr} {a b : E} (T : Ctx Γ X C I k) (ha : SE Γ X ea (evE C a)) (hb : SE Γ X eb (evE C b)) (hs : seB eb = false) : SC Γ X (.Compare ea [.Eq] [eb] pos) (evE C (.eqq false a b)) :=
  sc_of (fun W tk => eq_ok T tk) (fun loc => by simp only [evE]) ha hb (mark_no hs)
theorem sc_ne {ea eb : Expr} {a b : E} (T : Ctx Γ X C I k) (ha : SE Γ X ea (evE C a)) (hb : SE Γ X eb (evE C b)) (hs : seB eb = false) : SC Γ X (.Compare ea [.NotEq] [eb] pos) (evE C (.eqq true a b)) :=
  sc_of (fun W tk => ne_ok T tk) (fun loc => by simp only [evE]) ha hb (mark_no hs)
end
end MS

set_option Elab.async false
set_option linter.all false
set_option maxRecDepth 100000
/-! MSP: in, not in. -/
namespace MS
open PySem PySem.Spec PyProof.Rows L2
section
variable {Γ : Run} {X : Cx} {C : Cl} {I : Info} {k : Nat} {pos p apos cpos : Pos}
theorem str1 {c : Str} (h : c.length = 1) : c = ⟨#[c.cps.getD 0 0]⟩ := by
  cases c with
  | mk a =>
    have h : a.size = 1 := h
    congr 1
    apply Array.ext
    · simp [h]
    · intro i h1 h2
      have : i = 0 := by omega
      subst this
      simp [Array.getD, h]
theorem boolEPn {pins : List (Addr × Obj)} {σ : L2.St} {Q : VK} {v : Value} {S : Shared} (h : EP X pins σ (fun u H' => ∃ b, u = .bl b ∧ Q (.bl (!b)) H') v S) : ∃ b, v = .bool b ∧ EP X pins σ Q (.bool (!b)) S := by
  obtain ⟨u, H1, J, ru, b, e, q⟩ := h
  subst e
  cases ru
  exact ⟨b, rfl, ⟨.bl (!b), H1, J, rfl, q⟩⟩
theorem in_ok (T : Ctx Γ X C I k) {W : WX} (tk : Takes X W) : OpS X (compareOp .In) (rM Γ W (innM C false)) := by
  intro pins S σ H x y v u Q J rx ry h
  obtain ⟨s, a, b, R, ra, rb, A⟩ := h
  have cu := T.cu
  unfold innM at A
  split at A
  · rename_i z
    obtain ⟨c, _, ec, A⟩ := After.strV ra A
    split at A
    · rename_i hl
      rw [Bool.xor_false] at A
      exact op_in_sign pins S σ H x y v u Q J rx ry ⟨_, z, by rw [ec]; exact congrArg V.str (str1 hl), rv_str.mp rb, After.ok R A _ (rv_bl.mpr rfl)⟩
    · exact A.elim
  · split at A
    · obtain ⟨kk, ek, A⟩ := After.keyV ra A
      obtain ⟨kvs, q, us, eq, hp, rs, A⟩ := After.dctV R rb A
      have hg := dget_val (k := kk) rs
      have hs : (dget kvs (keyT kk)).isSome = (valV us kk).isSome := by
        cases e : dget kvs (keyT kk) with
        | none => rw [e] at hg; rw [hg]; rfl
        | some w => rw [e] at hg; obtain ⟨z, hz, _⟩ := hg; rw [hz]; rfl
      rw [hs, Bool.xor_false] at A
      subst eq
      cases (show u = Value.ref q from ry)
      have hq := After.ok R A _ (rv_bl.mpr rfl)
      exact d_in (y := kV kk) (o := valV us kk) (by omega) J (DGet.k hp) (by rw [← ek]; exact rx) fun s' J' => ⟨.bl (valV us kk).isSome, H, J', rfl, hq⟩
    · split at A
      · obtain ⟨q, c, dx, ns, fs, e, hH, hf, A⟩ := After.clsV R rb A
        subst e
        cases (show u = Value.ref q from ry)
        cases hm : C.mth c mIn with
        | none => rw [hm] at A; exact A.elim
        | some f =>
          rw [hm] at A
          obtain ⟨mA, O, _⟩ := ins_get J.hok hH
          obtain ⟨od, Jx, _⟩ := O.look
          obtain ⟨m, F⟩ := J.fr
          have M := T.mth c mIn f hm
          rw [T.mN1] at M
          have A2 : After Γ s (callM C false f [b, a] s.hp) (fun z s' H' => ∀ u, RV Γ s'.F s'.ρ z u → ∃ b, u = .bl b ∧ Q (.bl b) H') (XW Γ W σ) := A.bind.imp (fun z s1 H1 x1 R1 A1 u r => by
            obtain ⟨d, _, e, A1⟩ := A1.blV r
            refine ⟨d, e, ?_⟩
            rw [Bool.xor_false] at A1
            exact After.ok R1 A1 _ (rv_bl.mpr rfl)) (fun _ _ _ _ _ q => q)
          refine PySem.W.in_K F J.mod.kin Jx M.at_ M.fn ?_
          refine wpAny_mono (T.fn.run (raw := false) (us := [.ref q, x]) (uv := [.ref q, v]) T.room tk (T.mps c mIn f hm) J (.cons rfl (.cons rx .nil)) R (.cons rb (.cons ra .nil)) A2) (fun v s' hv => ?_) fun _ _ e => e
          obtain ⟨b, rfl, hb⟩ := boolEP (P := fun b s' => EP X pins σ Q (.bool b) s') hv fun b H J q => ⟨.bl b, H, J, rfl, q⟩
          exact PySem.wpAny_truthy_bool hb
      · obtain ⟨d, d1, s1, A⟩ := After.dataOf R ra A
        obtain ⟨e, e1, t1, A⟩ := After.dataOf R rb A
        cases e with
        | list es =>
          have A : After Γ s (bl ((es.any fun x => x.eqv d) ^^ false) s.hp) _ _ := A
          rw [Bool.xor_false] at A
          exact op_inD cu pins S σ H x y v u Q J rx ry ⟨d, es, by rw [T.hK]; exact d1, by rw [T.hK]; exact e1, s1, t1, After.ok R A _ (rv_bl.mpr rfl)⟩
        | tuple es =>
          have A : After Γ s (bl ((es.any fun x => x.eqv d) ^^ false) s.hp) _ _ := A
          rw [Bool.xor_false] at A
          obtain ⟨as, r1⟩ := Dp.reads J d x v (by rw [T.hK]; exact d1) rx
          obtain ⟨bs, r2⟩ := Dp.reads J (.tuple es) y u (by rw [T.hK]; exact e1) ry
          exact SeqAt.in_tuple_reads r2 r1 (SeqAt.canLay_of_shaped t1) (SeqAt.canLay_of_shaped s1) (room_in_shaped s1 cu) ⟨.bl _, H, J, rfl, After.ok R A _ (rv_bl.mpr rfl)⟩
        | _ => exact A.elim
theorem notIn_ok (T : Ctx Γ X C I k) {W : WX} (tk : Takes X W) : OpS X (compareOp .NotIn) (rM Γ W (innM C true)) := by
  intro pins S σ H x y v u Q J rx ry h
  obtain ⟨s, a, b, R, ra, rb, A⟩ := h
  have cu := T.cu
  unfold innM at A
  split at A
  · rename_i z
    obtain ⟨c, _, ec, A⟩ := After.strV ra A
    split at A
    · rename_i hl
      rw [Bool.xor_true] at A
      exact op_notIn_sign pins S σ H x y v u Q J rx ry ⟨_, z, by rw [ec]; exact congrArg V.str (str1 hl), rv_str.mp rb, After.ok R A _ (rv_bl.mpr rfl)⟩
    · exact A.elim
  · split at A
    · obtain ⟨kk, ek, A⟩ := After.keyV ra A
      obtain ⟨kvs, q, us, eq, hp, rs, A⟩ := After.dctV R rb A
      have hg := dget_val (k := kk) rs
      have hs : (dget kvs (keyT kk)).isSome = (valV us kk).isSome := by
        cases e : dget kvs (keyT kk) with
        | none => rw [e] at hg; rw [hg]; rfl
        | some w => rw [e] at hg; obtain ⟨z, hz, _⟩ := hg; rw [hz]; rfl
      rw [hs, Bool.xor_true] at A
      subst eq
      cases (show u = Value.ref q from ry)
      have hq := After.ok R A _ (rv_bl.mpr rfl)
      exact d_notIn (y := kV kk) (o := valV us kk) (by omega) J (DGet.k hp) (by rw [← ek]; exact rx) fun s' J' => ⟨.bl (!(valV us kk).isSome), H, J', rfl, hq⟩
    · split at A
      · obtain ⟨q, c, dx, ns, fs, e, hH, hf, A⟩ := After.clsV R rb A
        subst e
        cases (show u = Value.ref q from ry)
        cases hm : C.mth c mIn with
        | none => rw [hm] at A; exact A.elim
        | some f =>
          rw [hm] at A
          obtain ⟨mA, O, _⟩ := ins_get J.hok hH
          obtain ⟨od, Jx, _⟩ := O.look
          obtain ⟨m, F⟩ := J.fr
          have M := T.mth c mIn f hm
          rw [T.mN1] at M
          have A2 : After Γ s (callM C false f [b, a] s.hp) (fun z s' H' => ∀ u, RV Γ s'.F s'.ρ z u → ∃ b, u = .bl b ∧ Q (.bl (!b)) H') (XW Γ W σ) := A.bind.imp (fun z s1 H1 x1 R1 A1 u r => by
            obtain ⟨d, _, e, A1⟩ := A1.blV r
            refine ⟨d, e, ?_⟩
            rw [Bool.xor_true] at A1
            exact After.ok R1 A1 _ (rv_bl.mpr rfl)) (fun _ _ _ _ _ q => q)
          refine PySem.W.notIn_K F J.mod.kin Jx M.at_ M.fn ?_
          refine wpAny_mono (T.fn.run (raw := false) (us := [.ref q, x]) (uv := [.ref q, v]) T.room tk (T.mps c mIn f hm) J (.cons rfl (.cons rx .nil)) R (.cons rb (.cons ra .nil)) A2) (fun v s' hv => ?_) fun _ _ e => e
          obtain ⟨b, rfl, hb⟩ := boolEPn hv
          exact PySem.wpAny_truthy_bool hb
      · obtain ⟨d, d1, s1, A⟩ := After.dataOf R ra A
        obtain ⟨e, e1, t1, A⟩ := After.dataOf R rb A
        cases e with
        | list es =>
          have A : After Γ s (bl ((es.any fun x => x.eqv d) ^^ true) s.hp) _ _ := A
          rw [Bool.xor_true] at A
          exact op_notInD cu pins S σ H x y v u Q J rx ry ⟨d, es, by rw [T.hK]; exact d1, by rw [T.hK]; exact e1, s1, t1, After.ok R A _ (rv_bl.mpr rfl)⟩
        | tuple es =>
          have A : After Γ s (bl ((es.any fun x => x.eqv d) ^^ true) s.hp) _ _ := A
          rw [Bool.xor_true] at A
          obtain ⟨as, r1⟩ := Dp.reads J d x v (by rw [T.hK]; exact d1) rx
          obtain ⟨bs, r2⟩ := Dp.reads J (.tuple es) y u (by rw [T.hK]; exact e1) ry
          exact SeqAt.notIn_tuple_reads r2 r1 (SeqAt.canLay_of_shaped t1) (SeqAt.canLay_of_shaped s1) (room_in_shaped s1 cu) ⟨.bl _, H, J, rfl, After.ok R A _ (rv_bl.mpr rfl)⟩
        | _ => exact A.elim
theorem sc_in {ea eb : Expr} {a b : E} (T : Ctx Γ X C I k) (ha : SE Γ X ea (evE C a)) (hb : SE Γ X eb (evE C b)) (hs : seB eb = false) : SC Γ X (.Compare ea [.In] [eb] pos) (evE C (.inn false a b)) :=
  sc_of (fun W tk => in_ok T tk) (fun loc => by simp only [evE]) ha hb (mark_no hs)
theorem sc_notIn {ea eb : Expr} {a b : E} (T : Ctx Γ X C I k) (ha : SE Γ X ea (evE C a)) (hb : SE Γ X eb (evE C b)) (hs : seB eb = false) : SC Γ X (.Compare ea [.NotIn] [eb] pos) (evE C (.inn true a b)) :=
  sc_of (fun W tk => notIn_ok T tk) (fun loc => by simp only [evE]) ha hb (mark_no hs)
end
end MS

set_option Elab.async false
set_option linter.all false
set_option maxRecDepth 100000
/-! MSQ: isinstance. -/
namespace MS
open PySem PySem.Spec PyProof.Rows L2
section
variable {Γ : Run} {X : Cx} {C : Cl} {I : Info} {k : Nat} {pos p apos cpos : Pos}
theorem tyx_of (T : Ctx Γ X C I k) {s : AS} {H : Hp} {v : Val} {u : V} {t : Ty} (R : Rel Γ s H) (r : RV Γ s.F s.ρ v u) (h : tyM v s.hp = some t) : TyX X.K H u (tyVal Γ.cA t) := by
  have ins : ∀ {a c dx ns}, H a = some (.ins (Γ.cA c) dx ns) → TyX X.K H (.ref a) (.ref (Γ.cA c)) := fun {a c dx ns} e => .base (.ins e (T.cls c) (T.ca c) T.cg T.ct (T.ob c))
  unfold tyM at h
  cases v with
  | t x =>
    cases x with
    | non => cases h; rw [rv_non.mp r]; exact .base .non
    | bl b => cases h; rw [rv_bl.mp r]; exact .base (.bl b)
    | int b => cases h; rw [rv_int.mp r]; exact .base (.int b)
    | str b => cases h; rw [rv_str.mp r]; exact .base (.str b)
    | tup xs =>
      cases h
      obtain ⟨q, us, e, tp, rs⟩ := rt_tup.mp r
      rw [e]
      rcases tp with ⟨o, h1, _⟩ | ⟨o, its, n, h1, h2, _⟩
      · exact .fTuple (R.fz _ _ h1)
      · exact .kTuple (by rw [T.hK]; exact h1) h2
    | lst xs =>
      cases h
      obtain ⟨q, us, e, hF, rs⟩ := rt_lst.mp r
      rw [e]
      exact .base (.lst (R.fz _ _ hF))
    | dct xs =>
      cases h
      obtain ⟨q, us, e, hF, rs⟩ := rt_dct.mp r
      rw [e]
      exact .base (.dK (R.fz _ _ hF))
    | ins c fs =>
      cases h
      obtain ⟨q, dx, us, e, hF, rs⟩ := rt_ins.mp r
      rw [e]
      exact ins (R.fz _ _ hF)
    | _ => cases h
  | ref n =>
    obtain ⟨a, ea, rfl⟩ := r
    dsimp only at h
    cases ec : s.hp[n]? with
    | none => rw [ec] at h; cases h
    | some ob =>
      rw [ec] at h
      obtain ⟨b, eb, cc⟩ := R.cell n _ ec
      rw [ea] at eb; cases eb
      cases ob with
      | lst vs => cases h; obtain ⟨_, _, us, c3, _⟩ := cc; exact .base (.lst c3)
      | dct vs => cases h; obtain ⟨_, _, us, c3, _⟩ := cc; exact .base (.dK c3)
      | ins c fs => cases h; obtain ⟨_, _, dx, us, c3, _⟩ := cc; exact ins c3
      | frz x =>
        cases x with
        | lst xs =>
          cases h
          obtain ⟨q, us, e, hF, rs⟩ := rt_lst.mp cc
          cases e
          exact .base (.lst (R.fz _ _ hF))
        | dct xs =>
          cases h
          obtain ⟨q, us, e, hF, rs⟩ := rt_dct.mp cc
          cases e
          exact .base (.dK (R.fz _ _ hF))
        | ins c fs =>
          cases h
          obtain ⟨q, dx, us, e, hF, rs⟩ := rt_ins.mp cc
          cases e
          exact ins (R.fz _ _ hF)
        | _ => cases h
/-- a class's name, as it stands in the text -/
def SpE (Γ : Run) (X : Cx) (e : Expr) (s : Sp) : Prop := PE X e (tC (spV Γ.cA s)) ∧ stB e = false
theorem spe_own {x : Str} {d : Nat} (hg : Gl X x) (hm : X.mg x = some (.ref (Γ.cA d))) (hd : (x == ("__debug__" : Str)) = false) : SpE Γ X (.Name x pos) (.cls d) := ⟨pe_glob hg hm rfl hd, rfl⟩
theorem spe_ty {x : Str} {n : String} {s : Sp} (hs : spV Γ.cA s = .ty n) (hv : bootBuiltins x = some (.type n)) (hg : Gl X x) (hm : X.mg x = none) (hn : x ≠ "__name__") (hd : (x == ("__debug__" : Str)) = false) : SpE Γ X (.Name x pos) s := ⟨by rw [hs]; exact pe_bltn hg hm hv rfl hn hd, rfl⟩
theorem se_isi {ea ec : Expr} {a : E} {sp : Sp} (T : Ctx Γ X C I k) (hsp : I.sps sp = true) (hg : Gl X "isinstance") (hm : X.mg "isinstance" = none) (ha : SE Γ X ea (evE C a)) (hst : stB ea = false) (hc : SpE Γ X ec sp) : SE Γ X (.Call (.Name "isinstance" p) [ea, ec] [] pos) (evE C (.isi a [sp])) := by
  intro W tk
  refine PE.imp (pe_callB call_isi hg hm (by with_unfolding_all rfl) (pa_cons (ha W tk) (pa_cons hc.1 pa_nil (star_cons hc.2)) (star_cons hst)) (by decide) (by decide) (star_cons hst) (spl_plain (by simp [hc.2]))) ?_
  rintro σ H Q ⟨loc, s, R, L, A⟩
  simp only [evE] at A
  refine ⟨loc, s, R, L, A.bind.imp (fun v s1 H1 x1 R1 A1 u r => ?_) (fun _ _ _ _ _ q => q)⟩
  unfold isiM at A1
  cases ht : tyM v s1.hp with
  | none => rw [ht] at A1; exact A1.elim
  | some t =>
    rw [ht] at A1
    refine ⟨u, spV Γ.cA sp, _, _, _, rfl, sp_cls _ _, tyx_of T R1 r ht, T.kit t sp hsp, ?_⟩
    have := A1 s1 H1 rfl (Ext.refl s1) R1 _ (rv_bl.mpr rfl)
    simpa using this
end
end MS

set_option Elab.async false
set_option linter.all false
set_option maxRecDepth 100000
/-! MSR: targets; what is walked. -/
namespace MS
open PySem PySem.Spec PyProof.Rows L2
section
variable {Γ : Run} {X : Cx} {C : Cl} {I : Info} {k : Nat} {pos p apos cpos : Pos}
theorem wipe_get {σ : L2.St} {j : Nat} : ∀ {vs : List Nat}, (wipe σ vs)[j]? = if j ∈ vs ∧ j < σ.length then some none else σ[j]?
  | [] => by simp [wipe]
  | v :: vs => by
    unfold wipe
    by_cases h : v = j
    · subst h
      by_cases hl : v < σ.length
      · rw [List.getElem?_set_self (by rw [wipe_length]; exact hl), if_pos ⟨by simp, hl⟩]
      · rw [if_neg (by omega), List.getElem?_eq_none (by simp [wipe_length]; omega), List.getElem?_eq_none (by omega)]
    · rw [List.getElem?_set_ne h, wipe_get]
      have : j ∈ v :: vs ↔ j ∈ vs := by
        rw [List.mem_cons]
        exact ⟨fun z => z.resolve_left fun z => h z.symm, .inr⟩
      simp only [this]
theorem wipe_set {σ : L2.St} {i : Nat} {w : Option V} {vs : List Nat} (h : i ∈ vs) : wipe (σ.set i w) vs = wipe σ vs := by
  apply List.ext_getElem?
  intro j
  rw [wipe_get, wipe_get, List.length_set]
  by_cases hj : j ∈ vs ∧ j < σ.length
  · rw [if_pos hj, if_pos hj]
  · rw [if_neg hj, if_neg hj]
    by_cases e : i = j
    · subst e
      have : ¬ i < σ.length := fun z => hj ⟨h, z⟩
      rw [List.getElem?_eq_none (by simp; omega), List.getElem?_eq_none (by omega)]
    · rw [List.getElem?_set_ne e]
theorem wipe_wipe {σ : L2.St} {vs : List Nat} : wipe (wipe σ vs) vs = wipe σ vs := by
  apply List.ext_getElem?
  intro j
  rw [wipe_get, wipe_length]
  by_cases hj : j ∈ vs ∧ j < σ.length
  · rw [if_pos hj, wipe_get, if_pos hj]
  · rw [if_neg hj]
theorem wipeL_len (loc : Loc) : ∀ vs : List Nat, (wipeL loc vs).length = loc.length
  | [] => rfl
  | v :: vs => by unfold wipeL; rw [List.length_set, wipeL_len loc vs]
theorem Locs.wipe {s : AS} {loc : Loc} {σ : L2.St} (L : Locs Γ s loc σ) : ∀ vs : List Nat, Locs Γ s (wipeL loc vs) (L2.wipe σ vs)
  | [] => L
  | v :: vs => by
    have ih := Locs.wipe L vs
    refine ⟨by rw [wipeL_len, wipe_length]; exact L.len, fun i w h => ?_⟩
    have h : ((wipeL loc vs).set v none)[i]? = some (some w) := h
    show ∃ u, ((L2.wipe σ vs).set v none)[i]? = some (some u) ∧ _
    by_cases e : v = i
    · subst e
      by_cases hl : v < (wipeL loc vs).length
      · rw [List.getElem?_set_self hl] at h; cases h
      · rw [List.getElem?_eq_none (by simpa using hl)] at h; cases h
    · rw [List.getElem?_set_ne e] at h ⊢
      exact ih.at_ i w h
theorem Locs.mono {s s' : AS} {loc : Loc} {σ : L2.St} (L : Locs Γ s loc σ) (le : Le s.F s'.F) (p : s.ρ <+: s'.ρ) : Locs Γ s' loc σ :=
  ⟨L.len, fun i v h => by obtain ⟨u, h1, h2⟩ := L.at_ i v h; exact ⟨u, h1, RV.mono le p h2⟩⟩
/-- an item that is walked; b: a pair that was just made for it will do -/
def RW (Γ : Run) (b : Bool) (s : AS) (H : Hp) (v : Val) (x : V) : Prop := RV Γ s.F s.ρ v x ∨ (b = true ∧ ∃ ts us a, v = .t (.tup ts) ∧ x = .ref a ∧ H a = some (.tup us) ∧ RTs Γ s.F ts us)
def tG (Γ : Run) (b : Bool) (tg : Tg) : TG := fun x σ H K => ∃ v loc s loc', Rel Γ s H ∧ Locs Γ s loc σ ∧ RW Γ b s H v x ∧ asg tg v loc = some loc' ∧ ∀ σ', Locs Γ s loc' σ' → (∀ vs, (∀ i ∈ tg.ix, i ∈ vs) → wipe σ' vs = wipe σ vs) → K σ' H
def tGs (Γ : Run) (ts : List Tg) : TGs := fun us σ H K => ∃ xs loc s loc', Rel Γ s H ∧ Locs Γ s loc σ ∧ RTs Γ s.F xs us ∧ asgs ts xs loc = some loc' ∧ ∀ σ', Locs Γ s loc' σ' → (∀ vs, (∀ i ∈ Tg.ixs ts, i ∈ vs) → wipe σ' vs = wipe σ vs) → K σ' H
def SG (Γ : Run) (X : Cx) (b : Bool) (e : Expr) (tg : Tg) : Prop := PG X e (tG Γ b tg)
theorem PG.imp {X : Cx} {e : Expr} {t t' : TG} (h : PG X e t) (i : ∀ v σ H Q, t' v σ H Q → t v σ H Q) : PG X e t' := ⟨fun pins s σ H v u Q I r q => h.run pins s σ H v u Q I r (i v σ H Q q)⟩
theorem PGs.imp {X : Cx} {e : List Expr} {t t' : TGs} (h : PGs X e t) (i : ∀ v σ H Q, t' v σ H Q → t v σ H Q) : PGs X e t' := ⟨fun pins s σ H v u Q I r q => h.run pins s σ H v u Q I r (i v σ H Q q)⟩
theorem sg_v {i : Nat} {x : Str} (hN : X.N.Nodup) (hi : X.N[i]? = some x) (hx : L2.Loc X.env.scope x) (hf : X.fn x = true ∨ X.env.scope.names.lookup x = some .local) : SG Γ X false (.Name x pos) (.v i) := by
  refine PG.imp (pg_name hN hi hx hf) ?_
  rintro v σ H Q ⟨w, loc, s, loc', R, L, rw_, e, k⟩
  simp only [asg] at e
  cases e
  rcases rw_ with r | ⟨z, _⟩
  · refine k _ (L.set i r) fun vs h => wipe_set (h i ?_)
    simp only [Tg.ix, List.mem_singleton]
  · cases z
theorem sgs_nil : PGs X [] (tGs Γ []) := by
  refine PGs.imp pgs_nil ?_
  rintro v σ H Q ⟨w, loc, s, loc', R, L, r, e, k⟩
  cases w with
  | nil =>
    simp only [asgs] at e
    cases e
    simp only [RTs] at r
    exact ⟨r, k σ L fun vs _ => rfl⟩
  | cons _ _ => simp only [asgs] at e; cases e
theorem asgE_cons {e : Expr} {es : List Expr} {env : Env} (h : stB e = false) : assignEach (e :: es) env = (false, assign e env) :: assignEach es env := by
  cases e <;> first | rfl | cases h
theorem asgE_len : ∀ {es : List Expr} {env : Env}, es.any stB = false → (assignEach es env).length = es.length
  | [], _, _ => rfl
  | e :: es, env, h => by
    rw [List.any_cons, Bool.or_eq_false_iff] at h
    rw [asgE_cons h.1, List.length_cons, asgE_len h.2, List.length_cons]
theorem asgE_st : ∀ {es : List Expr} {env : Env}, es.any stB = false → (assignEach es env).findIdx? (·.1) = none
  | [], _, _ => rfl
  | e :: es, env, h => by
    rw [List.any_cons, Bool.or_eq_false_iff] at h
    rw [asgE_cons h.1, List.findIdx?_cons, asgE_st h.2]
    rfl
theorem sgs_cons {e : Expr} {es : List Expr} {t : Tg} {ts : List Tg} (h : SG Γ X false e t) (hr : PGs X es (tGs Γ ts)) (hst : stB e = false) : PGs X (e :: es) (tGs Γ (t :: ts)) := by
  refine PGs.imp (pgs_cons h hr (by rw [asgE_cons hst]; rfl)) ?_
  rintro v σ H Q ⟨w, loc, s, loc', R, L, r, e, k⟩
  cases w with
  | nil => simp only [asgs] at e; cases e
  | cons x xs =>
    simp only [asgs] at e
    simp only [RTs] at r
    obtain ⟨u, us, ev, ru, rus⟩ := r
    cases ea : asg t (.t x) loc with
    | none => rw [ea] at e; cases e
    | some l1 =>
      rw [ea] at e
      refine ⟨u, us, ev, .t x, loc, s, l1, R, L, .inl ru, ea, fun σ1 L1 w1 => ?_⟩
      refine ⟨xs, l1, s, loc', R, L1, rus, e, fun σ2 L2 w2 => k σ2 L2 fun vs hv => ?_⟩
      simp only [Tg.ixs, List.mem_append] at hv
      rw [w2 vs fun i hi => hv i (.inr hi), w1 vs fun i hi => hv i (.inl hi)]
theorem sg_tp {b : Bool} {es : List Expr} {ts : List Tg} {j : Nat} (hc : X.calm = true) (h : PGs X es (tGs Γ ts)) (hl : es.length = ts.length) (hst : es.any stB = false) (hK : X.K = Γ.K) : SG Γ X b (.Tuple es j pos) (.tp ts) := by
  refine PG.imp (pg_tup hc h (asgE_len hst) (asgE_st hst)) ?_
  rintro x σ H Q ⟨v, loc, s, loc', R, L, r, e, k⟩
  have lens : ∀ {ts : List Tg} {xs : List T} {loc loc' : Loc}, asgs ts xs loc = some loc' → ts.length = xs.length := by
    intro ts
    induction ts with
    | nil => intro xs loc loc' e; cases xs with
      | nil => rfl
      | cons _ _ => simp only [asgs] at e; cases e
    | cons t ts ih => intro xs loc loc' e; cases xs with
      | nil => simp only [asgs] at e; cases e
      | cons x xs =>
        simp only [asgs] at e
        cases ea : asg t (.t x) loc with
        | none => rw [ea] at e; cases e
        | some l1 => rw [ea] at e; rw [List.length_cons, List.length_cons, ih e]
  simp only [asg] at e
  have fin : ∀ (xs : List T) (us : List V) (a : Addr), asgs ts xs loc = some loc' → x = .ref a → SqT X.K H a us → RTs Γ s.F xs us → gTup X.K es.length (tGs Γ ts) x σ H Q := fun xs us a ea ex q rs => by
    refine ⟨a, us, ex, q, by rw [← RTs.length rs, ← lens ea, hl], xs, loc, s, loc', R, L, rs, ea, fun σ1 L1 w1 => k σ1 L1 fun vs hv => w1 vs ?_⟩
    simpa only [Tg.ix] using hv
  cases v with
  | ref n => cases e
  | t y =>
    cases y with
    | tup xs =>
      rcases r with r | ⟨_, ts', us, a, ev, ex, hH, rs⟩
      · obtain ⟨a, us, ex, t, rs⟩ := rt_tup.mp r
        exact fin xs us a e ex (by rw [hK]; exact (R.fz.tupF t).sqT) rs
      · cases ev
        exact fin xs us a e ex (.inl (.inl hH)) rs
    | _ => cases e

/-! ### what is walked -/
structure ExtW (s s' : AS) : Prop where
  F : Le s.F s'.F
  Fr : Le s.Fr s'.Fr
  ρ : s.ρ <+: s'.ρ
theorem Ext.w {s s' : AS} (x : Ext s s') : ExtW s s' := ⟨x.F, by rw [x.Fr]; exact Le.refl _, x.ρ⟩
theorem ExtW.trans {a b c : AS} (x : ExtW a b) (y : ExtW b c) : ExtW a c := ⟨x.F.trans y.F, x.Fr.trans y.Fr, x.ρ.trans y.ρ⟩
/-- the iterator goes through xs, whatever is made meanwhile -/
def Wk (Γ : Run) (b : Bool) (J : L2.It) (xs : List Val) (s : AS) : Prop := ∀ s' H', Le s.F s'.F → Rel Γ s' H' →
  (∀ i v, xs[i]? = some v → J.go i H' ∧ ∀ x H'', J.yld i H' x H'' → ∃ s'', s''.hp = s'.hp ∧ Ext s' s'' ∧ Rel Γ s'' H'' ∧ RW Γ b s'' H'' v x) ∧ J.stop xs.length H'
def tI (Γ : Run) (b : Bool) (m : Loc → MH (List Val)) (W : WX) : TI := fun σ H R => ∃ loc s, Rel Γ s H ∧ Locs Γ s loc σ ∧ After Γ s (m loc s.hp) (fun xs s' H' => ∀ J, Wk Γ b J xs s' → R J H') (XW Γ W σ)
def SI (Γ : Run) (X : Cx) (b : Bool) (tg iter : Expr) (m : Loc → MH (List Val)) : Prop := (∀ W, Takes X W → PI X tg iter (tI Γ b m W)) ∧ ∀ x, foldedSetIterable iter X.env x = pure x
theorem PI.imp {X : Cx} {tg e : Expr} {t t' : TI} (h : PI X tg e t) (i : ∀ σ H Q, t' σ H Q → t σ H Q) : PI X tg e t' := ⟨fun pins s σ H R I q => h.run pins s σ H R I (i σ H R q)⟩
theorem wk_list {s : AS} {a : Addr} {xs : List T} {us : List V} (h : s.F a = some (.lst us)) (rs : RTs Γ s.F xs us) : Wk Γ false (Itl Γ.K a) (xs.map .t) s := by
  intro s' H' x R
  have hH : H' a = some (.lst us) := R.fz _ _ (x _ _ h)
  have rs' : RTs Γ s'.F xs us := rs.mono x xs us
  refine ⟨fun i v hv => ?_, ⟨us, SqL.of hH, by rw [List.length_map, RTs.length rs]; exact Nat.le_refl _⟩⟩
  rw [List.getElem?_map] at hv
  obtain ⟨y, hy, rfl⟩ := Option.map_eq_some_iff.mp hv
  obtain ⟨u, hu, ru⟩ := RTs.get rs' hy
  refine ⟨⟨us, u, SqL.of hH, hu⟩, fun x H'' ⟨e, k⟩ => ⟨s', rfl, Ext.refl _, by rw [e]; exact R, .inl ?_⟩⟩
  have := k us (SqL.of hH)
  rw [hu] at this
  cases this
  exact ru
theorem SqL.keep {K : PySem.W.Frag} {a : Addr} {us : List V} {F H : Hp} (h : SqL K F a us) (le : Le F H) : SqL K H a us := le.sqL h
theorem wk_scr {s : AS} {a : Addr} {ns : List Int} (h : SqL Γ.K s.F a (ns.map V.int)) : Wk Γ false (Itl Γ.K a) (ns.map fun i => .t (.int i)) s := by
  intro s' H' x R
  have hH : SqL Γ.K H' a (ns.map V.int) := R.fz.sqL (x.sqL h)
  refine ⟨fun i v hv => ?_, ⟨_, hH, by simp⟩⟩
  rw [List.getElem?_map] at hv
  obtain ⟨y, hy, rfl⟩ := Option.map_eq_some_iff.mp hv
  have hy' : (ns.map V.int)[i]? = some (.int y) := by rw [List.getElem?_map, hy]; rfl
  refine ⟨⟨_, _, hH, hy'⟩, fun x H'' ⟨e, k⟩ => ⟨s', rfl, Ext.refl _, by rw [e]; exact R, .inl ?_⟩⟩
  have := k _ hH
  rw [hy'] at this
  cases this
  exact rv_int.mpr rfl
theorem wk_tup {s : AS} {a : Addr} {xs : List T} {us : List V} (h : TupF Γ.K s.F a us) (rs : RTs Γ s.F xs us) : Wk Γ false (Itt Γ.K a) (xs.map .t) s := by
  intro s' H' x R
  have hH : SqT Γ.K H' a us := (R.fz.tupF (x.tupF h)).sqT
  have rs' : RTs Γ s'.F xs us := rs.mono x xs us
  refine ⟨fun i v hv => ?_, ⟨us, hH, by rw [List.length_map, RTs.length rs]; exact Nat.le_refl _⟩⟩
  rw [List.getElem?_map] at hv
  obtain ⟨y, hy, rfl⟩ := Option.map_eq_some_iff.mp hv
  obtain ⟨u, hu, ru⟩ := RTs.get rs' hy
  refine ⟨⟨us, u, hH, hu⟩, fun x H'' ⟨e, k⟩ => ⟨s', rfl, Ext.refl _, by rw [e]; exact R, .inl ?_⟩⟩
  have := k us hH
  rw [hu] at this
  cases this
  exact ru
theorem wk_str {s : AS} {z : Str} : Wk Γ false (Its z) (z.cps.toList.map fun c => .t (.str ⟨#[c]⟩)) s := by
  intro s' H' x R
  refine ⟨fun i v hv => ?_, by show z.cps.size ≤ _; simp⟩
  rw [List.getElem?_map] at hv
  obtain ⟨y, hy, rfl⟩ := Option.map_eq_some_iff.mp hv
  have hi : i < z.cps.size := by have := get_lt hy; simpa using this
  refine ⟨hi, fun x H'' ⟨e, c, hc, ex⟩ => ⟨s', rfl, Ext.refl _, by rw [e]; exact R, .inl ?_⟩⟩
  rw [Array.getElem?_toList] at hy
  rw [hy] at hc
  cases hc
  exact rv_str.mpr ex
theorem wk_rng {s : AS} {lo hi : Int} : Wk Γ false (Itr lo (hi - lo).toNat) ((List.range (hi - lo).toNat).map fun i => .t (.int (lo + (i : Nat)))) s := by
  intro s' H' x R
  refine ⟨fun i v hv => ?_, by show (hi - lo).toNat ≤ _; simp⟩
  rw [List.getElem?_map] at hv
  obtain ⟨y, hy, rfl⟩ := Option.map_eq_some_iff.mp hv
  obtain ⟨hl, hy⟩ := List.getElem?_eq_some_iff.mp hy
  rw [List.getElem_range] at hy
  subst hy
  rw [List.length_range] at hl
  refine ⟨hl, fun x H'' ⟨e, ex⟩ => ⟨s', rfl, Ext.refl _, by rw [e]; exact R, .inl (rv_int.mpr ex)⟩⟩
theorem Rel.junk {s : AS} {H : Hp} {a : Addr} {o : HO} (R : Rel Γ s H) (h : H a = none) : Rel Γ s (upd H a o) := by
  obtain ⟨f1, f2⟩ := R.free h
  refine ⟨fun q u e => ?_, fun q u e => ?_, R.dj, R.len, R.inj, fun n b e => upd_some (R.th n b e), R.nf, fun n ob e => ?_⟩
  · rw [upd_ne (ne_of_none e f1)]; exact R.fz q u e
  · rw [upd_ne (ne_of_none e f2)]; exact R.fr q u e
  · obtain ⟨b, eb, c⟩ := R.cell n ob e
    refine ⟨b, eb, c.other fun _ _ z => ?_⟩
    subst z
    exact R.th n b eb h
theorem enumT_get {xs : List T} {j i : Nat} : (enumT j xs)[i]? = (xs[i]?).map fun x => .tup [.int ((j + i : Nat) : Int), x] := by
  induction xs generalizing j i with
  | nil => simp [enumT]
  | cons x xs ih =>
    cases i with
    | zero => simp [enumT]
    | succ i =>
      simp only [enumT, List.getElem?_cons_succ]
      rw [ih]
      congr 2
      funext y
      rw [show j + 1 + i = j + (i + 1) by omega]
theorem enumT_len {xs : List T} : ∀ j, (enumT j xs).length = xs.length := by
  induction xs with
  | nil => intro j; rfl
  | cons x xs ih => intro j; simp only [enumT, List.length_cons]; rw [ih]
theorem wk_enum {s : AS} {a : Addr} {xs : List T} {us : List V} (h : s.F a = some (.lst us)) (rs : RTs Γ s.F xs us) : Wk Γ true (Ite Γ.K a) ((enumT 0 xs).map .t) s := by
  intro s' H' x R
  have hH : H' a = some (.lst us) := R.fz _ _ (x _ _ h)
  have rs' : RTs Γ s'.F xs us := rs.mono x xs us
  refine ⟨fun i v hv => ?_, ⟨us, SqL.of hH, by rw [List.length_map, enumT_len, RTs.length rs]; exact Nat.le_refl _⟩⟩
  rw [List.getElem?_map, enumT_get] at hv
  obtain ⟨z, hz, rfl⟩ := Option.map_eq_some_iff.mp hv
  obtain ⟨y, hy, rfl⟩ := Option.map_eq_some_iff.mp hz
  obtain ⟨u, hu, ru⟩ := RTs.get rs' hy
  refine ⟨⟨us, u, SqL.of hH, hu⟩, fun x H'' ⟨T, w, ex, hT, e, k⟩ => ⟨s', rfl, Ext.refl _, by rw [e]; exact R.junk hT, .inr ⟨rfl, _, [.int (i : Nat), w], T, rfl, ex, by rw [e]; exact upd_same, ?_⟩⟩⟩
  have := k us (SqL.of hH)
  rw [hu] at this
  cases this
  simp only [RTs]
  exact ⟨_, _, rfl, rt_int.mpr (by simp), _, _, rfl, ru, rfl⟩
theorem zipT_get : ∀ {xs ys : List T} {i : Nat}, (zipT xs ys)[i]? = (match xs[i]?, ys[i]? with | some x, some y => some (.tup [x, y]) | _, _ => none)
  | [], ys, i => by simp [zipT]
  | x :: xs, [], i => by
    simp only [zipT, List.getElem?_nil]
    split <;> simp_all
  | x :: xs, y :: ys, 0 => by simp [zipT]
  | x :: xs, y :: ys, i + 1 => by
    simp only [zipT, List.getElem?_cons_succ]
    exact zipT_get
theorem zipT_len : ∀ {xs ys : List T}, xs.length ≤ (zipT xs ys).length ∨ ys.length ≤ (zipT xs ys).length
  | [], ys => .inl (Nat.zero_le _)
  | x :: xs, [] => .inr (Nat.zero_le _)
  | x :: xs, y :: ys => by
    simp only [zipT, List.length_cons]
    rcases zipT_len (xs := xs) (ys := ys) with h | h
    · exact .inl (by omega)
    · exact .inr (by omega)
theorem wk_zip {s : AS} {a c : Addr} {xs ys : List T} {us ws : List V} (h : s.F a = some (.lst us)) (rs : RTs Γ s.F xs us) (h' : s.F c = some (.lst ws)) (rs2 : RTs Γ s.F ys ws) : Wk Γ true (Itz Γ.K a c) ((zipT xs ys).map .t) s := by
  intro s' H' x R
  have hH : H' a = some (.lst us) := R.fz _ _ (x _ _ h)
  have hH2 : H' c = some (.lst ws) := R.fz _ _ (x _ _ h')
  have rs' : RTs Γ s'.F xs us := rs.mono x xs us
  have rs2' : RTs Γ s'.F ys ws := rs2.mono x ys ws
  refine ⟨fun i v hv => ?_, ⟨us, ws, SqL.of hH, SqL.of hH2, by rw [List.length_map, ← RTs.length rs, ← RTs.length rs2]; exact zipT_len⟩⟩
  rw [List.getElem?_map, zipT_get] at hv
  obtain ⟨z, hz, rfl⟩ := Option.map_eq_some_iff.mp hv
  split at hz
  · rename_i y1 y2 hy1 hy2
    cases hz
    obtain ⟨u, hu, ru⟩ := RTs.get rs' hy1
    obtain ⟨w, hw, rw'⟩ := RTs.get rs2' hy2
    refine ⟨⟨us, ws, u, w, SqL.of hH, SqL.of hH2, hu, hw⟩, fun x H'' ⟨T, w1, w2, ex, hT, e, k1, k2⟩ => ⟨s', rfl, Ext.refl _, by rw [e]; exact R.junk hT, .inr ⟨rfl, _, [w1, w2], T, rfl, ex, by rw [e]; exact upd_same, ?_⟩⟩⟩
    have q1 := k1 us (SqL.of hH)
    rw [hu] at q1
    cases q1
    have q2 := k2 ws (SqL.of hH2)
    rw [hw] at q2
    cases q2
    simp only [RTs]
    exact ⟨_, _, rfl, ru, _, _, rfl, rw', rfl⟩
  · cases hz
/-! ### the sources -/
/-- a list, a tuple or a text -/
def iAny (K : PySem.W.Frag) (tl : TE) : TI := fun σ H R => tl σ H fun x H1 => (∃ a, x = .ref a ∧ (∃ xs, SqL K H1 a xs) ∧ R (Itl K a) H1) ∨ (∃ a, x = .ref a ∧ (∃ xs, SqT K H1 a xs) ∧ R (Itt K a) H1) ∨ ∃ z, x = .str z ∧ R (Its z) H1
theorem pi_any {tg l : Expr} {tl : TE} (hl : PE X l tl) : PI X tg l (iAny X.K tl) := by
  refine ⟨fun pins s σ H R I h => ?_⟩
  refine thn (hl.run pins s σ H _ I h) fun v s1 ⟨x, H1, I1, r1, q1⟩ => ?_
  rcases q1 with ⟨a, e, ⟨xs, hq⟩, q⟩ | ⟨a, e, ⟨xs, hq⟩, q⟩ | ⟨z, e, q⟩
  · subst e
    cases r1
    obtain ⟨its, rv, p, hz⟩ := I1.list hq
    refine wpAny_pyIter_list p.isList ?_
    refine ⟨s1.heap.objs.size, [s1.heap.objs.size], _, _, H1, rfl, I1.kept (t' := s1.toks) fun b o e => Heap.get?_push_of_some _ e, turn_list a _, ⟨_, Heap.get?_push_size _ rfl, rfl, rfl⟩, fun b hb => ?_, q⟩
    have e : b = s1.heap.objs.size := by simpa using hb
    subst e
    exact I1.fpOk (Nat.le_refl _) (I1.hok.fresh (Nat.le_refl _))
  · subst e
    cases r1
    obtain ⟨its, rv, p, hz⟩ := I1.tuple hq
    refine wpAny_pyIter_tuple (show s1.heap.IsTuple a its.toArray from p) ?_
    refine ⟨s1.heap.objs.size, [s1.heap.objs.size], _, _, H1, rfl, I1.kept (t' := s1.toks) fun b o e => Heap.get?_push_of_some _ e, turn_tuple a _, ⟨_, Heap.get?_push_size _ rfl, rfl, rfl⟩, fun b hb => ?_, q⟩
    have e : b = s1.heap.objs.size := by simpa using hb
    subst e
    exact I1.fpOk (Nat.le_refl _) (I1.hok.fresh (Nat.le_refl _))
  · subst e
    obtain ⟨t, rfl⟩ := r1
    cases ha : z.cps.all (· < 128)
    · exact wpAny_pyIter_wide ha (pi_one (tk := s1.toks) I1 _ (turn_str _ z t "str_iterator" (.inr rfl)) ⟨_, Heap.get?_push_size _ rfl, rfl, rfl⟩ q)
    · exact wpAny_pyIter_ascii ha (pi_one (tk := s1.toks) I1 _ (turn_str _ z t "str_ascii_iterator" (.inl rfl)) ⟨_, Heap.get?_push_size _ rfl, rfl, rfl⟩ q)
/-- the item walks of a value -/
theorem After.walkV {s : AS} {H : Hp} {v : Val} {u : V} {Q : List Val → AS → Hp → Prop} {E' : Ex → AS → Hp → Prop} (R : Rel Γ s H) (r : RV Γ s.F s.ρ v u) (h : After Γ s (MS.walkV v s.hp) Q E') :
    ∃ xs s', Ext s s' ∧ Rel Γ s' H ∧ Q xs s' H ∧ ((∃ a, u = .ref a ∧ (∃ us, SqL Γ.K H a us) ∧ Wk Γ false (Itl Γ.K a) xs s') ∨ (∃ a, u = .ref a ∧ (∃ us, SqT Γ.K H a us) ∧ Wk Γ false (Itt Γ.K a) xs s') ∨ ∃ z, u = .str z ∧ Wk Γ false (Its z) xs s') := by
  unfold MS.walkV at h
  split at h
  · split at h
    · exact ⟨_, s, Ext.refl s, R, After.ok R h, .inr (.inr ⟨_, rv_str.mp r, wk_str⟩)⟩
    · exact h.elim
  · obtain ⟨a, us, e, t, rs⟩ := rt_tup.mp r
    exact ⟨_, s, Ext.refl s, R, After.ok R h, .inr (.inl ⟨a, e, ⟨us, (R.fz.tupF t).sqT⟩, wk_tup t rs⟩)⟩
  · rename_i ns
    have r : RT Γ s.F (.scr ns) u := r
    simp only [RT] at r
    obtain ⟨a, e, q⟩ := r
    exact ⟨_, s, Ext.refl s, R, After.ok R h, .inl ⟨a, e, ⟨_, R.fz.sqL q⟩, wk_scr q⟩⟩
  · obtain ⟨xs, s1, a, us, x1, R1, e, hF, rs, A⟩ := h.lstP R r
    exact ⟨_, s1, x1, R1, After.ok R1 A, .inl ⟨a, e, ⟨us, SqL.of (R1.fz _ _ hF)⟩, wk_list hF rs⟩⟩
def ffB : Expr → Bool
  | .Set .. => true
  | _ => false
theorem ff_no {iter : Expr} {env : Env} (h : ffB iter = false) : ∀ x, foldedSetIterable iter env x = pure x := by
  intro x
  cases iter <;> first | rfl | cases h
theorem si_seq {tg e : Expr} {m : E} (hK : X.K = Γ.K) (h : SE Γ X e (evE C m)) (hf : ffB e = false) : SI Γ X false tg e (evIt C (.seq m)) := by
  refine ⟨fun W tk => PI.imp (pi_any (h W tk)) ?_, ff_no hf⟩
  rintro σ H Rk ⟨loc, s, R, L, A⟩
  simp only [evIt] at A
  refine ⟨loc, s, R, L, A.bind.imp (fun v s1 H1 x1 R1 A1 u r => ?_) (fun _ _ _ _ _ q => q)⟩
  rw [hK]
  obtain ⟨xs, s2, x2, R2, q, w⟩ := After.walkV R1 r A1
  rcases w with ⟨a, e, hq, w⟩ | ⟨a, e, hq, w⟩ | ⟨z, e, w⟩
  · exact .inl ⟨a, e, hq, q _ w⟩
  · exact .inr (.inl ⟨a, e, hq, q _ w⟩)
  · exact .inr (.inr ⟨z, e, q _ w⟩)
theorem si_rng1 {tg e : Expr} {m : E} (hg : Gl X "range") (hm : X.mg "range" = none) (h : SE Γ X e (evE C m)) (hs : stB e = false) : SI Γ X false tg (.Call (.Name "range" p) [e] [] pos) (evIt C (.rng1 m)) := by
  refine ⟨fun W tk => PI.imp (pi_range1 hg hm (sa_cons h sa_nil hs W tk) (star_cons hs)) ?_, ff_no rfl⟩
  rintro σ H Rk ⟨loc, s, R, L, A⟩
  simp only [evIt] at A
  refine ⟨loc, s, R, L, ?_⟩
  simp only [evEs, pure_eq, MH.pure_bind]
  have A2 := A.bind
  cases e1 : evE C m loc s.hp with
  | bad => rw [e1] at A2; exact A2.elim
  | exc x h1 =>
    rw [e1] at A2
    rw [show (MH.bind (evE C m loc) (fun v => MH.pure [v])) s.hp = .exc x h1 by unfold MH.bind; rw [e1]]
    exact A2
  | ok v h1 =>
    rw [e1] at A2
    rw [bind_ok e1]
    intro s1 H1 eh x1 R1 us rus
    have A3 := A2 s1 H1 eh x1 R1
    cases rus with
    | cons r t =>
      cases t
      obtain ⟨i, _, e, A3⟩ := A3.intV r
      subst e
      unfold rngM at A3
      split at A3
      · rename_i hb
        simp only [Bool.and_eq_true, decide_eq_true_eq] at hb
        refine ⟨i, rfl, hb.1.2, hb.2, ?_⟩
        have q := After.ok R1 A3 (Itr 0 (i - 0).toNat) (wk_rng (s := s1) (lo := 0) (hi := i))
        rwa [Int.sub_zero] at q
      · exact A3.elim
/-- one value into a list of one -/
theorem one_ta {m : Loc → MH Val} {loc : Loc} {s : AS} {Q : Val → AS → Hp → Prop} {E' : Ex → AS → Hp → Prop} (A : After Γ s (m loc s.hp) Q E') : After Γ s (MH.bind (m loc) (fun v => MH.pure [v]) s.hp) (fun vs s' H' => ∃ v, vs = [v] ∧ Q v s' H') E' := by
  cases e1 : m loc s.hp with
  | bad => rw [e1] at A; exact A.elim
  | exc x h1 =>
    rw [e1] at A
    rw [show (MH.bind (m loc) (fun v => MH.pure [v])) s.hp = .exc x h1 by unfold MH.bind; rw [e1]]
    exact A
  | ok v h1 =>
    rw [e1] at A
    rw [bind_ok e1]
    exact fun s' H' a b c => ⟨v, rfl, A s' H' a b c⟩
theorem si_enum {e : Expr} {m : E} {elts : List Expr} {kk : Nat} {tpos : Pos} (hK : X.K = Γ.K) (hg : Gl X "enumerate") (hm : X.mg "enumerate" = none) (h : SE Γ X e (evE C m)) (hs : stB e = false) : SI Γ X true (.Tuple elts kk tpos) (.Call (.Name "enumerate" p) [e] [] pos) (evIt C (.enum m)) := by
  refine ⟨fun W tk => PI.imp (pi_enum hg hm (sa_cons h sa_nil hs W tk) (star_cons hs)) ?_, ff_no rfl⟩
  rintro σ H Rk ⟨loc, s, R, L, A⟩
  simp only [evIt] at A
  refine ⟨loc, s, R, L, ?_⟩
  simp only [evEs, pure_eq, MH.pure_bind]
  refine (one_ta (m := evE C m) A.bind).imp (fun vs s1 H1 x1 R1 A1 us rus => ?_) (fun _ _ _ _ _ q => q)
  obtain ⟨v, ev, A1⟩ := A1
  subst ev
  cases rus with
  | cons r t =>
    cases t
    obtain ⟨xs, s2, a, ws, x2, R2, e, hF, rs, A2⟩ := A1.lstP R1 r
    refine ⟨a, ws, by rw [e], by rw [hK]; exact SqL.of (R2.fz _ _ hF), ?_⟩
    rw [hK]
    exact After.ok R2 A2 _ (wk_enum hF rs)
theorem si_rng2 {tg e e2 : Expr} {m m2 : E} (hg : Gl X "range") (hm : X.mg "range" = none) (h : SE Γ X e (evE C m)) (hs : stB e = false) (h2 : SE Γ X e2 (evE C m2)) (hs2 : stB e2 = false) : SI Γ X false tg (.Call (.Name "range" p) [e, e2] [] pos) (evIt C (.rng2 m m2)) := by
  refine ⟨fun W tk => PI.imp (pi_range2 (ta := tCons (tE Γ (evE C m) W) (tCons (tE Γ (evE C m2) W) tNil)) hg hm (pa_cons (h W tk) (pa_cons (h2 W tk) pa_nil (star_cons hs2)) (star_cons hs)) (by rw [star_cons hs, star_cons hs2]; rfl) (star_cons hs2)) ?_, ff_no rfl⟩
  rintro σ H Rk ⟨loc, s, R, L, A⟩
  simp only [evIt] at A
  refine ⟨loc, s, R, L, A.bind.imp (fun v s1 H1 x1 R1 A1 u r => ?_) (fun _ _ _ _ _ q => q)⟩
  refine ⟨loc, s1, R1, L.ext x1, A1.bind.imp (fun w s2 H2 x2 R2 A2 u2 r2 => ?_) (fun _ _ _ _ _ q => q)⟩
  obtain ⟨i, _, e, A2⟩ := A2.intV (r.ext x2)
  obtain ⟨j, _, e', A2⟩ := A2.intV r2
  subst e e'
  unfold rngM at A2
  split at A2
  · rename_i hb
    simp only [Bool.and_eq_true, decide_eq_true_eq] at hb
    exact ⟨i, j, rfl, ⟨hb.1.1.1, hb.1.1.2, hb.1.2, hb.2⟩, After.ok R2 A2 _ wk_rng⟩
  · exact A2.elim
theorem si_zip {e e2 : Expr} {m m2 : E} {elts : List Expr} {kk : Nat} {tpos : Pos} (hK : X.K = Γ.K) (hg : Gl X "zip") (hm : X.mg "zip" = none) (h : SE Γ X e (evE C m)) (hs : stB e = false) (h2 : SE Γ X e2 (evE C m2)) (hs2 : stB e2 = false) : SI Γ X true (.Tuple elts kk tpos) (.Call (.Name "zip" p) [e, e2] [] pos) (evIt C (.zip m m2)) := by
  refine ⟨fun W tk => PI.imp (pi_zip (ta := tCons (tE Γ (evE C m) W) (tCons (tE Γ (evE C m2) W) tNil)) hg hm (pa_cons (h W tk) (pa_cons (h2 W tk) pa_nil (star_cons hs2)) (star_cons hs)) (star_cons hs) (by rw [star_cons hs2]; rfl)) ?_, ff_no rfl⟩
  rintro σ H Rk ⟨loc, s, R, L, A⟩
  simp only [evIt] at A
  refine ⟨loc, s, R, L, A.bind.imp (fun v s1 H1 x1 R1 A1 u r => ?_) (fun _ _ _ _ _ q => q)⟩
  refine ⟨loc, s1, R1, L.ext x1, A1.bind.imp (fun w s2 H2 x2 R2 A2 u2 r2 => ?_) (fun _ _ _ _ _ q => q)⟩
  obtain ⟨xs, s3, a, us, x3, R3, e, hF, rs, A3⟩ := A2.lstP R2 (r.ext x2)
  obtain ⟨ys, s4, c, ws, x4, R4, e', hF', rs', A4⟩ := A3.lstP R3 (r2.ext x3)
  have hF4 := x4.F _ _ hF
  rw [hK]
  exact ⟨a, c, us, ws, by rw [e, e'], SqL.of (R4.fz _ _ hF4), SqL.of (R4.fz _ _ hF'), After.ok R4 A4 _ (wk_zip hF4 (rs.mono x4.F xs us) hF' rs')⟩
end
end MS

set_option Elab.async false
set_option linter.all false
set_option maxRecDepth 100000
/-! MSS: comprehensions. -/
namespace MS
open PySem PySem.Spec PyProof.Rows L2
section
variable {Γ : Run} {X : Cx} {C : Cl} {I : Info} {k : Nat} {pos p apos cpos : Pos}
/-! ### one thing held apart -/
def AS.fr (s : AS) (D : Addr) (o : HO) : AS := ⟨s.hp, s.F, upd s.Fr D o, s.ρ⟩
def AS.un (s : AS) (G : Hp) : AS := ⟨s.hp, s.F, G, s.ρ⟩
theorem fr_new {s : AS} {H : Hp} {D : Addr} {o : HO} (R : Rel Γ s H) (h : H D = none) : Rel Γ (s.fr D o) (upd H D o) := by
  obtain ⟨f1, f2⟩ := R.free h
  have nD : ∀ n a, s.ρ[n]? = some a → a ≠ D := fun n a e z => R.th n a e (by rw [z]; exact h)
  refine ⟨fun q u e => by rw [upd_ne (ne_of_none e f1)]; exact R.fz q u e, fun q u e => ?_, fun q u e => ?_, R.len, R.inj, fun n a e => upd_some (R.th n a e), fun n a e => ?_, fun n ob e => ?_⟩
  · have e : upd s.Fr D o q = some u := e
    by_cases hq : q = D
    · subst hq; rw [upd_same] at e ⊢; exact e
    · rw [upd_ne hq] at e ⊢; exact R.fr q u e
  · have e : upd s.Fr D o q = some u := e
    by_cases hq : q = D
    · subst hq; exact f1
    · rw [upd_ne hq] at e; exact R.dj q u e
  · show upd s.Fr D o a = none
    rw [upd_ne (nD n a e)]; exact R.nf n a e
  · obtain ⟨a, ea, c⟩ := R.cell n ob e
    have ne := nD n a ea
    refine ⟨a, ea, ?_⟩
    cases ob with
    | frz x => exact c
    | lst vs => obtain ⟨c1, c2, us, c3, c4⟩ := c; exact ⟨c1, by show upd s.Fr D o a = none; rw [upd_ne ne]; exact c2, us, by rw [upd_ne ne]; exact c3, c4⟩
    | dct vs => obtain ⟨c1, c2, us, c3, c4⟩ := c; exact ⟨c1, by show upd s.Fr D o a = none; rw [upd_ne ne]; exact c2, us, by rw [upd_ne ne]; exact c3, c4⟩
    | ins m vs => obtain ⟨c1, c2, dx, us, c3, c4⟩ := c; exact ⟨c1, by show upd s.Fr D o a = none; rw [upd_ne ne]; exact c2, dx, us, by rw [upd_ne ne]; exact c3, c4⟩
theorem fr_set {s : AS} {H : Hp} {D : Addr} {o o2 : HO} (R : Rel Γ s H) (h : s.Fr D = some o) : Rel Γ (s.fr D o2) (upd H D o2) := by
  have f1 := R.dj D o h
  have nD : ∀ n a, s.ρ[n]? = some a → a ≠ D := fun n a e z => by have := R.nf n a e; rw [z, h] at this; cases this
  refine ⟨fun q u e => by rw [upd_ne (ne_of_none e f1)]; exact R.fz q u e, fun q u e => ?_, fun q u e => ?_, R.len, R.inj, fun n a e => upd_some (R.th n a e), fun n a e => ?_, fun n ob e => ?_⟩
  · have e : upd s.Fr D o2 q = some u := e
    by_cases hq : q = D
    · subst hq; rw [upd_same] at e ⊢; exact e
    · rw [upd_ne hq] at e ⊢; exact R.fr q u e
  · have e : upd s.Fr D o2 q = some u := e
    by_cases hq : q = D
    · subst hq; exact f1
    · rw [upd_ne hq] at e; exact R.dj q u e
  · show upd s.Fr D o2 a = none
    rw [upd_ne (nD n a e)]; exact R.nf n a e
  · obtain ⟨a, ea, c⟩ := R.cell n ob e
    have ne := nD n a ea
    refine ⟨a, ea, ?_⟩
    cases ob with
    | frz x => exact c
    | lst vs => obtain ⟨c1, c2, us, c3, c4⟩ := c; exact ⟨c1, by show upd s.Fr D o2 a = none; rw [upd_ne ne]; exact c2, us, by rw [upd_ne ne]; exact c3, c4⟩
    | dct vs => obtain ⟨c1, c2, us, c3, c4⟩ := c; exact ⟨c1, by show upd s.Fr D o2 a = none; rw [upd_ne ne]; exact c2, us, by rw [upd_ne ne]; exact c3, c4⟩
    | ins m vs => obtain ⟨c1, c2, dx, us, c3, c4⟩ := c; exact ⟨c1, by show upd s.Fr D o2 a = none; rw [upd_ne ne]; exact c2, dx, us, by rw [upd_ne ne]; exact c3, c4⟩
theorem un_rel {s : AS} {H G : Hp} (R : Rel Γ s H) (le : Le G s.Fr) : Rel Γ (s.un G) H := by
  have no : ∀ a, s.Fr a = none → G a = none := fun a h => by
    cases e : G a with
    | none => rfl
    | some o => rw [le a o e] at h; cases h
  refine ⟨R.fz, fun q u e => R.fr q u (le q u e), fun q u e => R.dj q u (le q u e), R.len, R.inj, R.th, fun n a e => no a (R.nf n a e), fun n ob e => ?_⟩
  obtain ⟨a, ea, c⟩ := R.cell n ob e
  refine ⟨a, ea, ?_⟩
  cases ob with
  | frz x => exact c
  | lst vs => obtain ⟨c1, c2, us, c3, c4⟩ := c; exact ⟨c1, no a c2, us, c3, c4⟩
  | dct vs => obtain ⟨c1, c2, us, c3, c4⟩ := c; exact ⟨c1, no a c2, us, c3, c4⟩
  | ins m vs => obtain ⟨c1, c2, dx, us, c3, c4⟩ := c; exact ⟨c1, no a c2, dx, us, c3, c4⟩
theorem un_ext {s s' : AS} {G : Hp} (x : Ext s s') : Ext (s.un G) (s'.un G) := ⟨x.F, rfl, x.ρ⟩
/-- seen with more held apart -/
theorem After.more {α : Type} {s : AS} {G : Hp} {r : RH α} {Q : α → AS → Hp → Prop} {E : Ex → AS → Hp → Prop} (le : Le G s.Fr) (h : After Γ (s.un G) r Q E) : After Γ s r (fun a s' H' => Q a (s'.un G) H') (fun e s' H' => E e (s'.un G) H') := by
  cases r with
  | ok a hp => exact fun s' H' e x R => h (s'.un G) H' e (un_ext x) (un_rel R (by rw [x.Fr]; exact le))
  | exc y hp => exact fun s' H' e x R => h (s'.un G) H' e (un_ext x) (un_rel R (by rw [x.Fr]; exact le))
  | bad => exact h
/-- what was held apart, frozen -/
theorem un_frz {s : AS} {H G : Hp} {D : Addr} {o : HO} (R : Rel Γ s H) (le : Le G s.Fr) (h : s.Fr D = some o) (hG : G D = none) : Rel Γ ((s.un G).withF D o) H ∧ Ext (s.un G) ((s.un G).withF D o) := by
  have f1 := R.dj D o h
  have R1 := un_rel R le
  have lf : Le s.F (upd s.F D o) := Le.upd f1
  refine ⟨⟨fun q u e => ?_, R1.fr, fun q u e => ?_, R1.len, R1.inj, R1.th, R1.nf, fun n ob e => ?_⟩, ⟨lf, rfl, List.prefix_refl _⟩⟩
  · have e : upd s.F D o q = some u := e
    by_cases hq : q = D
    · subst hq; rw [upd_same] at e; cases e; exact R.fr _ _ h
    · rw [upd_ne hq] at e; exact R1.fz q u e
  · show upd s.F D o q = none
    have hq : q ≠ D := fun z => by subst z; have e : G q = some u := e; rw [hG] at e; cases e
    rw [upd_ne hq]; exact R1.dj q u e
  · obtain ⟨a, ea, c⟩ := R1.cell n ob e
    have ne : a ≠ D := fun z => by have := R.nf n a ea; rw [z, h] at this; cases this
    exact ⟨a, ea, c.mono lf (List.prefix_refl _) (.inl (upd_ne ne))⟩
/-- .., as a cell -/
theorem un_cell {s : AS} {H G : Hp} {D : Addr} {o : HO} {ob : Ob} (R : Rel Γ s H) (le : Le G s.Fr) (h : s.Fr D = some o) (hG : G D = none) (hc : Cell Γ s.F G (s.ρ ++ [D]) H D ob) : Rel Γ ((s.un G).push D ob) H ∧ Ext (s.un G) ((s.un G).push D ob) := by
  have R1 := un_rel R le
  have pre : s.ρ <+: s.ρ ++ [D] := List.prefix_append _ _
  have nop : ∀ {n : Nat} {b : Addr}, s.ρ[n]? = some b → b ≠ D := fun {n b} e z => by have := R.nf n b e; rw [z, h] at this; cases this
  have key : ∀ {n : Nat} {a : Addr}, (s.ρ ++ [D])[n]? = some a → s.ρ[n]? = some a ∨ (n = s.ρ.length ∧ a = D) := fun {n a} e => by
    by_cases hn : n < s.ρ.length
    · rw [List.getElem?_append_left hn] at e; exact .inl e
    · rw [List.getElem?_append_right (by omega)] at e
      have h0 : n - s.ρ.length = 0 := by
        by_cases h0 : n - s.ρ.length = 0
        · exact h0
        · rw [List.getElem?_eq_none (by simp; omega)] at e; cases e
      rw [h0] at e
      cases e
      exact .inr ⟨by omega, rfl⟩
  refine ⟨⟨R1.fz, R1.fr, R1.dj, by simp [AS.push, AS.un, R.len], fun m n a e1 e2 => ?_, fun n a e => ?_, fun n a e => ?_, fun n ob' e => ?_⟩, ⟨Le.refl _, rfl, pre⟩⟩
  · rcases key e1 with q1 | ⟨h1, q1⟩ <;> rcases key e2 with q2 | ⟨h2, q2⟩
    · exact R.inj m n a q1 q2
    · exact absurd q2 (nop q1)
    · exact absurd q1 (nop q2)
    · omega
  · rcases key e with q | ⟨_, q⟩
    · exact R.th n a q
    · rw [q, R.fr D o h]; simp
  · show G a = none
    rcases key e with q | ⟨_, q⟩
    · exact R1.nf n a q
    · rw [q]; exact hG
  · have e : (s.hp ++ [ob])[n]? = some ob' := e
    by_cases hn : n < s.hp.length
    · rw [List.getElem?_append_left hn] at e
      obtain ⟨a, ea, c⟩ := R1.cell n ob' e
      exact ⟨a, pre_get pre ea, c.mono (Le.refl _) pre (.inl rfl)⟩
    · rw [List.getElem?_append_right (by omega)] at e
      have h0 : n - s.hp.length = 0 := by
        by_cases h0 : n - s.hp.length = 0
        · exact h0
        · rw [List.getElem?_eq_none (by simp; omega)] at e; cases e
      rw [h0] at e
      cases e
      refine ⟨D, ?_, hc⟩
      have hn' : n = s.ρ.length := by rw [R.len]; omega
      show (s.ρ ++ [D])[n]? = some D
      rw [hn', List.getElem?_append_right (Nat.le_refl _), Nat.sub_self]
      rfl
theorem After.noexc {α : Type} {s : AS} {m : MH α} {Q : α → AS → Hp → Prop} {E E' : Ex → AS → Hp → Prop} (h : After Γ s (MS.noexc m s.hp) Q E) : After Γ s (m s.hp) Q E' := by
  unfold MS.noexc at h
  cases e : m s.hp with
  | ok a hp => rw [e] at h; exact h
  | exc y hp => rw [e] at h; exact h.elim
  | bad => rw [e] at h; exact h
/-- a list held apart at D, made at last -/
theorem keep_fin {s : AS} {H G : Hp} {D : Addr} {m : Bool} {vs : List Val} {us : List V} {Q : VK} {E : Ex → AS → Hp → Prop} (R : Rel Γ s H) (le : Le G s.Fr) (h : s.Fr D = some (.lst us)) (hG : G D = none) (rs : RVs Γ s.F s.ρ vs us)
    (A : After Γ (s.un G) (MS.keep m vs s.hp) (fun x s' H' => ∀ z, RV Γ s'.F s'.ρ x z → Q z H') E) : Q (.ref D) H := by
  unfold MS.keep at A
  cases m with
  | true =>
    obtain ⟨R1, x1⟩ := un_cell (ob := .lst vs) R le h hG ⟨R.dj _ _ h, hG, us, R.fr _ _ h, rs.mono (Le.refl _) (List.prefix_append _ _)⟩
    refine A ((s.un G).push D (.lst vs)) _ rfl x1 R1 _ ⟨D, ?_, rfl⟩
    show (s.ρ ++ [D])[s.hp.length]? = some D
    rw [← R.len, List.getElem?_append_right (Nat.le_refl _), Nat.sub_self]
    rfl
  | false =>
    have A : After Γ (s.un G) (MH.bind (mp MS.pur vs) (fun ts => MH.pure (Val.t (T.lst ts))) s.hp) _ _ := A
    rcases mp_fz (f := MS.pur) (fun s v u R r => fzn_ok 8 s v u R r) vs us s R rs with e | ⟨ts, s1, e, x1, R1, rts⟩
    · rw [bind_no e] at A; exact A.elim
    · rw [bind_ok e] at A
      have h1 : s1.Fr D = some (.lst us) := by rw [x1.Fr]; exact h
      have le1 : Le G s1.Fr := by rw [x1.Fr]; exact le
      obtain ⟨R2, x2⟩ := un_frz R1 le1 h1 hG
      have lf : Le s1.F (upd s1.F D (.lst us)) := Le.upd (R1.dj _ _ h1)
      exact A ((s1.un G).withF D (.lst us)) _ rfl ((un_ext x1).trans x2) R2 _ (rt_lst.mpr ⟨D, us, rfl, upd_same, rts.mono lf ts us⟩)
/-! ### the block -/
def Wno : WX := fun _ _ _ _ => False
theorem no_takes {X : Cx} : Takes X Wno := fun u s' ⟨_, _, _, _, _, _, _, _, _, _, _, _, _, _, _, _, h⟩ => h.elim
/-- in a comprehension's block -/
def InB (X : Cx) (scope : Scope) (P : Cx → Prop) : Prop := ∀ (s : Shared) (H : Hp) (D : Addr) (cl : List (Str × Addr)) (fp : List Addr), P (X.blk s H scope (compEnvC scope cl D X.env) fp)
def SPT (Γ : Run) (X : Cx) (ifs : List Expr) (m : Loc → MH Bool) : Prop := PTs X ifs (tT Γ m Wno)
theorem spt_nil : SPT Γ X [] (evTs C []) := by
  refine ⟨fun pins s σ H Q J h => pts_nil.run pins s σ H Q J ?_⟩
  obtain ⟨loc, s, R, L, A⟩ := h
  simp only [evTs] at A
  exact After.ok R A
theorem spt_one {c : Expr} {m : E} (h : ST Γ X c (evT C m)) : SPT Γ X [c] (evTs C [m]) := by
  have e : evTs C [m] = evT C m := by funext loc; simp only [evTs]
  unfold SPT
  rw [e]
  exact pts_one (h Wno no_takes)
theorem after_step {α : Type} {s : AS} {r : RH α} {Q Q' : α → AS → Hp → Prop} {E E' : Ex → AS → Hp → Prop} (h : After Γ s r Q E) (hQ : ∀ a s' H', Ext s s' → Rel Γ s' H' → Q a s' H' → Q' a s' H') (hE : ∀ x s' H', Ext s s' → Rel Γ s' H' → E x s' H' → E' x s' H') : After Γ s r Q' E' := h.imp hQ hE
/-- a list built at D, behind a part that is there already -/
theorem lc_in {own : List Nat} {b : Bool} {tg : Tg} {tst : Loc → MH Bool} {elt : Loc → MH Val} {xs : List Val} {J : L2.It} {loc : Loc} {σ : L2.St} {s : AS} {H1 G : Hp} {D : Addr} {us0 : List V} {acc0 : List Val} {P : List Val → AS → Hp → Prop} {Fin : Hp → Prop} {E : Ex → AS → Hp → Prop} (R : Rel Γ s H1) (L : Locs Γ s loc σ) (hw : Wk Γ b J xs s) (hz : us0.length + xs.length ≤ SL) (hown : ∀ i ∈ tg.ix, i ∈ own)
    (le : Le G s.Fr) (g2 : G D = none) (hD0 : s.Fr D = some (.lst us0)) (r0 : RVs Γ s.F s.ρ acc0 us0)
    (A : After Γ (s.un G) (lcM (asg tg) (wipeL loc own) tst elt xs s.hp) (fun vs s' H' => P (acc0 ++ vs) s' H') E) (hE : ∀ x s' H', ¬ E x s' H')
    (hfin : ∀ t H' us acc, Rel Γ t H' → Le s.F t.F → s.ρ <+: t.ρ → Le G t.Fr → t.Fr D = some (.lst us) → RVs Γ t.F t.ρ acc us → us.length ≤ us0.length + xs.length → P acc (t.un G) H' → Fin H') : ∃ W : Nat → Nat → Hp → Prop, (∃ m, W 0 m H1) ∧ ∀ i m H, W i m H →
      (J.stop i H ∧ Fin H) ∨ (J.go i H ∧ ∃ Nx : Hp → Prop, (∀ H', Nx H' → ∃ m', m' < m ∧ W (i + 1) m' H') ∧ ∀ x H', J.yld i H x H' → tG Γ b tg x (wipe σ own) H' fun σ2 H2 => wipe σ2 own = wipe σ own ∧ tT Γ tst Wno σ2 H2 fun b H3 =>
        if b = true then tE Γ elt Wno σ2 H3 fun y H4 => ∃ acc, H4 D = some (.lst acc) ∧ acc.length < sizeLine ∧ Nx (upd H4 D (.lst (acc ++ [y]))) else Nx H3) := by
  let Inv : Nat → Hp → Prop := fun i H => ∃ t us acc, Rel Γ t H ∧ Le s.F t.F ∧ s.ρ <+: t.ρ ∧ Le G t.Fr ∧ t.Fr D = some (.lst us) ∧ RVs Γ t.F t.ρ acc us ∧ us.length ≤ us0.length + i ∧
    After Γ (t.un G) (lcM (asg tg) (wipeL loc own) tst elt (xs.drop i) t.hp) (fun vs s' H' => P (acc ++ vs) s' H') E
  refine ⟨fun i n H => n = xs.length - i ∧ i ≤ xs.length ∧ Inv i H, ⟨xs.length, by simp, Nat.zero_le _, ?_⟩, ?_⟩
  · refine ⟨s, us0, acc0, R, Le.refl _, List.prefix_refl _, le, hD0, r0, by omega, ?_⟩
    rw [List.drop_zero]
    exact A
  · rintro i n H ⟨rfl, hi, t, us, acc, Rt, lF, lρ, lG, hF, ra, hlen, At⟩
    have wk := hw t H lF Rt
    by_cases hlt : i < xs.length
    · have hx : xs[i]? = some xs[i] := List.getElem?_eq_getElem hlt
      obtain ⟨go, yl⟩ := wk.1 i _ hx
      refine .inr ⟨go, fun H' => Inv (i + 1) H', fun H' q => ⟨xs.length - (i + 1), by omega, rfl, hlt, q⟩, fun x H' hy => ?_⟩
      obtain ⟨t1, e1, x1, R1, rw1⟩ := yl x H' hy
      rw [List.drop_eq_getElem_cons hlt] at At
      unfold lcM at At
      cases ha : asg tg xs[i] (wipeL loc own) with
      | none => rw [ha] at At; exact At.elim
      | some l1 =>
        rw [ha] at At
        have G1 : Le G t1.Fr := by rw [x1.Fr]; exact lG
        have At1 : After Γ (t1.un G) (MH.bind (tst l1) (fun b => if b = true then MH.bind (elt l1) (fun v => MH.bind (lcM (asg tg) (wipeL loc own) tst elt (xs.drop (i + 1))) fun vs => MH.pure (v :: vs)) else lcM (asg tg) (wipeL loc own) tst elt (xs.drop (i + 1))) t1.hp) (fun vs s' H' => P (acc ++ vs) s' H') E := by
          rw [e1]
          exact After.from (un_ext x1) At
        refine ⟨_, wipeL loc own, t1, l1, R1, (L.wipe own).mono (lF.trans x1.F) (lρ.trans x1.ρ), rw1, ha, fun σ' L' w' => ⟨by rw [w' own hown, wipe_wipe], l1, t1, R1, L', ?_⟩⟩
        refine After.imp (After.more G1 (s := t1) (G := G) At1.bind) (fun bb t2 H2 x2 R2 A2 => ?_) (fun x s' H' _ _ q => (hE _ _ _ q).elim)
        have G2 : Le G t2.Fr := by rw [x2.Fr]; exact G1
        have hF2 : t2.Fr D = some (.lst us) := by rw [x2.Fr, x1.Fr]; exact hF
        have ra2 := (ra.ext x1).ext x2
        cases bb with
        | true =>
          dsimp only
          rw [if_pos rfl]
          rw [if_pos rfl] at A2
          refine ⟨l1, t2, R2, L'.ext x2, ?_⟩
          refine After.imp (After.more G2 (s := t2) (G := G) A2.bind) (fun v t3 H3 x3 R3 A3 u ru => ?_) (fun x s' H' _ _ q => (hE _ _ _ q).elim)
          have G3 : Le G t3.Fr := by rw [x3.Fr]; exact G2
          have hF3 : t3.Fr D = some (.lst us) := by rw [x3.Fr]; exact hF2
          refine ⟨us, R3.fr _ _ hF3, by show us.length < sizeLine; have : us0.length + xs.length ≤ sizeLine := hz; omega, ?_⟩
          refine ⟨t3.fr D (.lst (us ++ [u])), us ++ [u], acc ++ [v], fr_set R3 hF3, lF.trans (x1.F.trans (x2.F.trans x3.F)), lρ.trans (x1.ρ.trans (x2.ρ.trans x3.ρ)), fun q o e => ?_, upd_same, Paired.app (ra2.ext x3) (.cons ru .nil), by rw [List.length_append]; simp; omega, ?_⟩
          · have hq : q ≠ D := fun z => by subst z; rw [g2] at e; cases e
            show upd t3.Fr D _ q = some o
            rw [upd_ne hq]
            exact G3 q o e
          · refine After.imp (After.bind A3) (fun vs s' H' _ R' q => ?_) (fun _ _ _ _ _ q => q)
            have q := After.ok R' q
            rw [List.append_assoc]
            exact q
        | false =>
          dsimp only
          rw [if_neg (by simp)]
          rw [if_neg (by simp)] at A2
          exact ⟨t2, us, acc, R2, lF.trans (x1.F.trans x2.F), lρ.trans (x1.ρ.trans x2.ρ), G2, hF2, ra2, by omega, A2⟩
    · have ei : i = xs.length := by omega
      subst ei
      refine .inl ⟨wk.2, ?_⟩
      rw [List.drop_length] at At
      unfold lcM at At
      have q := After.ok (un_rel Rt lG) At
      rw [List.append_nil] at q
      exact hfin t H us acc Rt lF lρ lG hF ra hlen q
theorem lc_walk {own : List Nat} {b m : Bool} {tg : Tg} {tst : Loc → MH Bool} {elt : Loc → MH Val} {xs : List Val} {J : L2.It} {loc : Loc} {σ : L2.St} {s : AS} {H1 : Hp} {Q : VK} {E : Ex → AS → Hp → Prop} (R : Rel Γ s H1) (L : Locs Γ s loc σ) (hw : Wk Γ b J xs s) (hz : xs.length ≤ SL) (hown : ∀ i ∈ tg.ix, i ∈ own)
    (A : After Γ s (MH.bind (lcM (asg tg) (wipeL loc own) tst elt xs) (fun vs => MS.keep m vs) s.hp) (fun x s' H' => ∀ z, RV Γ s'.F s'.ρ x z → Q z H') E) (hE : ∀ x s' H', ¬ E x s' H') : ∀ D, H1 D = none → ∃ W : Nat → Nat → Hp → Prop, (∃ m, W 0 m (upd H1 D (.lst []))) ∧ ∀ i m H, W i m H →
      (J.stop i H ∧ Q (.ref D) H) ∨ (J.go i H ∧ ∃ Nx : Hp → Prop, (∀ H', Nx H' → ∃ m', m' < m ∧ W (i + 1) m' H') ∧ ∀ x H', J.yld i H x H' → tG Γ b tg x (wipe σ own) H' fun σ2 H2 => wipe σ2 own = wipe σ own ∧ tT Γ tst Wno σ2 H2 fun b H3 =>
        if b = true then tE Γ elt Wno σ2 H3 fun y H4 => ∃ acc, H4 D = some (.lst acc) ∧ acc.length < sizeLine ∧ Nx (upd H4 D (.lst (acc ++ [y]))) else Nx H3) := by
  intro D hD
  obtain ⟨_, g2⟩ := R.free hD
  exact lc_in (s := s.fr D (.lst [])) (G := s.Fr) (us0 := []) (acc0 := []) (P := fun vs s' H' => After Γ s' (MS.keep m vs s'.hp) (fun x s' H' => ∀ z, RV Γ s'.F s'.ρ x z → Q z H') E) (fr_new R hD) (L.mono (Le.refl _) (List.prefix_refl _)) hw (by simpa using hz) hown (Le.upd g2) g2 upd_same .nil A.bind hE
    fun t H' us acc Rt _ _ lG hF ra _ q => keep_fin Rt lG hF g2 ra q
end
end MS

set_option Elab.async false
set_option linter.all false
set_option maxRecDepth 100000
/-! MST: comprehensions as expressions. -/
namespace MS
open PySem PySem.Spec PyProof.Rows L2
section
variable {Γ : Run} {X : Cx} {C : Cl} {I : Info} {k : Nat} {pos p apos cpos : Pos}
theorem te_lc {b m : Bool} {own : List Nat} {tg : Tg} {it : It} {ifs : List E} {e : E} (hown : ∀ i ∈ tg.ix, i ∈ own) {W : WX} {σ : L2.St} {H : Hp} {Q : VK} (h : tE Γ (evE C (.lc m own tg it ifs e)) W σ H Q) :
    tLc (tI Γ b (evIt C it) W) (tG Γ b tg) (tT Γ (evTs C ifs) Wno) (tE Γ (evE C e) Wno) own σ H Q := by
  obtain ⟨loc, s, R, L, A⟩ := h
  simp only [evE] at A
  refine ⟨loc, s, R, L, A.bind.imp (fun xs s1 H1 x1 R1 A1 J hw => ?_) (fun _ _ _ _ _ q => q)⟩
  split at A1
  · rename_i hz
    exact lc_walk (E := fun _ _ _ => False) R1 (L.ext x1) hw hz hown (After.noexc A1) fun _ _ _ h => h
  · exact A1.elim
theorem se_lc {b m : Bool} {scope : Scope} {own : List (Str × Nat)} {tg : Tg} {it : It} {ifs : List E} {e : E} {et ei ee : Expr} {efs : List Expr} (hc : X.calm = true) (hN : X.N.Nodup) (hi : SI Γ X b et ei (evIt C it)) (ok : BlkOk X.N X.env.scope scope own)
    (hg : InB X scope fun Y => SG Γ Y b et tg) (ht : InB X scope fun Y => SPT Γ Y efs (evTs C ifs)) (he : InB X scope fun Y => SE Γ Y ee (evE C e)) (hown : ∀ i ∈ tg.ix, i ∈ own.map (·.2)) :
    SE Γ X (.ListComp ee [⟨et, ei, efs, 0⟩] scope pos) (evE C (.lc m (own.map (·.2)) tg it ifs e)) := by
  intro W tk
  exact PE.imp (pe_lc hc hN (hi.1 W tk) ok hg ht (fun s H D cl fp => he s H D cl fp Wno no_takes) hi.2) fun σ H Q h => te_lc hown h
/-! ### dict comprehensions -/
theorem dput_len {kvs : List (T × Val)} {k : T} {v : Val} : (dput kvs k v).length ≤ kvs.length + 1 := by
  unfold dput
  split
  · simp
  · simp
/-- a dict held apart, frozen at last -/
theorem keepD_fin {s : AS} {H G : Hp} {D : Addr} {kvs : List (T × Val)} {us : List (Key × V)} {Q : VK} {E : Ex → AS → Hp → Prop} (R : Rel Γ s H) (le : Le G s.Fr) (h : s.Fr D = some (.dK us)) (hG : G D = none) (rs : RVd Γ s.F s.ρ kvs us)
    (A : After Γ (s.un G) (MH.bind (mp MS.pur (kvs.map (·.2))) (fun ts => MH.pure (Val.t (T.dct ((kvs.map (·.1)).zip ts)))) s.hp) (fun x s' H' => ∀ z, RV Γ s'.F s'.ρ x z → Q z H') E) : Q (.ref D) H := by
  rcases mp_fz (f := MS.pur) (fun s v u R r => fzn_ok 8 s v u R r) _ _ s R rs.vals with e | ⟨ts, s1, e, x1, R1, rts⟩
  · rw [bind_no e] at A; exact A.elim
  · rw [bind_ok e] at A
    have h1 : s1.Fr D = some (.dK us) := by rw [x1.Fr]; exact h
    have le1 : Le G s1.Fr := by rw [x1.Fr]; exact le
    obtain ⟨R2, x2⟩ := un_frz R1 le1 h1 hG
    have lf : Le s1.F (upd s1.F D (.dK us)) := Le.upd (R1.dj _ _ h1)
    exact A ((s1.un G).withF D (.dK us)) _ rfl ((un_ext x1).trans x2) R2 _ (rt_dct.mpr ⟨D, us, rfl, upd_same, RTd.mono lf _ _ (RTd.of_zip rs rts)⟩)
theorem dc_walk {own : List Nat} {b : Bool} {tg : Tg} {ke ve : Loc → MH Val} {xs : List Val} {J : L2.It} {loc : Loc} {σ : L2.St} {s : AS} {H1 : Hp} {Q : VK} {E : Ex → AS → Hp → Prop} (R : Rel Γ s H1) (L : Locs Γ s loc σ) (hw : Wk Γ b J xs s) (hz : xs.length ≤ SL) (hown : ∀ i ∈ tg.ix, i ∈ own)
    (A : After Γ s (MH.bind (dcM (asg tg) (wipeL loc own) ke ve xs []) (fun kvs => MH.bind (mp MS.pur (kvs.map (·.2))) (fun ts => MH.pure (Val.t (T.dct ((kvs.map (·.1)).zip ts))))) s.hp) (fun x s' H' => ∀ z, RV Γ s'.F s'.ρ x z → Q z H') E) (hE : ∀ x s' H', ¬ E x s' H') : ∀ D, H1 D = none → ∃ W : Nat → Nat → Hp → Prop, (∃ m, W 0 m (upd H1 D (.dK []))) ∧ ∀ i m H, W i m H →
      (J.stop i H ∧ Q (.ref D) H) ∨ (J.go i H ∧ ∃ Nx : Hp → Prop, (∀ H', Nx H' → ∃ m', m' < m ∧ W (i + 1) m' H') ∧ ∀ x H', J.yld i H x H' → tG Γ b tg x (wipe σ own) H' fun σ2 H2 => wipe σ2 own = wipe σ own ∧ tYes σ2 H2 fun b H3 =>
        if b = true then tE Γ ke Wno σ2 H3 fun y H4 => tE Γ ve Wno σ2 H4 fun z H5 => ∃ kvs k, y = kV k ∧ H5 D = some (.dK kvs) ∧ kvs.length < sizeLine ∧ Nx (upd H5 D (.dK (putK kvs k z))) else Nx H3) := by
  intro D hD
  obtain ⟨_, g2⟩ := R.free hD
  let Inv : Nat → Hp → Prop := fun i H => ∃ t us acc, Rel Γ t H ∧ ExtW s t ∧ t.Fr D = some (.dK us) ∧ RVd Γ t.F t.ρ acc us ∧ us.length ≤ i ∧
    After Γ (t.un s.Fr) (dcM (asg tg) (wipeL loc own) ke ve (xs.drop i) acc t.hp) (fun kvs s' H' => After Γ s' (MH.bind (mp MS.pur (kvs.map (·.2))) (fun ts => MH.pure (Val.t (T.dct ((kvs.map (·.1)).zip ts)))) s'.hp) (fun x s' H' => ∀ z, RV Γ s'.F s'.ρ x z → Q z H') E) E
  refine ⟨fun i n H => n = xs.length - i ∧ i ≤ xs.length ∧ Inv i H, ⟨xs.length, by simp, Nat.zero_le _, ?_⟩, ?_⟩
  · refine ⟨s.fr D (.dK []), [], [], fr_new R hD, ⟨Le.refl _, Le.upd g2, List.prefix_refl _⟩, upd_same, .nil, Nat.zero_le _, ?_⟩
    rw [List.drop_zero]
    exact After.imp A.bind (fun vs s' H' _ _ q => q) (fun _ _ _ _ _ q => q)
  · rintro i n H ⟨rfl, hi, t, us, acc, Rt, xt, hF, ra, hlen, At⟩
    have wk := hw t H xt.F Rt
    by_cases hlt : i < xs.length
    · have hx : xs[i]? = some xs[i] := List.getElem?_eq_getElem hlt
      obtain ⟨go, yl⟩ := wk.1 i _ hx
      refine .inr ⟨go, fun H' => Inv (i + 1) H', fun H' q => ⟨xs.length - (i + 1), by omega, rfl, hlt, q⟩, fun x H' hy => ?_⟩
      obtain ⟨t1, e1, x1, R1, rw1⟩ := yl x H' hy
      rw [List.drop_eq_getElem_cons hlt] at At
      unfold dcM at At
      cases ha : asg tg xs[i] (wipeL loc own) with
      | none => rw [ha] at At; exact At.elim
      | some l1 =>
        rw [ha] at At
        have xt1 : ExtW s t1 := xt.trans x1.w
        have At1 : After Γ (t1.un s.Fr) (MH.bind (ke l1) (fun k => MH.bind (keyV k) fun k => MH.bind (ve l1) fun v => dcM (asg tg) (wipeL loc own) ke ve (xs.drop (i + 1)) (dput acc k v)) t1.hp) (fun kvs s' H' => After Γ s' (MH.bind (mp MS.pur (kvs.map (·.2))) (fun ts => MH.pure (Val.t (T.dct ((kvs.map (·.1)).zip ts)))) s'.hp) (fun x s' H' => ∀ z, RV Γ s'.F s'.ρ x z → Q z H') E) E := by
          rw [e1]
          exact After.from (un_ext x1) At
        refine ⟨_, wipeL loc own, t1, l1, R1, (L.wipe own).mono xt1.F xt1.ρ, rw1, ha, fun σ' L' w' => ⟨by rw [w' own hown, wipe_wipe], ?_⟩⟩
        dsimp only [tYes]
        rw [if_pos rfl]
        refine ⟨l1, t1, R1, L', After.imp (After.more xt1.Fr (s := t1) (G := s.Fr) At1.bind) (fun kk t2 H2 x2 R2 A2 u ru => ?_) (fun x s' H' _ _ q => (hE _ _ _ q).elim)⟩
        have xt2 : ExtW s t2 := xt1.trans x2.w
        obtain ⟨key, ek, A2⟩ := After.keyV (s := t2.un s.Fr) ru A2
        refine ⟨l1, t2, R2, L'.ext x2, After.imp (After.more xt2.Fr (s := t2) (G := s.Fr) A2.bind) (fun v t3 H3 x3 R3 A3 u2 ru2 => ?_) (fun x s' H' _ _ q => (hE _ _ _ q).elim)⟩
        have xt3 : ExtW s t3 := xt2.trans x3.w
        have hF3 : t3.Fr D = some (.dK us) := by rw [x3.Fr, x2.Fr, x1.Fr]; exact hF
        refine ⟨us, key, ek, R3.fr _ _ hF3, by show us.length < sizeLine; have : xs.length ≤ sizeLine := hz; omega, ?_⟩
        have ra3 : RVd Γ t3.F t3.ρ acc us := ra.mono (x1.trans (x2.trans x3)).F (x1.trans (x2.trans x3)).ρ
        refine ⟨t3.fr D (.dK (putK us key u2)), putK us key u2, dput acc (keyT key) v, fr_set R3 hF3, ⟨xt3.F, fun q o e => ?_, xt3.ρ⟩, upd_same, dput_put ru2 ra3, ?_, A3⟩
        · have hq : q ≠ D := fun z => by subst z; rw [g2] at e; cases e
          show upd t3.Fr D _ q = some o
          rw [upd_ne hq]
          exact xt3.Fr q o e
        · have := length_putK us key u2
          omega
    · have ei : i = xs.length := by omega
      subst ei
      refine .inl ⟨wk.2, ?_⟩
      rw [List.drop_length] at At
      unfold dcM at At
      exact keepD_fin Rt xt.Fr hF g2 ra (After.ok (un_rel Rt xt.Fr) At)
theorem se_dc {b : Bool} {scope : Scope} {own : List (Str × Nat)} {tg : Tg} {it : It} {mk mv : E} {et ei ek ev : Expr} (hc : X.calm = true) (hN : X.N.Nodup) (hi : SI Γ X b et ei (evIt C it)) (ok : BlkOk X.N X.env.scope scope own)
    (hg : InB X scope fun Y => SG Γ Y b et tg) (hk : InB X scope fun Y => SE Γ Y ek (evE C mk)) (hv : InB X scope fun Y => SE Γ Y ev (evE C mv)) (hown : ∀ i ∈ tg.ix, i ∈ own.map (·.2)) :
    SE Γ X (.DictComp ek ev [⟨et, ei, [], 0⟩] scope pos) (evE C (.dc (own.map (·.2)) tg it mk mv)) := by
  intro W tk
  refine PE.imp (pe_dc hc hN (hi.1 W tk) ok hg (fun s H D cl fp => pts_nil) (fun s H D cl fp => hk s H D cl fp Wno no_takes) (fun s H D cl fp => hv s H D cl fp Wno no_takes) hi.2) ?_
  rintro σ H Q ⟨loc, s, R, L, A⟩
  simp only [evE] at A
  refine ⟨loc, s, R, L, A.bind.imp (fun xs s1 H1 x1 R1 A1 J hw => ?_) (fun _ _ _ _ _ q => q)⟩
  split at A1
  · rename_i hz
    exact dc_walk (E := fun _ _ _ => False) R1 (L.ext x1) hw hz hown (After.noexc A1) fun _ _ _ h => h
  · exact A1.elim
/-! ### two sources -/
theorem lc2_walk {own own1 : List Nat} {b b1 m : Bool} {tg tg1 : Tg} {tst tst1 : Loc → MH Bool} {it1 : Loc → MH (List Val)} {elt : Loc → MH Val} {xs : List Val} {J : L2.It} {loc : Loc} {σ : L2.St} {s : AS} {H1 : Hp} {Q : VK} {E : Ex → AS → Hp → Prop} (R : Rel Γ s H1) (L : Locs Γ s loc σ) (hw : Wk Γ b J xs s) (hz : xs.length ≤ 1000) (hown : ∀ i ∈ tg.ix, i ∈ own) (hown1 : ∀ i ∈ tg1.ix, i ∈ own1)
    (A : After Γ s (MH.bind (lcM2 (asg tg) (wipeL loc own) tst (fun l => MH.bind (it1 l) fun ys => if ys.length ≤ 1000 then lcM (asg tg1) (wipeL l own1) tst1 elt ys else bad) xs) (fun vs => MS.keep m vs) s.hp) (fun x s' H' => ∀ z, RV Γ s'.F s'.ρ x z → Q z H') E) (hE : ∀ x s' H', ¬ E x s' H') : ∀ D, H1 D = none → ∃ W : Nat → Nat → Hp → Prop, (∃ m, W 0 m (upd H1 D (.lst []))) ∧ ∀ i m H, W i m H →
      (J.stop i H ∧ Q (.ref D) H) ∨ (J.go i H ∧ ∃ Nx : Hp → Prop, (∀ H', Nx H' → ∃ m', m' < m ∧ W (i + 1) m' H') ∧ ∀ x H', J.yld i H x H' → tG Γ b tg x (wipe σ own) H' fun σ2 H2 => wipe σ2 own = wipe σ own ∧ tT Γ tst Wno σ2 H2 fun b H3 =>
        if b = true then tI Γ b1 it1 Wno σ2 H3 fun J1 H4 => ∃ W1 : Nat → Nat → Hp → Prop, (∃ m, W1 0 m H4) ∧ ∀ j k H, W1 j k H →
          (J1.stop j H ∧ Nx H) ∨ (J1.go j H ∧ ∃ Nx1 : Hp → Prop, (∀ H', Nx1 H' → ∃ k', k' < k ∧ W1 (j + 1) k' H') ∧ ∀ x H', J1.yld j H x H' → tG Γ b1 tg1 x (wipe σ2 own1) H' fun σ3 H5 => wipe σ3 own1 = wipe σ2 own1 ∧ tT Γ tst1 Wno σ3 H5 fun b H6 =>
            if b = true then tE Γ elt Wno σ3 H6 fun y H7 => ∃ acc, H7 D = some (.lst acc) ∧ acc.length < sizeLine ∧ Nx1 (upd H7 D (.lst (acc ++ [y]))) else Nx1 H6)
        else Nx H3) := by
  intro D hD
  obtain ⟨_, g2⟩ := R.free hD
  let inner : Loc → MH (List Val) := fun l => MH.bind (it1 l) fun ys => if ys.length ≤ 1000 then lcM (asg tg1) (wipeL l own1) tst1 elt ys else bad
  let G := s.Fr
  let P : List Val → AS → Hp → Prop := fun vs s' H' => After Γ s' (MS.keep m vs s'.hp) (fun x s' H' => ∀ z, RV Γ s'.F s'.ρ x z → Q z H') E
  let Inv : Nat → Hp → Prop := fun i H => ∃ t us acc, Rel Γ t H ∧ Le s.F t.F ∧ s.ρ <+: t.ρ ∧ Le G t.Fr ∧ t.Fr D = some (.lst us) ∧ RVs Γ t.F t.ρ acc us ∧ us.length ≤ 1000 * i ∧
    After Γ (t.un G) (lcM2 (asg tg) (wipeL loc own) tst inner (xs.drop i) t.hp) (fun vs s' H' => P (acc ++ vs) s' H') E
  refine ⟨fun i n H => n = xs.length - i ∧ i ≤ xs.length ∧ Inv i H, ⟨xs.length, by simp, Nat.zero_le _, ?_⟩, ?_⟩
  · refine ⟨s.fr D (.lst []), [], [], fr_new R hD, Le.refl _, List.prefix_refl _, Le.upd g2, upd_same, .nil, by simp, ?_⟩
    rw [List.drop_zero]
    exact A.bind
  · rintro i n H ⟨rfl, hi, t, us, acc, Rt, lF, lρ, lG, hF, ra, hlen, At⟩
    have wk := hw t H lF Rt
    by_cases hlt : i < xs.length
    · have hx : xs[i]? = some xs[i] := List.getElem?_eq_getElem hlt
      obtain ⟨go, yl⟩ := wk.1 i _ hx
      refine .inr ⟨go, fun H' => Inv (i + 1) H', fun H' q => ⟨xs.length - (i + 1), by omega, rfl, hlt, q⟩, fun x H' hy => ?_⟩
      obtain ⟨t1, e1, x1, R1, rw1⟩ := yl x H' hy
      rw [List.drop_eq_getElem_cons hlt] at At
      unfold lcM2 at At
      cases ha : asg tg xs[i] (wipeL loc own) with
      | none => rw [ha] at At; exact At.elim
      | some l1 =>
        rw [ha] at At
        have G1 : Le G t1.Fr := by rw [x1.Fr]; exact lG
        have At1 : After Γ (t1.un G) (MH.bind (tst l1) (fun b => if b = true then MH.bind (inner l1) (fun v => MH.bind (lcM2 (asg tg) (wipeL loc own) tst inner (xs.drop (i + 1))) fun vs => MH.pure (v ++ vs)) else lcM2 (asg tg) (wipeL loc own) tst inner (xs.drop (i + 1))) t1.hp) (fun vs s' H' => P (acc ++ vs) s' H') E := by
          rw [e1]
          exact After.from (un_ext x1) At
        refine ⟨_, wipeL loc own, t1, l1, R1, (L.wipe own).mono (lF.trans x1.F) (lρ.trans x1.ρ), rw1, ha, fun σ' L' w' => ⟨by rw [w' own hown, wipe_wipe], l1, t1, R1, L', ?_⟩⟩
        refine After.imp (After.more G1 (s := t1) (G := G) At1.bind) (fun bb t2 H2 x2 R2 A2 => ?_) (fun x s' H' _ _ q => (hE _ _ _ q).elim)
        have G2 : Le G t2.Fr := by rw [x2.Fr]; exact G1
        have hF2 : t2.Fr D = some (.lst us) := by rw [x2.Fr, x1.Fr]; exact hF
        have ra2 := (ra.ext x1).ext x2
        have lF2 := lF.trans (x1.F.trans x2.F)
        have lρ2 := lρ.trans (x1.ρ.trans x2.ρ)
        cases bb with
        | true =>
          dsimp only
          rw [if_pos rfl]
          rw [if_pos rfl] at A2
          have A3 : After Γ (t2.un G) (MH.bind (it1 l1) (fun ys => MH.bind (if ys.length ≤ 1000 then lcM (asg tg1) (wipeL l1 own1) tst1 elt ys else bad) fun v => MH.bind (lcM2 (asg tg) (wipeL loc own) tst inner (xs.drop (i + 1))) fun vs => MH.pure (v ++ vs)) t2.hp) (fun vs s' H' => P (acc ++ vs) s' H') E := by
            have A2 : After Γ (t2.un G) (MH.bind (inner l1) (fun v => MH.bind (lcM2 (asg tg) (wipeL loc own) tst inner (xs.drop (i + 1))) fun vs => MH.pure (v ++ vs)) t2.hp) (fun vs s' H' => P (acc ++ vs) s' H') E := A2
            rw [show inner l1 = MH.bind (it1 l1) (fun ys => if ys.length ≤ 1000 then lcM (asg tg1) (wipeL l1 own1) tst1 elt ys else bad) from rfl, MH.bind_assoc] at A2
            exact A2
          refine ⟨l1, t2, R2, L'.ext x2, ?_⟩
          refine After.imp (After.more G2 (s := t2) (G := G) A3.bind) (fun ys t3 H3 x3 R3 A4 J1 hw1 => ?_) (fun x s' H' _ _ q => (hE _ _ _ q).elim)
          have G3 : Le G t3.Fr := by rw [x3.Fr]; exact G2
          have hF3 : t3.Fr D = some (.lst us) := by rw [x3.Fr]; exact hF2
          have hys : ys.length ≤ 1000 := by
            by_cases h : ys.length ≤ 1000
            · exact h
            · rw [if_neg h] at A4
              exact A4.elim
          rw [if_pos hys] at A4
          refine lc_in (P := fun vs s' H' => ∃ v, vs = acc ++ v ∧ After Γ s' (MH.bind (lcM2 (asg tg) (wipeL loc own) tst inner (xs.drop (i + 1))) (fun ws => MH.pure (v ++ ws)) s'.hp) (fun vs s' H' => P (acc ++ vs) s' H') E) (us0 := us) (acc0 := acc) (G := G) (E := E) R3 ((L'.ext x2).ext x3) hw1 ?_ hown1 G3 g2 hF3 (ra2.ext x3) ?_ hE ?_
          · show us.length + ys.length ≤ sizeLine
            rw [sizeLine_eq]
            omega
          · exact After.imp (After.bind A4) (fun v s' H' _ _ q => ⟨v, rfl, q⟩) (fun _ _ _ _ _ q => q)
          · intro t4 H4 us4 acc4 R4 lF4 lρ4 lG4 hF4 ra4 hl4 q
            obtain ⟨v, ev, q⟩ := q
            refine ⟨t4, us4, acc4, R4, lF2.trans (x3.F.trans lF4), lρ2.trans (x3.ρ.trans lρ4), lG4, hF4, ra4, by omega, ?_⟩
            refine After.imp (After.bind q) (fun ws s' H' _ R' q => ?_) (fun _ _ _ _ _ q => q)
            have q := After.ok R' q
            rw [ev, List.append_assoc]
            exact q
        | false =>
          dsimp only
          rw [if_neg (by simp)]
          rw [if_neg (by simp)] at A2
          exact ⟨t2, us, acc, R2, lF2, lρ2, G2, hF2, ra2, by omega, A2⟩
    · have ei : i = xs.length := by omega
      subst ei
      refine .inl ⟨wk.2, ?_⟩
      rw [List.drop_length] at At
      unfold lcM2 at At
      have q := After.ok (un_rel Rt lG) At
      rw [List.append_nil] at q
      exact keep_fin Rt lG hF g2 ra q
theorem te_lc2 {b b1 m : Bool} {own : List Nat} {tg tg1 : Tg} {it it1 : It} {ifs ifs1 : List E} {e : E} (hown : ∀ i ∈ tg.ix, i ∈ own) {W : WX} {σ : L2.St} {H : Hp} {Q : VK} (h : tE Γ (evE C (.lc2 m own tg it ifs tg1 it1 ifs1 e)) W σ H Q) :
    tLc2 (tI Γ b (evIt C it) W) (tG Γ b tg) (tT Γ (evTs C ifs) Wno) (tI Γ b1 (evIt C it1) Wno) (tG Γ b1 tg1) (tT Γ (evTs C ifs1) Wno) (tE Γ (evE C e) Wno) own tg1.ix σ H Q := by
  obtain ⟨loc, s, R, L, A⟩ := h
  simp only [evE] at A
  refine ⟨loc, s, R, L, A.bind.imp (fun xs s1 H1 x1 R1 A1 J hw => ?_) (fun _ _ _ _ _ q => q)⟩
  split at A1
  · rename_i hz
    exact lc2_walk (E := fun _ _ _ => False) R1 (L.ext x1) hw hz hown (fun _ h => h) (After.noexc A1) fun _ _ _ h => h
  · exact A1.elim
theorem se_lc2 {b b1 m : Bool} {scope : Scope} {own : List (Str × Nat)} {tg tg1 : Tg} {it it1 : It} {ifs ifs1 : List E} {e : E} {et ei et1 ei1 ee : Expr} {efs efs1 : List Expr} (hc : X.calm = true) (hN : X.N.Nodup) (hi : SI Γ X b et ei (evIt C it)) (ok : BlkOk X.N X.env.scope scope own)
    (hv : ∀ i ∈ tg1.ix, i ∈ own.map (·.2)) (hg : InB X scope fun Y => SG Γ Y b et tg) (ht : InB X scope fun Y => SPT Γ Y efs (evTs C ifs)) (hi1 : InB X scope fun Y => SI Γ Y b1 et1 ei1 (evIt C it1)) (hg1 : InB X scope fun Y => SG Γ Y b1 et1 tg1) (ht1 : InB X scope fun Y => SPT Γ Y efs1 (evTs C ifs1)) (he : InB X scope fun Y => SE Γ Y ee (evE C e)) (hown : ∀ i ∈ tg.ix, i ∈ own.map (·.2)) (hff : ffB ei1 = false) :
    SE Γ X (.ListComp ee [⟨et, ei, efs, 0⟩, ⟨et1, ei1, efs1, 0⟩] scope pos) (evE C (.lc2 m (own.map (·.2)) tg it ifs tg1 it1 ifs1 e)) := by
  intro W tk
  refine PE.imp (pe_lc2 hc hN (hi.1 W tk) ok hv hg ht (fun s H D cl fp => (hi1 s H D cl fp).1 Wno no_takes) hg1 ht1 (fun s H D cl fp => he s H D cl fp Wno no_takes) hi.2 (fun env => ff_no hff)) ?_
  intro σ H Q h
  exact te_lc2 hown h
end
end MS

set_option Elab.async false
set_option linter.all false
set_option maxRecDepth 100000
/-! MSU: statements. -/
namespace MS
open PySem PySem.Spec PyProof.Rows L2
section
variable {Γ : Run} {X : Cx} {C : Cl} {I : Info} {k : Nat} {pos p apos cpos : Pos}
theorem AfterS.from {s s' : AS} {r : RS} {W : WX} {D : Ends} (e : Ext s s') (h : AfterS Γ s r W D) : AfterS Γ s' r W D := by
  cases r with
  | ok f hp => exact fun t H' e1 e2 R => h t H' e1 (e.trans e2) R
  | exc x l hp => exact fun t H' e1 e2 R => h t H' e1 (e.trans e2) R
  | bad => exact h
theorem AfterS.thenE {α : Type} {s : AS} {loc : Loc} {σ : L2.St} {m : MH α} {kk : α → List Ob → RS} {W : WX} {D : Ends} (L : Locs Γ s loc σ) (h : AfterS Γ s (MS.thenE m loc kk s.hp) W D) : After Γ s (m s.hp) (fun a s' H' => AfterS Γ s' (kk a s'.hp) W D) (XW Γ W σ) := by
  unfold MS.thenE at h
  cases e : m s.hp with
  | ok a hp =>
    rw [e] at h
    intro t H' e1 e2 R
    rw [e1]
    exact AfterS.from e2 h
  | exc x hp =>
    rw [e] at h
    exact fun t H' e1 e2 R => h t H' e1 e2 R σ (L.ext e2)
  | bad => rw [e] at h; exact h
theorem AfterS.nx {s : AS} {H : Hp} {loc : Loc} {W : WX} {D : Ends} {σ : L2.St} (R : Rel Γ s H) (L : Locs Γ s loc σ) (h : AfterS Γ s (.ok (.nx loc) s.hp) W D) : D.nx σ H := h s H rfl (Ext.refl s) R σ L
/-! ### simple ones -/
theorem ss_pass : SS Γ X (.Pass pos) (exS C .pass) := by
  intro W tk
  refine PS.imp ps_pass ?_
  rintro D σ H ⟨loc, s, R, L, A⟩
  simp only [exS] at A
  exact A.nx R L
theorem ss_brk : SS Γ X (.Break pos) (exS C .brk) := by
  intro W tk
  refine PS.imp ps_break ?_
  rintro D σ H ⟨loc, s, R, L, A⟩
  simp only [exS] at A
  exact A s H rfl (Ext.refl s) R σ L
theorem ss_cnt : SS Γ X (.Continue pos) (exS C .cnt) := by
  intro W tk
  refine PS.imp ps_continue ?_
  rintro D σ H ⟨loc, s, R, L, A⟩
  simp only [exS] at A
  exact A s H rfl (Ext.refl s) R σ L
theorem ss_no {st : Stmt} : SS Γ X st (exS C .no) := by
  intro W tk
  refine ⟨fun pins s σ H D J h => ?_⟩
  obtain ⟨loc, s, R, L, A⟩ := h
  simp only [exS] at A
  exact A.elim
theorem ss_ex {e : Expr} {m : E} (h : SE Γ X e (evE C m)) (hs : cmB e = false) : SS Γ X (.Expr e pos) (exS C (.ex m)) := by
  intro W tk
  refine PS.imp (ps_expr (h W tk) (swap_no hs)) ?_
  rintro D σ H ⟨loc, s, R, L, A⟩
  simp only [exS] at A
  exact ⟨loc, s, R, L, (A.thenE L).imp (fun v s1 H1 x1 R1 A1 u r => A1.nx R1 (L.ext x1)) (fun _ _ _ _ _ q => q)⟩
theorem ss_ret {e : Expr} {m : E} {b : Bool} (h : SE Γ X e (evE C m)) : SS Γ X (.Return (some e) pos) (exS C (.ret b m)) := by
  intro W tk
  refine PS.imp (ps_ret (h W tk)) ?_
  rintro D σ H ⟨loc, s, R, L, A⟩
  simp only [exS] at A
  have A1 := A.thenE L
  cases b with
  | true => exact ⟨loc, s, R, L, A1.imp (fun v s1 H1 x1 R1 A1 u r => A1 s1 H1 rfl (Ext.refl s1) R1 u r) (fun _ _ _ _ _ q => q)⟩
  | false =>
    have A1 : After Γ s (MH.bind (evE C m loc) (fun v => MH.bind (MS.pur v) fun x => MH.pure (Val.t x)) s.hp) _ _ := A1
    refine ⟨loc, s, R, L, A1.bind.imp (fun v s1 H1 x1 R1 A1 u r => ?_) (fun _ _ _ _ _ q => q)⟩
    obtain ⟨x, s2, x2, R2, rx, A2⟩ := After.pur R1 r A1
    have A3 := After.ok R2 A2
    exact A3 s2 H1 rfl (Ext.refl s2) R2 u rx
theorem ss_retn : SS Γ X (.Return none pos) (exS C .retn) := by
  intro W tk
  refine PS.imp ps_retN ?_
  rintro D σ H ⟨loc, s, R, L, A⟩
  simp only [exS] at A
  exact A s H rfl (Ext.refl s) R _ (rv_non.mpr rfl)
theorem sss_nil : SSs Γ X [] (exSs C []) := by
  intro W tk
  refine PSs.imp pss_nil ?_
  rintro D σ H ⟨loc, s, R, L, A⟩
  simp only [exSs] at A
  exact A.nx R L
theorem sss_cons {st : Stmt} {rest : List Stmt} {m : S} {ms : List S} (h : SS Γ X st (exS C m)) (hr : SSs Γ X rest (exSs C ms)) : SSs Γ X (st :: rest) (exSs C (m :: ms)) := by
  intro W tk
  refine PSs.imp (pss_cons (h W tk) (hr W tk)) ?_
  rintro D σ H ⟨loc, s, R, L, A⟩
  simp only [exSs] at A
  refine ⟨loc, s, R, L, ?_⟩
  unfold thenS at A
  cases e : exS C m loc s.hp with
  | bad => rw [e] at A; exact A
  | exc x l hp => rw [e] at A; exact A
  | ok f hp =>
    rw [e] at A
    cases f with
    | nx l =>
      intro s' H' e1 e2 R' σ' L'
      refine ⟨l, s', R', L', ?_⟩
      rw [e1]
      exact AfterS.from e2 A
    | ret v => exact A
    | bk l => exact A
    | ct l => exact A
theorem ss_iff {c : Expr} {a b : List Stmt} {mc : E} {ma mb : List S} (hc : ST Γ X c (evT C mc)) (ha : SSs Γ X a (exSs C ma)) (hb : SSs Γ X b (exSs C mb)) : SS Γ X (.If c a b pos) (exS C (.iff mc ma mb)) := by
  intro W tk
  refine PS.imp (ps_if (hc W tk) (ha W tk) (hb W tk)) ?_
  rintro D σ H ⟨loc, s, R, L, A⟩
  simp only [exS] at A
  refine ⟨loc, s, R, L, (A.thenE L).imp (fun d s1 H1 x1 R1 A1 => ?_) (fun _ _ _ _ _ q => q)⟩
  cases d with
  | true => exact ⟨loc, s1, R1, L.ext x1, A1⟩
  | false => exact ⟨loc, s1, R1, L.ext x1, A1⟩
/-! ### assignments -/
theorem ss_set {i : Nat} {x : Str} {e : Expr} {m : E} {p' : Pos} (hN : X.N.Nodup) (hi : X.N[i]? = some x) (hx : L2.Loc X.env.scope x) (hf : X.fn x = true ∨ X.env.scope.names.lookup x = some .local) (h : SE Γ X e (evE C m)) (hs : swapsWith e (some (.Name x p')) pos.line X.env = pure false) : SS Γ X (.Assign [.Name x p'] e pos) (exS C (.set i m)) := by
  intro W tk
  refine PS.imp (ps_set hN hi hx (h W tk) hs hf) ?_
  rintro D σ H ⟨loc, s, R, L, A⟩
  simp only [exS] at A
  exact ⟨loc, s, R, L, (A.thenE L).imp (fun v s1 H1 x1 R1 A1 u r => A1.nx R1 ((L.ext x1).set i r)) (fun _ _ _ _ _ q => q)⟩
theorem ss_des {es : List Expr} {j : Nat} {p' : Pos} {ts : List Tg} {e : Expr} {m : E} (hg : SG Γ X false (.Tuple es j p') (.tp ts)) (h : SE Γ X e (evE C m)) (hs : cmB e = false) (ht : tuB e = false) : SS Γ X (.Assign [.Tuple es j p'] e pos) (exS C (.des ts m)) := by
  intro W tk
  refine PS.imp (ps_asg (h W tk) hg (swap1_no hs) (stores_no ht) (by rw [asgE_cons rfl]; rfl)) ?_
  rintro D σ H ⟨loc, s, R, L, A⟩
  simp only [exS] at A
  refine ⟨loc, s, R, L, (A.thenE L).imp (fun v s1 H1 x1 R1 A1 u r => ?_) (fun _ _ _ _ _ q => q)⟩
  cases ea : asg (.tp ts) v loc with
  | none => rw [ea] at A1; exact A1.elim
  | some l =>
    rw [ea] at A1
    exact ⟨v, loc, s1, l, R1, L.ext x1, .inl r, ea, fun σ' L' _ => A1.nx R1 L'⟩
theorem Paired.set {α β : Type} {R : α → β → Prop} {x : α} {y : β} : ∀ {xs : List α} {ys : List β}, Paired R xs ys → ∀ j : Nat, R x y → Paired R (xs.set j x) (ys.set j y)
  | _, _, .nil, _, _ => .nil
  | _, _, .cons r t, 0, h => .cons h t
  | _, _, .cons r t, j + 1, h => .cons r (Paired.set t j h)
theorem ss_sub {eo ei e : Expr} {a i m : E} {p' : Pos} (ho : SE Γ X eo (evE C a)) (hi : SE Γ X ei (evE C i)) (h : SE Γ X e (evE C m)) (hs : cmB e = false) (ht : tuB e = false) (hsl : slB ei = false) : SS Γ X (.Assign [.Subscript eo ei p'] e pos) (exS C (.sub a i m)) := by
  intro W tk
  refine PS.imp (ps_asg (h W tk) (pg_sub (ho W tk) (hi W tk) set_list (fun v => by cases ei <;> first | rfl | cases hsl)) (swap1_no hs) (stores_no ht) (by rw [asgE_cons rfl]; rfl)) ?_
  rintro D σ H ⟨loc, s, R, L, A⟩
  simp only [exS] at A
  have A0 := (A.thenE L).bind
  refine ⟨loc, s, R, L, A0.imp (fun v s1 H1 x1 R1 A1 u r => ?_) (fun _ _ _ _ _ q => q)⟩
  refine ⟨loc, s1, R1, L.ext x1, A1.bind.imp (fun w s2 H2 x2 R2 A2 u2 r2 => ?_) (fun _ _ _ _ _ q => q)⟩
  refine ⟨loc, s2, R2, (L.ext x1).ext x2, A2.bind.imp (fun z s3 H3 x3 R3 A3 u3 r3 => ?_) (fun _ _ _ _ _ q => q)⟩
  have L3 := ((L.ext x1).ext x2).ext x3
  change After Γ s3 (MH.bind (cellV w) (fun q => MH.bind (intV z) fun k => match L2.ixN q.2.length k with | some j => put q.1 (.lst (q.2.set j v)) | none => bad) s3.hp) _ _ at A3
  obtain ⟨n, xs, q, ys, e1, e2, hρ, hc, f1, f2, hH, rx, A3⟩ := A3.cellV R3 (r2.ext x3)
  obtain ⟨kk, _, ek, A3⟩ := A3.intV r3
  dsimp only at A3
  cases hj : L2.ixN xs.length kk with
  | none => rw [hj] at A3; exact A3.elim
  | some j =>
    rw [hj] at A3
    obtain ⟨R4, x4⟩ := wr_cell (ob := .lst (xs.set j v)) (o := .lst (ys.set j u)) R3 hρ f1 f2 ⟨f1, f2, _, upd_same, Paired.set rx j ((r.ext x2).ext x3)⟩
    refine ⟨q, ys, kk, j, e2, ek, hH, by rw [← Paired.len rx]; exact hj, ?_⟩
    exact (A3 (s3.wr n (.lst (xs.set j v))) _ rfl x4 R4).nx R4 (L3.ext x4)
theorem ss_subd {eo ei e : Expr} {a i m : E} {p' : Pos} (hu : X.A.units + 1 < cLine) (ho : SE Γ X eo (evE C a)) (hi : SE Γ X ei (evE C i)) (h : SE Γ X e (evE C m)) (hs : cmB e = false) : SS Γ X (.Assign [.Subscript eo ei p'] e pos) (exS C (.subd a i m)) := by
  intro W tk
  refine PS.imp (ps_dput hu (ho W tk) (hi W tk) (h W tk) (swap_no hs)) ?_
  rintro D σ H ⟨loc, s, R, L, A⟩
  simp only [exS] at A
  have A0 := (A.thenE L).bind
  refine ⟨loc, s, R, L, A0.imp (fun v s1 H1 x1 R1 A1 u r => ?_) (fun _ _ _ _ _ q => q)⟩
  refine ⟨loc, s1, R1, L.ext x1, A1.bind.imp (fun w s2 H2 x2 R2 A2 u2 r2 => ?_) (fun _ _ _ _ _ q => q)⟩
  refine ⟨loc, s2, R2, (L.ext x1).ext x2, A2.bind.imp (fun z s3 H3 x3 R3 A3 u3 r3 => ?_) (fun _ _ _ _ _ q => q)⟩
  have L3 := ((L.ext x1).ext x2).ext x3
  have r2 := r2.ext x3
  unfold setDM at A3
  cases w with
  | t _ => exact A3.elim
  | ref n =>
    obtain ⟨q, eq, rfl⟩ := r2
    dsimp only at A3
    cases ec : s3.hp[n]? with
    | none => rw [ec] at A3; exact A3.elim
    | some ob =>
      rw [ec] at A3
      obtain ⟨b, eb, cc⟩ := R3.cell n _ ec
      rw [eq] at eb; cases eb
      cases ob with
      | dct kvs =>
        obtain ⟨c1, c2, us, c3, c4⟩ := cc
        obtain ⟨kk, ek, A3⟩ := After.keyV r3 A3
        split at A3
        · rename_i hz
          obtain ⟨R4, x4⟩ := wr_cell (ob := .dct (dput kvs (keyT kk) v)) (o := .dK (putK us kk u)) R3 eq c1 c2 ⟨c1, c2, _, upd_same, dput_put ((r.ext x2).ext x3) c4⟩
          refine ⟨q, _, rfl, by rw [ek]; exact DPut.k c3 (by rw [← Paired.len c4]; exact hz), ?_⟩
          exact (A3 (s3.wr n (.dct (dput kvs (keyT kk) v))) _ rfl x4 R4).nx R4 (L3.ext x4)
        · exact A3.elim
      | _ => exact A3.elim
theorem putF_put {F : Hp} {ρ : List Addr} {f : Nat} (hf : f < 20) {v : Val} {u : V} (rv : RV Γ F ρ v u) : ∀ {fs : List (Nat × Val)} {ns : List (Str × V)}, RVf Γ F ρ fs ns → RVf Γ F ρ (MS.putF f v fs) (L2.putF (fldN f) u ns)
  | _, _, .nil => .cons ⟨rfl, rv⟩ .nil
  | _, _, .cons (a := p) (b := q) r t => by
    obtain ⟨g, w⟩ := p
    obtain ⟨j, z⟩ := q
    obtain ⟨r1, r2⟩ := r
    have r1 : j = fldN g := r1
    subst r1
    unfold MS.putF L2.putF
    by_cases h : g = f
    · subst h
      rw [if_pos rfl, if_pos rfl]
      exact .cons ⟨rfl, rv⟩ t
    · rw [if_neg h, if_neg fun z => h (fldN_inj hf z)]
      exact .cons ⟨rfl, r2⟩ (putF_put hf rv t)
theorem ss_fset {eo e : Expr} {nm : Str} {f : Nat} {a m : E} {p' : Pos} (hn : nm = fldN f) (hf : f < 20) (hK : X.K = Γ.K) (hC : ∀ c, Cls Γ.K (Γ.cA c)) (hA : ∀ c, NoAttr Γ.K (Γ.cA c) (fldN f)) (ho : SE Γ X eo (evE C a)) (h : SE Γ X e (evE C m)) (hs : ∀ env, swapsWith e (some (.Attribute eo nm p')) pos.line env = pure false) : SS Γ X (.Assign [.Attribute eo nm p'] e pos) (exS C (.fset a f m)) := by
  subst hn
  intro W tk
  refine PS.imp (ps_fld (ho W tk) (h W tk) (hs _)) ?_
  rintro D σ H ⟨loc, s, R, L, A⟩
  simp only [exS] at A
  have A0 := (A.thenE L).bind
  refine ⟨loc, s, R, L, A0.imp (fun v s1 H1 x1 R1 A1 u r => ?_) (fun _ _ _ _ _ q => q)⟩
  refine ⟨loc, s1, R1, L.ext x1, A1.bind.imp (fun w s2 H2 x2 R2 A2 u2 r2 => ?_) (fun _ _ _ _ _ q => q)⟩
  have Lx := (L.ext x1).ext x2
  unfold setFM at A2
  cases w with
  | t _ => exact A2.elim
  | ref n =>
    obtain ⟨q, eq, rfl⟩ := r2
    dsimp only at A2
    cases ec : s2.hp[n]? with
    | none => rw [ec] at A2; exact A2.elim
    | some ob =>
      rw [ec] at A2
      obtain ⟨b, eb, cc⟩ := R2.cell n _ ec
      rw [eq] at eb; cases eb
      cases ob with
      | ins c fs =>
        obtain ⟨c1, c2, dx, ns, c3, c4⟩ := cc
        dsimp only at A2
        split at A2
        · rename_i hz
          obtain ⟨R4, x4⟩ := wr_cell (ob := .ins c (MS.putF f v fs)) (o := .ins (Γ.cA c) dx (L2.putF (fldN f) u ns)) R2 eq c1 c2 ⟨c1, c2, dx, _, upd_same, putF_put hf (r.ext x2) c4⟩
          refine ⟨q, Γ.cA c, dx, ns, rfl, c3, by rw [hK]; exact hC c, by rw [hK]; exact hA c, by rw [← Paired.len c4]; omega, ?_⟩
          exact (A2 (s2.wr n (.ins c (MS.putF f v fs))) _ rfl x4 R4).nx R4 (Lx.ext x4)
        · exact A2.elim
      | _ => exact A2.elim
/-! ### loops -/
theorem rw_nrm {b : Bool} {s : AS} {H : Hp} {v : Val} {x : V} (R : Rel Γ s H) (r : RW Γ b s H v x) : RW Γ b s H (nrm v s.hp) x := by
  rcases r with r | ⟨hb, ts, us, a, e, q⟩
  · exact .inl (nrm_ok R r)
  · subst e
    exact .inr ⟨hb, ts, us, a, rfl, q⟩
theorem ss_for {b : Bool} {et ei : Expr} {body : List Stmt} {tg : Tg} {it : It} {mb : List S} (hlv : ∀ e, it ≠ .liv e) (hp : PassesOwn (model X.prog X.w) X.A X.env X.xe) (hc : X.calm = true) (hi : SI Γ X b et ei (evIt C it)) (hg : SG Γ X b et tg) (hb : SSs Γ X body (exSs C mb)) : SS Γ X (.For et ei body [] pos) (exS C (.fr tg it mb)) := by
  intro W tk
  refine PS.imp (ps_for hp hc (hi.1 W tk) hg (hb W tk) hi.2) ?_
  rintro D σ H ⟨loc, s, R, L, A⟩
  have A : AfterS Γ s (MS.thenE (evIt C it loc) loc (fun xs => forM tg (exSs C mb) xs loc) s.hp) W D := by
    simp only [exS] at A
    cases it with
    | liv e => exact absurd rfl (hlv e)
    | _ => exact A
  refine ⟨loc, s, R, L, (A.thenE L).imp (fun xs s1 H1 x1 R1 A1 J hw => ?_) (fun _ _ _ _ _ q => q)⟩
  refine ⟨fun i n σ H => n = xs.length - i ∧ i ≤ xs.length ∧ ∃ t l, Rel Γ t H ∧ Le s1.F t.F ∧ Locs Γ t l σ ∧ AfterS Γ t (forM tg (exSs C mb) (xs.drop i) l t.hp) W D, ⟨xs.length, by simp, Nat.zero_le _, s1, loc, R1, Le.refl _, L.ext x1, by rw [List.drop_zero]; exact A1⟩, ?_⟩
  rintro i n σ H ⟨rfl, hi, t, l, Rt, lF, Lt, At⟩
  have wk := hw t H lF Rt
  by_cases hlt : i < xs.length
  · have hx : xs[i]? = some xs[i] := List.getElem?_eq_getElem hlt
    obtain ⟨go, yl⟩ := wk.1 i _ hx
    refine .inr ⟨go, fun σ' H' => ∃ t l, Rel Γ t H' ∧ Le s1.F t.F ∧ Locs Γ t l σ' ∧ AfterS Γ t (forM tg (exSs C mb) (xs.drop (i + 1)) l t.hp) W D, fun σ' H' q => ⟨xs.length - (i + 1), by omega, rfl, hlt, q⟩, fun x H' hy => ?_⟩
    obtain ⟨t1, e1, x1', R1', rw1⟩ := yl x H' hy
    rw [List.drop_eq_getElem_cons hlt] at At
    unfold forM at At
    rw [← e1] at At
    cases ha : asg tg (nrm xs[i] t1.hp) l with
    | none => rw [ha] at At; exact At.elim
    | some l1 =>
      rw [ha] at At
      refine ⟨_, l, t1, l1, R1', Lt.ext x1', rw_nrm R1' rw1, ha, fun σ' L' _ => ⟨l1, t1, R1', L', ?_⟩⟩
      have At := AfterS.from x1' At
      dsimp only at At
      cases er : exSs C mb l1 t1.hp with
      | bad => rw [er] at At; exact At.elim
      | exc e l2 hp => rw [er] at At; exact At
      | ok f hp =>
        rw [er] at At
        have lF1 := lF.trans x1'.F
        cases f with
        | nx l2 =>
          intro s2 H2 e2 x2 R2 σ2 L2
          refine ⟨s2, l2, R2, lF1.trans x2.F, L2, ?_⟩
          rw [e2]
          exact AfterS.from x2 At
        | ct l2 =>
          intro s2 H2 e2 x2 R2 σ2 L2
          refine ⟨s2, l2, R2, lF1.trans x2.F, L2, ?_⟩
          rw [e2]
          exact AfterS.from x2 At
        | bk l2 => exact fun s2 H2 e2 x2 R2 σ2 L2 => At s2 H2 e2 x2 R2 σ2 L2
        | ret v => exact At
  · have ei : i = xs.length := by omega
    subst ei
    rw [List.drop_length] at At
    exact .inl ⟨wk.2, AfterS.nx Rt Lt At⟩
theorem ss_whl {c : Expr} {body : List Stmt} {mc : E} {mb : List S} (hp : PassesOwn (model X.prog X.w) X.A X.env X.xe) (hc : ST Γ X c (evT C mc)) (hb : SSs Γ X body (exSs C mb)) : SS Γ X (.While c body [] pos) (exS C (.whl mc mb)) := by
  intro W tk
  refine PS.imp (ps_while hp (hc W tk) (hb W tk)) ?_
  rintro D σ H ⟨loc, s, R, L, A⟩
  simp only [exS] at A
  refine ⟨fun n σ H => ∃ t l, Rel Γ t H ∧ Locs Γ t l σ ∧ AfterS Γ t (whileM (evT C mc) (exSs C mb) n l t.hp) W D, ⟨C.wf, s, loc, R, L, A⟩, ?_⟩
  rintro n σ H ⟨t, l, Rt, Lt, At⟩
  cases n with
  | zero => exact At.elim
  | succ n =>
    unfold whileM at At
    have A0 : After Γ t (evT C mc l t.hp) (fun b s' H' => AfterS Γ s' (if b = true then (match exSs C mb l s'.hp with
      | .ok (.nx l') h'' => whileM (evT C mc) (exSs C mb) n l' h''
      | .ok (.ct l') h'' => whileM (evT C mc) (exSs C mb) n l' h''
      | .ok (.bk l') h'' => .ok (.nx l') h''
      | r => r) else .ok (.nx l) s'.hp) W D) (XW Γ W σ) := by
      cases e : evT C mc l t.hp with
      | bad => rw [e] at At; exact At
      | exc x hp =>
        rw [e] at At
        exact fun s' H' e1 e2 R' => At s' H' e1 e2 R' σ (Lt.ext e2)
      | ok b hp =>
        rw [e] at At
        intro s' H' e1 e2 R'
        rw [e1]
        cases b with
        | true => exact AfterS.from e2 At
        | false => exact AfterS.from e2 At
    refine ⟨l, t, Rt, Lt, A0.imp (fun b s1 H1 x1 R1 A1 => ?_) (fun _ _ _ _ _ q => q)⟩
    cases b with
    | false =>
      dsimp only
      rw [if_neg (by simp)] at A1 ⊢
      exact A1.nx R1 (Lt.ext x1)
    | true =>
      dsimp only
      rw [if_pos rfl] at A1 ⊢
      refine ⟨fun σ' H' => ∃ t l, Rel Γ t H' ∧ Locs Γ t l σ' ∧ AfterS Γ t (whileM (evT C mc) (exSs C mb) n l t.hp) W D, fun σ' H' q => ⟨n, Nat.lt_succ_self n, q⟩, l, s1, R1, Lt.ext x1, ?_⟩
      cases er : exSs C mb l s1.hp with
      | bad => rw [er] at A1; exact A1.elim
      | exc e l2 hp => rw [er] at A1; exact A1
      | ok f hp =>
        rw [er] at A1
        cases f with
        | nx l2 =>
          intro s2 H2 e2 x2 R2 σ2 L2
          refine ⟨s2, l2, R2, L2, ?_⟩
          rw [e2]
          exact AfterS.from x2 A1
        | ct l2 =>
          intro s2 H2 e2 x2 R2 σ2 L2
          refine ⟨s2, l2, R2, L2, ?_⟩
          rw [e2]
          exact AfterS.from x2 A1
        | bk l2 => exact fun s2 H2 e2 x2 R2 σ2 L2 => A1 s2 H2 e2 x2 R2 σ2 L2
        | ret v => exact A1
end
end MS

set_option Elab.async false
set_option linter.all false
set_option maxRecDepth 100000
/-! MSV: name = [..] on one line. -/
namespace MS
open PySem PySem.Spec PyProof.Rows L2
section
variable {Γ : Run} {X : Cx} {C : Cl} {I : Info} {k : Nat} {pos p apos cpos : Pos}
theorem te_set {i : Nat} {m : E} {W : WX} {D : Ends} {σ : L2.St} {H : Hp} (h : tS Γ (exS C (.set i m)) W D σ H) : tE Γ (evE C m) W σ H (fun x H1 => gName i x σ H1 D.nx) := by
  obtain ⟨loc, s, R, L, A⟩ := h
  simp only [exS] at A
  exact ⟨loc, s, R, L, (A.thenE L).imp (fun v s1 H1 x1 R1 A1 u r => A1.nx R1 ((L.ext x1).set i r)) (fun _ _ _ _ _ q => q)⟩
/-- what a comprehension of one source must have -/
structure LcOk (Γ : Run) (X : Cx) (C : Cl) (b : Bool) (scope : Scope) (own : List (Str × Nat)) (tg : Tg) (it : It) (ifs : List E) (e : E) (et ei ee : Expr) (efs : List Expr) : Prop where
  hi : SI Γ X b et ei (evIt C it)
  ok : BlkOk X.N X.env.scope scope own
  hg : InB X scope fun Y => SG Γ Y b et tg
  ht : InB X scope fun Y => SPT Γ Y efs (evTs C ifs)
  he : InB X scope fun Y => SE Γ Y ee (evE C e)
  hown : ∀ i ∈ tg.ix, i ∈ own.map (·.2)
structure Lc2Ok (Γ : Run) (X : Cx) (C : Cl) (b b1 : Bool) (scope : Scope) (own : List (Str × Nat)) (tg : Tg) (it : It) (ifs : List E) (tg1 : Tg) (it1 : It) (ifs1 : List E) (e : E) (et ei et1 ei1 ee : Expr) (efs efs1 : List Expr) : Prop where
  hi : SI Γ X b et ei (evIt C it)
  ok : BlkOk X.N X.env.scope scope own
  hv : ∀ i ∈ tg1.ix, i ∈ own.map (·.2)
  hg : InB X scope fun Y => SG Γ Y b et tg
  ht : InB X scope fun Y => SPT Γ Y efs (evTs C ifs)
  hi1 : InB X scope fun Y => SI Γ Y b1 et1 ei1 (evIt C it1)
  hg1 : InB X scope fun Y => SG Γ Y b1 et1 tg1
  ht1 : InB X scope fun Y => SPT Γ Y efs1 (evTs C ifs1)
  he : InB X scope fun Y => SE Γ Y ee (evE C e)
  hown : ∀ i ∈ tg.ix, i ∈ own.map (·.2)
  hff : ffB ei1 = false
theorem LcOk.se {b m : Bool} {scope : Scope} {own : List (Str × Nat)} {tg : Tg} {it : It} {ifs : List E} {e : E} {et ei ee : Expr} {efs : List Expr} (h : LcOk Γ X C b scope own tg it ifs e et ei ee efs) (hc : X.calm = true) (hN : X.N.Nodup) :
    SE Γ X (.ListComp ee [⟨et, ei, efs, 0⟩] scope pos) (evE C (.lc m (own.map (·.2)) tg it ifs e)) := se_lc hc hN h.hi h.ok h.hg h.ht h.he h.hown
theorem Lc2Ok.se {b b1 m : Bool} {scope : Scope} {own : List (Str × Nat)} {tg tg1 : Tg} {it it1 : It} {ifs ifs1 : List E} {e : E} {et ei et1 ei1 ee : Expr} {efs efs1 : List Expr} (h : Lc2Ok Γ X C b b1 scope own tg it ifs tg1 it1 ifs1 e et ei et1 ei1 ee efs efs1) (hc : X.calm = true) (hN : X.N.Nodup) :
    SE Γ X (.ListComp ee [⟨et, ei, efs, 0⟩, ⟨et1, ei1, efs1, 0⟩] scope pos) (evE C (.lc2 m (own.map (·.2)) tg it ifs tg1 it1 ifs1 e)) := se_lc2 hc hN h.hi h.ok h.hv h.hg h.ht h.hi1 h.hg1 h.ht1 h.he h.hown h.hff
/-- the swap's condition, as a Bool -/
def swC (sc scope : Scope) (y : Str) (py pos : Pos) : Bool := (py.line == pos.line) && !(scope.names.any fun (n, k) => n == y && (k == .local || k == .cell))
theorem LcOk.ss {b m : Bool} {scope : Scope} {own : List (Str × Nat)} {tg : Tg} {it : It} {ifs : List E} {e : E} {et ei ee : Expr} {efs : List Expr} {i : Nat} {y : Str} {py spos : Pos} (h : LcOk Γ X C b scope own tg it ifs e et ei ee efs) (hc : X.calm = true) (hN : X.N.Nodup) (hk : X.env.scope.kind = .function) (hy : X.N[i]? = some y) (hyl : X.env.scope.names.lookup y = some .local) (hw : swC X.env.scope scope y py pos = true) :
    SS Γ X (.Assign [.Name y py] (.ListComp ee [⟨et, ei, efs, 0⟩] scope pos) spos) (exS C (.set i (.lc m (own.map (·.2)) tg it ifs e))) := by
  intro W tk
  unfold swC at hw
  rw [Bool.and_eq_true, Bool.not_eq_true'] at hw
  exact PS.imp (ps_setLc hc hN hy hyl (sw_true hk hyl hw.1 hw.2) (h.hi.1 W tk) h.ok h.hg h.ht (fun s H D cl fp => h.he s H D cl fp Wno no_takes) h.hi.2) fun D σ H q => te_lc h.hown (te_set q)
theorem Lc2Ok.ss {b b1 m : Bool} {scope : Scope} {own : List (Str × Nat)} {tg tg1 : Tg} {it it1 : It} {ifs ifs1 : List E} {e : E} {et ei et1 ei1 ee : Expr} {efs efs1 : List Expr} {i : Nat} {y : Str} {py spos : Pos} (h : Lc2Ok Γ X C b b1 scope own tg it ifs tg1 it1 ifs1 e et ei et1 ei1 ee efs efs1) (hc : X.calm = true) (hN : X.N.Nodup) (hk : X.env.scope.kind = .function) (hy : X.N[i]? = some y) (hyl : X.env.scope.names.lookup y = some .local) (hw : swC X.env.scope scope y py pos = true) :
    SS Γ X (.Assign [.Name y py] (.ListComp ee [⟨et, ei, efs, 0⟩, ⟨et1, ei1, efs1, 0⟩] scope pos) spos) (exS C (.set i (.lc2 m (own.map (·.2)) tg it ifs tg1 it1 ifs1 e))) := by
  intro W tk
  unfold swC at hw
  rw [Bool.and_eq_true, Bool.not_eq_true'] at hw
  exact PS.imp (ps_setLc2 hc hN hy hyl (sw_true hk hyl hw.1 hw.2) (h.hi.1 W tk) h.ok h.hv h.hg h.ht (fun s H D cl fp => (h.hi1 s H D cl fp).1 Wno no_takes) h.hg1 h.ht1 (fun s H D cl fp => h.he s H D cl fp Wno no_takes) h.hi.2 (fun env => ff_no h.hff)) fun D σ H q => te_lc2 h.hown (te_set q)
end
end MS

set_option Elab.async false
set_option linter.all false
set_option maxRecDepth 100000
/-! MSW: instances made. -/
namespace MS
open PySem PySem.Spec PyProof.Rows L2
section
variable {Γ : Run} {X : Cx} {C : Cl} {I : Info} {k : Nat} {pos p apos cpos : Pos}
def mkM (g : List Val → MH Val) (c : Nat) (vs : List Val) : MH Val := fun h => match g (.ref h.length :: vs) (h ++ [.ins c []]) with
      | .ok (.t .non) h' => MH.bind (pur (.ref h.length)) (fun x => pure (.t x)) h'
      | .ok _ _ => .bad
      | .exc e h' => .exc e h'
      | .bad => .bad
theorem newM_eq {c f : Nat} {vs : List Val} (h : C.ini c = some f) : newM C false c vs = if vs.all Val.isT = true then apart (mkM (C.nw f) c vs) else bad := by
  unfold newM
  rw [h]
  rfl
/-- what __init__ is handed, what comes of it -/
theorem make_sp {g : List Val → MH Val} {n c : Nat} {s : AS} {H : Hp} {vs : List Val} {us : List V} {Q : VK} {E : XK} {x dx : Addr} (hx : H x = none) (hdx : H dx = none) (hne : dx ≠ x) (hl : us.length + 1 = n) (R : Rel Γ s H) (r : RVs Γ s.F s.ρ vs us)
    (A : After Γ s ((if vs.all Val.isT = true then apart (mkM g c vs) else bad) s.hp) (fun v s' H' => ∀ u, RV Γ s'.F s'.ρ v u → Q u H') (fun e _ H' => ∀ cls d, ExR Γ.cA e cls d H' → E cls d H')) :
    spM Γ n g (.ref x :: us) (upd (upd H dx (.own x)) x (.ins (Γ.cA c) dx [])) (fun v H2 => v = .non ∧ Q (.ref x) H2) E := by
  split at A
  · rename_i ht
    have R0 := away_rel R
    have R1 := R0.junk (o := .own x) hdx
    have hx1 : upd H dx (.own x) x = none := by rw [upd_ne (fun z => hne z.symm)]; exact hx
    obtain ⟨f1, f2⟩ := R1.free hx1
    obtain ⟨R2, x2⟩ := new_cell (ob := .ins c []) (o := .ins (Γ.cA c) dx []) R1 hx1 ⟨f1, f2, dx, [], upd_same, .nil⟩
    have rx : RV Γ ((s.away H).push x (.ins c [])).F ((s.away H).push x (.ins c [])).ρ (.ref 0) (.ref x) := ⟨x, rfl, rfl⟩
    refine ⟨by rw [List.length_cons]; exact hl, .ref 0 :: vs, _, R2, .cons rx (RVs.apart ht r), ?_⟩
    show After Γ _ (g (.ref 0 :: vs) [.ins c []]) _ _
    unfold apart mkM at A
    have e0 : ([] : List Ob) ++ [Ob.ins c []] = [.ins c []] := rfl
    rw [show ([] : List Ob).length = 0 from rfl, e0] at A
    cases e : g (.ref 0 :: vs) [.ins c []] with
    | bad => rw [e] at A; exact A.elim
    | exc y h2 =>
      rw [e] at A
      intro s' H' _ x' R'
      obtain ⟨R3, x3⟩ := back_rel R (x2.trans x') R'
      exact A (s.back s') H' rfl x3 R3
    | ok v h2 =>
      rw [e] at A
      intro s' H' e2 x' R' u ru
      cases v with
      | ref m => exact A.elim
      | t y =>
        cases y with
        | non =>
          refine ⟨rv_non.mp ru, ?_⟩
          dsimp only at A
          have rx' : RV Γ s'.F s'.ρ (.ref 0) (.ref x) := rx.ext x'
          rcases fzn_ok 8 s' _ _ R' rx' with e3 | ⟨z, s2, e3, x3, R3, rz⟩
          · rw [← e2] at A
            rw [show MH.bind (pur (.ref 0)) (fun x => (pure (.t x) : MH Val)) s'.hp = .bad from bind_no e3] at A
            exact A.elim
          · rw [← e2] at A
            rw [show MH.bind (pur (.ref 0)) (fun x => (pure (.t x) : MH Val)) s'.hp = .ok (.t z) s2.hp from bind_ok e3] at A
            obtain ⟨R4, x4⟩ := back_rel R ((x2.trans x').trans x3) R3
            exact A (s.back s2) H' rfl x4 R4 _ rz
        | _ => exact A.elim
  · exact A.elim
/-- C(..), its arguments there -/
theorem Lev.make {g : Nat → List Val → MH Val} (L : Lev Γ X I k g) (hr : Room (k + 1) X.A) {W : WX} (tk : Takes X W) {f c : Nat} (M : Mk X.K (Γ.cA c) (I.fA f)) {s : AS} {H : Hp} {vs : List Val} {us : List V} {uv up : List Value} {kw : List (Str × Value)} {Q : VK} {σ : L2.St} {pins : List (Addr × Obj)} {S : Shared} (J : Inv X pins σ H S) (rv : Vals us uv) (R : Rel Γ s H) (r : RVs Γ s.F s.ρ vs us)
    (hb : ∀ (S' : Shared) (z : Value), X.K.In S'.heap → (z :: uv).length = (I.ps f).length → BindsTo S' (I.fd f) ⟨z :: up, kw⟩ ((I.ps f).zip (z :: uv)))
    (A : After Γ s ((if vs.all Val.isT = true then apart (mkM (g f) c vs) else bad) s.hp) (fun v s' H' => ∀ u, RV Γ s'.F s'.ρ v u → Q u H') (XW Γ W σ)) : wpAny (model X.prog X.w) X.A (call (.ref (Γ.cA c)) up kw) (EP X pins σ Q) X.xe S := by
  have key : g f (.ref 0 :: vs) [.ins c []] ≠ .bad := by
    intro z
    split at A
    · unfold apart mkM at A
      rw [show ([] : List Ob).length = 0 from rfl, show ([] : List Ob) ++ [Ob.ins c []] = [.ins c []] from rfl] at A
      rw [z] at A
      exact A.elim
    · exact A.elim
  have h1 : I.ok f = true := by
    cases e : I.ok f with
    | true => rfl
    | false => exact absurd (L.no f e _ _) key
  have h2 := L.len f _ _ key
  rw [List.length_cons] at h2
  obtain ⟨F, _⟩ := L.fn f h1
  have hl : us.length + 1 = (I.ps f).length := by rw [← Paired.len r]; exact h2
  have hq := make_sp (E := WE W σ) (x := S.heap.objs.size + 1) (dx := S.heap.objs.size) (J.hok.fresh (Nat.le_succ _)) (J.hok.fresh (Nat.le_refl _)) (Nat.ne_of_lt (Nat.lt_succ_self _)) hl R r A
  have I2 := Inv.made (C := Γ.cA c) J
  have r2 : Vals (V.ref (S.heap.objs.size + 1) :: us) (Value.ref (S.heap.objs.size + 1) :: uv) := .cons rfl rv
  have hl2 : (Value.ref (S.heap.objs.size + 1) :: uv).length = (I.ps f).length := by rw [List.length_cons, ← rv.length]; exact hl
  refine wpAny_call (make_map (f := I.fA f) J.kIn M.makes M.init (beq_iff_eq.mp M.fn) (codeAny_mono (F.run _ X.stack _ _ ⟨Value.ref (S.heap.objs.size + 1) :: up, kw⟩ (Value.ref (S.heap.objs.size + 1) :: uv) _ _ (WE W σ) (hr.make (Γ.cA c) up kw)
    (I2.env0.make (Γ.cA c) up kw) (hb _ _ I2.kIn hl2) r2 hq) fun r s' hq' => ?_))
  cases r with
  | error e => exact passAt tk σ pins _ _ e s' I2 hq'
  | ok fl =>
    cases fl with
    | ret u =>
      obtain ⟨v, H', I3, rv, ev, q3⟩ := I2.after hq'
      subst ev
      exact ⟨rv, ⟨V.ref (S.heap.objs.size + 1), H', I3, rfl, q3⟩⟩
    | next => exact False.elim hq'
    | brk => exact False.elim hq'
    | cont => exact False.elim hq'
theorem after_new {c f : Nat} {vs : List Val} (h : C.ini c = some f) {s : AS} {Q : Val → AS → Hp → Prop} {E : Ex → AS → Hp → Prop} (A : After Γ s (newM C false c vs s.hp) Q E) : After Γ s ((if vs.all Val.isT = true then apart (mkM (C.nw f) c vs) else bad) s.hp) Q E := by
  rw [newM_eq h] at A
  exact A
/-- C(e, ..) -/
theorem se_new {x : Str} {c f : Nat} {e : Expr} {es : List Expr} {ms : List E} (T : Ctx Γ X C I k) (hi : C.ini c = some f) (hp : I.pos f = true) (hg : Gl X x) (hm : X.mg x = some (.ref (Γ.cA c)))
    (ha : SA Γ X (e :: es) (evEs C ms)) (hst : (e :: es).any stB = false) (hdb : (x == ("__debug__" : Str)) = false) : SE Γ X (.Call (.Name x p) (e :: es) [] pos) (evE C (.new c 0 ms)) := by
  rw [List.any_cons, Bool.or_eq_false_iff] at hst
  intro W tk
  refine ⟨fun pins S σ H Q J h => ?_⟩
  obtain ⟨loc, s, R, L, A⟩ := h
  simp only [evE] at A
  have M := T.ini c f hi
  refine wpAny_Call_Name_kw (ld_glob J hg hm ?_ hdb)
  refine PySem.W.callWith_K (h₀ := X.base) J.ok.mod.kin M.kp (thn ((ha W tk).run pos pins S σ H (fun us H1 => ∃ vs s1, Rel Γ s1 H1 ∧ RVs Γ s1.F s1.ρ vs us ∧ After Γ s1 (newM C false c vs s1.hp) (fun v s' H' => ∀ u, RV Γ s'.F s'.ρ v u → Q u H') (XW Γ W σ)) J
    ⟨loc, s, R, L, A.bind.imp (fun vs s1 H1 x1 R1 A1 us rs => ⟨vs, s1, R1, rs, A1⟩) (fun _ _ _ _ _ q => q)⟩) fun us s1 ⟨vs, H1, I1, r, ws, t1, R1, rs, A1⟩ => ⟨I1.kIn, ?_⟩) (star_cons hst.1) (spl_plain hst.2)
  refine T.nw.make T.room tk M I1 r R1 rs (fun S' z hS hl => ?_) (after_new hi A1)
  have ok : I.ok f = true := by
    cases e : I.ok f with
    | true => rfl
    | false =>
      have A2 := after_new hi A1
      split at A2
      · unfold apart mkM at A2
        rw [T.nw.no f e] at A2
        exact A2.elim
      · exact A2.elim
  have b := (T.nw.fn f ok).2 hp S' (z :: us) hS (by rw [List.append_nil]; exact hl)
  rw [List.append_nil] at b
  exact b
theorem se_new0 {x : Str} {c f : Nat} (T : Ctx Γ X C I k) (hi : C.ini c = some f) (hp : I.pos f = true) (hg : Gl X x) (hm : X.mg x = some (.ref (Γ.cA c))) (hdb : (x == ("__debug__" : Str)) = false) : SE Γ X (.Call (.Name x p) [] [] pos) (evE C (.new c 0 [])) := by
  intro W tk
  refine ⟨fun pins S σ H Q J h => ?_⟩
  obtain ⟨loc, s, R, L, A⟩ := h
  simp only [evE, evEs, pure_eq, MH.pure_bind] at A
  have M := T.ini c f hi
  refine wpAny_Call_Name_kw (ld_glob J hg hm ?_ hdb)
  refine PySem.W.callWith_K0 J.kIn M.kp ?_
  refine T.nw.make (us := []) (vs := []) T.room tk M J .nil R .nil (fun S' z hS hl => ?_) (after_new hi A)
  have ok : I.ok f = true := by
    cases e : I.ok f with
    | true => rfl
    | false =>
      have A2 := after_new hi A
      split at A2
      · unfold apart mkM at A2
        rw [T.nw.no f e] at A2
        exact A2.elim
      · exact A2.elim
  have b := (T.nw.fn f ok).2 hp S' [z] hS (by rw [List.append_nil]; exact hl)
  rw [List.append_nil] at b
  exact b
/-- C(e, .., n = v) -/
theorem evEs_snoc {loc : Loc} {m : E} : ∀ ms : List E, evEs C (ms ++ [m]) loc = MH.bind (evEs C ms loc) fun vs => MH.bind (evE C m loc) fun v => MH.pure (vs ++ [v])
  | [] => by simp only [List.nil_append, evEs, pure_eq, MH.pure_bind]
  | x :: ms => by
    simp only [List.cons_append, evEs]
    rw [evEs_snoc ms]
    simp only [MH.bind_assoc, pure_eq, MH.pure_bind]
    rfl
theorem se_newK {x kn : Str} {c f : Nat} {e ek : Expr} {es : List Expr} {ms : List E} {mk : E} {kp : Pos} (T : Ctx Γ X C I k) (hi : C.ini c = some f) (hg : Gl X x) (hm : X.mg x = some (.ref (Γ.cA c)))
    (hb : ∀ (S' : Shared) (z w : Value) (us : List Value), X.K.In S'.heap → (z :: (us ++ [w])).length = (I.ps f).length → BindsTo S' (I.fd f) ⟨z :: us, [(kn, w)]⟩ ((I.ps f).zip (z :: (us ++ [w]))))
    (ha : SA Γ X (e :: es) (evEs C ms)) (hk : SE Γ X ek (evE C mk)) (hst : (e :: es).any stB = false) (hdb : (x == ("__debug__" : Str)) = false) : SE Γ X (.Call (.Name x p) (e :: es) [⟨some kn, ek, kp⟩] pos) (evE C (.new c 1 (ms ++ [mk]))) := by
  rw [List.any_cons, Bool.or_eq_false_iff] at hst
  intro W tk
  refine ⟨fun pins S σ H Q J h => ?_⟩
  obtain ⟨loc, s, R, L, A⟩ := h
  simp only [evE] at A
  rw [evEs_snoc, MH.bind_assoc] at A
  have M := T.ini c f hi
  refine wpAny_Call_Name_kw (ld_glob J hg hm ?_ hdb)
  refine PySem.W.callWith_KW (h₀ := X.base) J.ok.mod.kin M.kp rfl (thn ((ha W tk).run pos pins S σ H (fun us H1 => ∃ vs s1, Rel Γ s1 H1 ∧ Ext s s1 ∧ RVs Γ s1.F s1.ρ vs us ∧ After Γ s1 (MH.bind (MH.bind (evE C mk loc) fun v => MH.pure (vs ++ [v])) (fun vs => newM C false c vs) s1.hp) (fun v s' H' => ∀ u, RV Γ s'.F s'.ρ v u → Q u H') (XW Γ W σ)) J
    ⟨loc, s, R, L, A.bind.imp (fun vs s1 H1 x1 R1 A1 us rs => ⟨vs, s1, R1, x1, rs, A1⟩) (fun _ _ _ _ _ q => q)⟩) fun us s1 ⟨vs, H1, I1, r, ws, t1, R1, x1, rs, A1⟩ => ?_) ?_ (star_cons hst.1)
  · rw [MH.bind_assoc] at A1
    refine thn ((pk_cons (hk W tk) pk_nil).run pos pins s1 σ H1 (fun zs H2 => ∃ (v : Val) (z : V) (t2 : AS), zs = [z] ∧ Rel Γ t2 H2 ∧ RVs Γ t2.F t2.ρ ws vs ∧ RV Γ t2.F t2.ρ v z ∧ After Γ t2 (newM C false c (ws ++ [v]) t2.hp) (fun v s' H' => ∀ u, RV Γ s'.F s'.ρ v u → Q u H') (XW Γ W σ)) I1
      ⟨loc, t1, R1, L.ext x1, A1.bind.imp (fun v t2 H2 x2 R2 A2 z rz => ⟨v, z, t2, rfl, R2, rs.ext x2, rz, A2⟩) (fun _ _ _ _ _ q => q)⟩) fun kv s2 ⟨zs, H2, I2, rk, v, z, t2, ez, R2, rs2, rz, A2⟩ => ⟨I2.kIn, ?_⟩
    subst ez
    cases rk with
    | cons rk1 rk2 =>
      cases rk2
      rename_i w _
      refine T.nw.make (up := us) (uv := us ++ [w]) T.room tk M I2 (r.append (.cons rk1 .nil)) R2 (Paired.app rs2 (.cons rz .nil)) (fun S' z' hS hl => hb S' z' w us hS hl) (after_new hi A2)
  · rw [star_cons hst.1]
    show ((false || (backTo pos (starEach es X.env)).any (·.1)) || false) = false
    rw [spl_plain hst.2]
    rfl
end
end MS

set_option Elab.async false
set_option linter.all false
set_option maxRecDepth 100000
/-! MSX: a def that captured __class__; super().__init__(..). -/
namespace MS
open PySem PySem.Spec PyProof.Rows L2
/-! ### cells and a closure -/
theorem cellsFrom_app : ∀ (names : List (Str × NameKind)) (n : Nat) (acc : List (Str × Addr)), cellsFrom n names acc = cellsFrom n names [] ++ acc
  | [], n, acc => rfl
  | (x, kd) :: r, n, acc => by
    unfold cellsFrom
    split
    · rw [cellsFrom_app r (n + 1) ((x, n) :: acc), cellsFrom_app r (n + 1) [(x, n)], List.append_assoc]
      rfl
    · exact cellsFrom_app r n acc
section
variable {M : Model} {A : Around} {E : Value → Shared → Prop} {s₀ s : Shared} {m cm : Str → Option Value} {env : Env} {cs clo : List (Str × Addr)}
theorem look_app {n : Str} {c : Addr} (h : cs.lookup n = some c) : (cs ++ clo).lookup n = some c := by
  rw [List.lookup_append, h]; rfl
theorem stLD {n : Str} {v : Value} {Q : Unit → Shared → Prop} (x : InCallC s₀ env.locals m cs cm s) (hk : env.scope.kind = .function) (hl : env.kindOf n = some .local)
    (h : ∀ s', InCallC s₀ env.locals (fun y => if y = n then some v else m y) cs cm s' → Q () s') : wpAny M A (storeName env n v) Q E s := by
  refine wpAny_storeName_local hl x.toInCall.ns (fun h' hn' hs' => h _ ⟨⟨?_, hn', fun b o e => ?_, x.toInCall.fresh⟩, fun k c hc => ?_, x.apart, x.above⟩) (by rw [hk]; rfl)
  · obtain ⟨h₁, tk, rfl⟩ := x.toInCall.same
    exact ⟨h', _, rfl⟩
  · exact hs'.extBut b o (Nat.ne_of_lt (Nat.lt_of_lt_of_le (Heap.lt_size e) x.toInCall.fresh)) (x.toInCall.keep b o e)
  · exact (x.cell k c hc).sameBut hs' (Nat.ne_of_gt (x.above k c (PySem.mem_of_lookup hc)))
theorem stCD {n : Str} {c : Addr} {v : Value} {Q : Unit → Shared → Prop} (x : InCallC s₀ env.locals m cs cm s) (hk : env.scope.kind = .function) (hl : env.kindOf n = some .cell)
    (he : env.cells = cs ++ clo) (hc : cs.lookup n = some c)
    (h : ∀ s', InCallC s₀ env.locals m cs (fun y => if y = n then some v else cm y) s' → Q () s') : wpAny M A (storeName env n v) Q E s := by
  have hLc := x.above n c (PySem.mem_of_lookup hc)
  refine wpAny_storeName_cell hk hl (by rw [he]; exact look_app hc) (x.cell n c hc) fun h' hc' hs' => h _ ⟨⟨?_, x.toInCall.ns.sameBut hs' (Nat.ne_of_lt hLc), fun b o e => ?_, x.toInCall.fresh⟩, fun k c' hk' => ?_, x.apart, x.above⟩
  · obtain ⟨h₁, tk, rfl⟩ := x.toInCall.same
    exact ⟨h', _, rfl⟩
  · exact hs'.extBut b o (Nat.ne_of_lt (Nat.lt_trans (Nat.lt_of_lt_of_le (Heap.lt_size e) x.toInCall.fresh) hLc)) (x.toInCall.keep b o e)
  · by_cases hkn : k = n
    · subst hkn
      rw [hc] at hk'; cases hk'
      simpa using hc'
    · rw [if_neg hkn]
      exact (x.cell k c' hk').sameBut hs' fun e => hkn (name_of_addr x.apart (PySem.mem_of_lookup hk') (e ▸ PySem.mem_of_lookup hc))
theorem bindParamsD (f : Str × Value → PUnit → Sem (ForInStep PUnit)) (hf : ∀ n v u, f (n, v) u = (do storeName env n v; pure (.yield ⟨⟩))) (hk : env.scope.kind = .function) (he : env.cells = cs ++ clo) :
    ∀ (binds : List (Str × Value)) (m cm : Str → Option Value) (s : Shared) (Q : PUnit → Shared → Prop), InCallC s₀ env.locals m cs cm s →
      (∀ x ∈ binds, env.kindOf x.1 = some .local ∨ (env.kindOf x.1 = some .cell ∧ (cs.lookup x.1).isSome = true)) →
      (∀ s', InCallC s₀ env.locals (bindL env.kindOf binds m) cs (bindC env.kindOf binds cm) s' → Q ⟨⟩ s') → wpAny M A (forIn binds ⟨⟩ f) Q E s
  | [], m, cm, s, Q, x, _, h => by rw [List.forIn_nil]; exact wpAny_pure (h s x)
  | (n, v) :: r, m, cm, s, Q, x, hkind, h => by
    rw [List.forIn_cons, hf]
    have hr : ∀ y ∈ r, env.kindOf y.1 = some .local ∨ (env.kindOf y.1 = some .cell ∧ (cs.lookup y.1).isSome = true) := fun y hy => hkind y (List.mem_cons_of_mem _ hy)
    rcases hkind (n, v) List.mem_cons_self with hl | ⟨hl, hc⟩
    · refine wpAny_bind (wpAny_bind (stLD x hk hl fun s' x' => wpAny_pure (bindParamsD f hf hk he r _ _ s' Q x' hr fun s'' x'' => h s'' ?_)))
      unfold bindL bindC; rw [if_pos hl, if_pos hl]; exact x''
    · obtain ⟨c, hc⟩ := Option.isSome_iff_exists.mp hc
      have hnl : ¬ env.kindOf n = some .local := by rw [hl]; decide
      refine wpAny_bind (wpAny_bind (stCD x hk hl he hc fun s' x' => wpAny_pure (bindParamsD f hf hk he r _ _ s' Q x' hr fun s'' x'' => h s'' ?_)))
      unfold bindL bindC; rw [if_neg hnl, if_neg hnl]; exact x''
theorem newEnvD {scope : Scope} {globals : Addr} {binds : List (Str × Value)} {qual : Str} {func : Option Addr} {code : Value} {builtins : Addr} {Q : Env → Shared → Prop}
    (hk : scope.kind = .function)
    (hkind : ∀ x ∈ binds, scope.names.lookup x.1 = some .local ∨ (scope.names.lookup x.1 = some .cell ∧ ((cellsFrom (s.heap.objs.size + 1) scope.names []).lookup x.1).isSome = true))
    (hQ : ∀ env, env = newEnv scope s.heap.objs.size globals (cellsFrom (s.heap.objs.size + 1) scope.names [] ++ clo) qual func code none builtins →
      ∀ s', InCallC s env.locals (bindL env.kindOf binds fun _ => none) (cellsFrom (s.heap.objs.size + 1) scope.names []) (bindC env.kindOf binds fun _ => none) s' → Q env s') :
    wpAny M A (newFunctionEnv scope globals clo binds qual func code none builtins) Q E s := by
  simp only [newFunctionEnv, Option.isSome_none, Bool.false_eq_true, if_false]
  refine wpAny_bind (wpAny_alloc ?_)
  refine wpAny_bind (wpAny_layCells _ (fun name kind cells => by cases hkc : kind == NameKind.cell <;> simp [hkc]) _ _ _ _ ?_)
  have ok := cellsFrom_ok scope.names (s.heap.push { cls := .type "frame", data := .dict #[] }) (s.heap.objs.size + 1) [] ⟨fun _ _ hm => (nomatch hm), List.Pairwise.nil⟩ (by rw [Heap.size_push]; exact Nat.le_refl _)
  rw [Heap.size_push] at ok
  rw [show ({ s with heap := s.heap.push { cls := .type "frame", data := .dict #[] } } : Shared).heap.objs.size = s.heap.objs.size + 1 from Heap.size_push ..]
  rw [cellsFrom_app scope.names _ clo]
  refine wpAny_bind (bindParamsD (s₀ := s) (cs := cellsFrom (s.heap.objs.size + 1) scope.names []) (clo := clo) (env := newEnv scope s.heap.objs.size globals (cellsFrom (s.heap.objs.size + 1) scope.names [] ++ clo) qual func code none builtins)
    _ (fun _ _ _ => rfl) hk rfl binds (fun _ => none) (fun _ => none) _ _
    ⟨⟨⟨_, _, rfl⟩, (Heap.Ns.new s.heap (.type "frame")).keeps (pushCells_keeps _ _), fun b o e => pushCells_keeps _ _ b o (Heap.get?_push_of_some _ e), Nat.le_refl _⟩,
      fun n c hc => (ok.empty n c (PySem.mem_of_lookup hc)).1, ok.apart, fun n c hm => (ok.empty n c hm).2⟩
    hkind fun s' x => wpAny_pure (hQ _ rfl s' x))
end
/-! ### the context of such a def -/
def kcl (cc : Addr) : List (Str × Addr) := [("__class__", cc)]
abbrev envK (qual : Str) (scope : Scope) (L f : Addr) (cd : Value) (cc : Addr) : Env := PySem.W.envX qual scope L f cd (cellsFrom (L + 1) scope.names [] ++ kcl cc)
structure KScope (N P : List Str) (sc : Scope) : Prop where
  kind : sc.kind = .function
  co : sc.isCoroutine = false
  gen : sc.isGenerator = false
  nd : N.Nodup
  pre : N.take P.length = P
  par : ∀ x ∈ P, sc.names.lookup x = some .local ∨ sc.names.lookup x = some .cell
  free : ∀ y ∈ sc.names, y.2 = .free → y.1 = "__class__"
  nocl : ∀ y ∈ sc.names, y.1 = "__class__" → y.2 = .free
def cxK (CX : CXT) (P : Program) (w : World) (K : PySem.W.Frag) (mg : Str → Option Value) (base : Heap) (N : List Str) (qual : Str) (scope : Scope) (f : Addr) (cd : Value) (cc : Addr) (A : Around) (outer : List Env) (s : Shared) (H : Hp) (E : XK) : Cx where
  prog := P
  w := w
  K := K
  mg := mg
  base := base
  A := A.deeper (envK qual scope s.heap.objs.size f cd cc)
  N := N
  s_0 := s
  H_0 := H
  env := envK qual scope s.heap.objs.size f cd cc
  outer := outer
  stack := envK qual scope s.heap.objs.size f cd cc :: outer
  ex := []
  calm := true
  fn := fun x => !(x == "__class__")
  pn := []
  xe := fun e s' => wpAny (model P w) (A.deeper (envK qual scope s.heap.objs.size f cd cc)) (leaving (envK qual scope s.heap.objs.size f cd cc) e) (fun _ s'' => CX outer H s E e s'') (fun e' s'' => CX outer H s E e' s'') s'
theorem cellsFrom_names : ∀ (names : List (Str × NameKind)) (n : Nat) (x : Str) (c : Addr), (cellsFrom n names []).lookup x = some c → (x, NameKind.cell) ∈ names
  | [], n, x, c, h => by simp [cellsFrom] at h
  | (y, kd) :: r, n, x, c, h => by
    unfold cellsFrom at h
    split at h
    · rename_i hk
      rw [cellsFrom_app, List.lookup_append] at h
      cases e : (cellsFrom (n + 1) r []).lookup x with
      | some d => exact List.mem_cons_of_mem _ (cellsFrom_names r (n + 1) x d e)
      | none =>
        rw [e] at h
        have hk : kd = .cell := by cases kd <;> first | rfl | cases hk
        have h : List.lookup x [(y, n)] = some c := by simpa using h
        rw [List.lookup_cons] at h
        cases hb : x == y with
        | true => rw [beq_iff_eq.mp hb, hk]; exact List.mem_cons_self
        | false => rw [hb] at h; cases h
    · exact List.mem_cons_of_mem _ (cellsFrom_names r n x c h)
theorem kcl_look {cc : Addr} {x : Str} {c : Addr} (h : (kcl cc).lookup x = some c) : x = "__class__" ∧ c = cc := by
  unfold kcl at h
  rw [List.lookup_cons] at h
  cases hb : x == ("__class__" : Str) with
  | true => rw [hb] at h; cases h; exact ⟨beq_iff_eq.mp hb, rfl⟩
  | false => rw [hb] at h; cases h
theorem inv_startK {CX : CXT} {P : Program} {w : World} {K : PySem.W.Frag} {mg : Str → Option Value} {base : Heap} {N ps : List Str} {qual : Str} {scope : Scope} {f cc : Addr} {cd : Value} {A : Around} {outer : List Env} {s s1 : Shared} {H : Hp} {E : XK} {us : List Value} {vs : List V} {oc : Obj} {cv : Option Value}
    (S : KScope N ps scope) (hd : A.handled = none) (e0 : Env0 P w K mg base A outer s H) (hl : vs.length = ps.length) (r : Vals vs us) (hcc : base.get? cc = some oc) (hcv : oc.data = .cell cv)
    (x : InCallC s s.heap.objs.size (bindL (envK qual scope s.heap.objs.size f cd cc).kindOf (ps.zip us) fun _ => none) (cellsFrom (s.heap.objs.size + 1) scope.names []) (bindC (envK qual scope s.heap.objs.size f cd cc).kindOf (ps.zip us) fun _ => none) s1) :
    Inv (cxK CX P w K mg base N qual scope f cd cc A outer s H E) [] (L2.start N vs) H s1 := by
  have hpl : ps.length ≤ N.length := by have := congrArg List.length S.pre; rw [List.length_take] at this; omega
  obtain ⟨h1, tk, rfl, hk⟩ := x.done
  have noA : ∀ b : Addr, b ∉ (cxK CX P w K mg base N qual scope f cd cc A outer s H E).ex := fun b z => absurd (show b ∈ ([] : List Addr) from z) (by simp)
  have hccs := e0.bs cc oc hcc
  have look : ∀ {y c}, (cellsFrom (s.heap.objs.size + 1) scope.names [] ++ kcl cc).lookup y = some c → (cellsFrom (s.heap.objs.size + 1) scope.names []).lookup y = some c ∨ (y = "__class__" ∧ c = cc) := fun {y c} h => by
    rw [List.lookup_append] at h
    cases e : (cellsFrom (s.heap.objs.size + 1) scope.names []).lookup y with
    | some d => rw [e] at h; cases h; exact .inl rfl
    | none => rw [e] at h; exact .inr (kcl_look h)
  have up : ∀ {y c}, (cellsFrom (s.heap.objs.size + 1) scope.names []).lookup y = some c → s.heap.objs.size ≤ c ∧ c ≠ cc := fun {y c} h => by
    have a := x.above y c (PySem.mem_of_lookup h)
    refine ⟨Nat.le_of_lt a, fun z => ?_⟩
    have := Heap.lt_size hccs.1
    rw [← z] at this
    exact Nat.lt_irrefl _ (Nat.lt_trans a this)
  refine ⟨⟨e0.mod, S.kind, rfl, rfl, Nat.le_refl _, fun y z c h1 h2 => ?_, fun y hy => ?_, fun y c hf h => ?_, fun _ => hd, Around.frames_deeper e0.frames, .inr ⟨rfl, rfl⟩, fun b z => absurd z (noA b), e0.bs, e0.bsz, fun b _ _ => noA b, fun b z => absurd z (noA b), e0.funs, e0.frf⟩,
    rfl, e0.bare, Un.kept hk, ⟨_, x.toInCall.ns, fun i y v h1 h2 h3 => ?_⟩, fun y c h => ?_, e0.hok.fresh (Nat.le_refl _), fun y c h => ?_, fun p hp => absurd (show p ∈ ([] : List (Addr × Obj)) from hp) (by simp), e0.hok.kept hk, ?_⟩
  · rcases look h1 with h1 | ⟨rfl, e1⟩ <;> rcases look h2 with h2 | ⟨rfl, e2⟩
    · exact name_of_addr x.apart (PySem.mem_of_lookup h1) (PySem.mem_of_lookup h2)
    · exact absurd e2 (up h1).2
    · exact absurd e1 (up h2).2
    · rfl
  · have hy : scope.names.lookup y = some .cell ∨ scope.names.lookup y = some .free := hy
    rcases hy with hy | hy
    · obtain ⟨c, e⟩ := cell_has (n := s.heap.objs.size + 1) hy
      exact ⟨c, look_app e⟩
    · have e := S.free _ (PySem.mem_of_lookup hy) rfl
      dsimp only at e
      subst e
      cases e : (cellsFrom (s.heap.objs.size + 1) scope.names []).lookup ("__class__" : Str) with
      | some d => exact ⟨d, look_app e⟩
      | none => exact ⟨cc, by show (_ ++ kcl cc).lookup _ = _; rw [List.lookup_append, e]; rfl⟩
  · rcases look h with h | ⟨rfl, _⟩
    · exact (up h).1
    · cases (show (!(("__class__" : Str) == "__class__")) = true from hf)
  · have hi : i < vs.length := by
      unfold L2.start at h2
      by_cases hi : i < vs.length
      · exact hi
      · rw [List.getElem?_append_right (by simpa using hi)] at h2
        rw [List.getElem?_replicate] at h2
        split at h2 <;> cases h2
    have ha : vs[i]? = some v := by
      unfold L2.start at h2
      rw [List.getElem?_append_left (by simpa using hi), List.getElem?_map] at h2
      cases e : vs[i]? with
      | none => rw [e] at h2; cases h2
      | some a => rw [e] at h2; cases h2; rfl
    obtain ⟨u, hu, rv⟩ := r.get ha
    have hp : ps[i]? = some y := by
      rw [← S.pre, List.getElem?_take_of_lt (by omega)]; exact h1
    have ndP : ps.Nodup := by rw [← S.pre]; exact S.nd.sublist (List.take_sublist _ _)
    refine ⟨u, rv, ?_⟩
    rcases S.par y (List.mem_of_getElem? hp) with k | k
    · exact .inl ⟨k, bindL_get ndP hp hu k⟩
    · obtain ⟨c, e⟩ := cell_has (n := s.heap.objs.size + 1) k
      refine .inr ⟨.inl k, c, look_app e, ?_⟩
      have q := x.cell y c e
      rw [bindC_get ndP hp hu (by show scope.names.lookup y ≠ _; rw [k]; decide)] at q
      exact q
  · rcases look h with h | ⟨_, e⟩
    · exact ⟨_, x.cell y c h⟩
    · rw [e]
      exact ⟨cv, oc, hk _ _ hccs.1, hcv⟩
  · rcases look h with h | ⟨_, e⟩
    · exact e0.hok.fresh (Nat.le_of_lt (x.above y c (PySem.mem_of_lookup h)))
    · rw [e]; exact hccs.2
  · unfold L2.start
    show _ = N.length
    rw [List.length_append, List.length_map, List.length_replicate]
    omega
end MS

set_option Elab.async false
set_option linter.all false
set_option maxRecDepth 100000
/-! MSY: super().__init__(..), and a def that says it. -/
namespace MS
open PySem PySem.Spec PyProof.Rows L2 ClX
/-- statements of a def's own body, at its code -/
def PAts (X : Cx) (b0 : List Stmt) (st : List Stmt) (t : TS) : Prop := ∀ (pins : List (Addr × Obj)) (s : Shared) (σ : L2.St) (H : Hp) (D : Ends), Inv X pins σ H s → t D σ H → _root_.PySem.wpAt (model X.prog X.w) X.A (.func b0 X.env) (execs st X.env) (SP X pins D) X.xe s
def PAt (X : Cx) (b0 : List Stmt) (st : Stmt) (t : TS) : Prop := ∀ (pins : List (Addr × Obj)) (s : Shared) (σ : L2.St) (H : Hp) (D : Ends), Inv X pins σ H s → t D σ H → _root_.PySem.wpAt (model X.prog X.w) X.A (.func b0 X.env) (exec st X.env) (SP X pins D) X.xe s
theorem pat_of {X : Cx} {b0 : List Stmt} {st : Stmt} {t : TS} (h : PS X st t) : PAt X b0 st t := fun pins s σ H D I q => _root_.PySem.wpAt_of_wpAny (h.run pins s σ H D I q)
theorem pats_nil {X : Cx} {b0 : List Stmt} : PAts X b0 [] tNext := fun pins s σ H D I q => _root_.PySem.wpAt_of_wpAny (pss_nil.run pins s σ H D I q)
theorem pats_cons {X : Cx} {b0 : List Stmt} {st : Stmt} {rest : List Stmt} {t u : TS} (h : PAt X b0 st t) (hr : PAts X b0 rest u) : PAts X b0 (st :: rest) (tSeq t u) := by
  intro pins s σ H D I q
  refine PySem.ks_wpAt_execs_cons (PySem.ks_wpAt_mono (h pins s σ H { D with nx := u D } I q) (fun f s1 q => ?_) fun _ _ z => z)
  cases f with
  | next =>
    obtain ⟨σ1, H1, I1, q1⟩ := q
    exact hr pins s1 σ1 H1 D I1 q1
  | brk => exact q
  | cont => exact q
  | ret u => exact q
section
variable {Γ : Run} {X : Cx} {C : Cl} {I : Info} {k : Nat} {pos p apos cpos : Pos}
/-- what of the text super() asks -/
structure SupK (X : Cx) (D : Addr) (n0 : Str) : Prop where
  ex : ∃ (f cda cc : Addr) (fd : FuncData) (ar : Arg) (vs : Array Value) (file : Str) (tf : Tok) (oc ccl cl : Value) (od cdd cld : Option Addr) (osl ccs csl : Array (Option Value)) (cdD : ClassData),
    X.env.func = some f ∧ X.K.lookup f = some ⟨oc, od, .func fd, osl⟩ ∧ (fd.params.posonlyargs ++ fd.params.args).head? = some ar ∧ ar.arg = n0 ∧ X.env.code = .ref cda ∧ X.K.lookup cda = some ⟨ccl, cdd, .fields vs, ccs⟩ ∧ vs[2]? = some (.str file tf) ∧ ((X.prog.main.file : Str) == file) = true ∧
    X.env.cells.lookup ("__class__" : Str) = some cc ∧ X.K.lookup cc = some ⟨cl, cld, .cell (some (.ref D)), csl⟩ ∧ PySem.W.clsIn X.K D = some cdD
  hks : X.env.kindOf "super" = some .globalImplicit
  hkc : X.env.kindOf "__class__" = some .free
  top : (X.prog.main.scope.names.lookup ("super" : Str)).isSome = false
  mg : X.mg "super" = none
  op : PySem.W.nsIn X.K PySem.cStatics "thirdparty.any" = some none
  nm0 : X.N[0]? = some n0
  vis : Vis X.env.scope n0
/-- what the class of self must have -/
structure SupC (K : PySem.W.Frag) (A D f2 : Addr) : Prop where
  sub : PySem.W.mroIn K A (.ref D) = some true
  at_ : PySem.W.ks_superIn K A D "__init__" = some (some (.ref f2))
  ty : PySem.W.typeIn K (.ref f2) = some (.type "function")
  fn : PySem.W.fnIn K f2 = true
/-- super().__init__(e, ..), the bound method made; then the arguments -/
theorem wp_super {b0 : List Stmt} {D : Addr} {n0 : Str} {a Ca dx f2 : Addr} {ns : List (Str × V)} {e : Expr} {es : List Expr} {p0 p1 : Pos} {pins : List (Addr × Obj)} {σ : L2.St} {H : Hp} {s : Shared} {Q : Value → Shared → Prop}
    (K : SupK X D n0) (J : Inv X pins σ H s) (h0 : σ[0]? = some (some (.ref a))) (hH : H a = some (.ins Ca dx ns)) (c : SupC X.K Ca D f2) (hst : (e :: es).any stB = false) (hlen : (e :: es).length < 20) (hline : (apos.endLine == cpos.line) = true) (hcd : (n0 == ("__classdict__" : Str)) = false)
    (h : ∀ q s', Inv X ((q, PySem.W.methodObj (.ref f2) (.ref a)) :: pins) σ H s' → X.base.get? q = none → wpAny (model X.prog X.w) X.A (spliced (backTo cpos (starEach (e :: es) X.env))) (fun vs s1 => PySem.W.MethP X.K q f2 (.ref a) s1.heap ∧ wpAny (model X.prog X.w) X.A (call (.ref q) vs) Q X.xe s1) X.xe s') :
    _root_.PySem.wpAt (model X.prog X.w) X.A (.func b0 X.env) (eval (.Call (.Attribute (.Call (.Name "super" p0) [] [] p1) "__init__" apos) (e :: es) [] cpos) X.env) Q X.xe s := by
  obtain ⟨f, cda, cc, fd, ar, vs, file, tf, oc, ccl, cl, od, cdd, cld, osl, ccs, csl, cdD, e1, e2, e3, e4, e5, e6, e7, e8, e9, e10, e11⟩ := K.ex
  subst e4
  have KX := J.kIn
  have hst' := hst
  rw [List.any_cons, Bool.or_eq_false_iff] at hst'
  obtain ⟨oD, hD1, hD2⟩ : ∃ oD, s.heap.get? D = some oD ∧ oD.data = .cls cdD := by
    unfold PySem.W.clsIn at e11
    split at e11
    · rename_i c d cd' sl ho
      cases e11
      exact ⟨_, KX _ _ ho, rfl⟩
    · cases e11
  obtain ⟨mA, O, _⟩ := ins_get J.hok hH
  obtain ⟨od', JI, _⟩ := O.look
  rw [arm_eval_Call]
  refine _root_.PySem.wpAt_bind (PySem.ks_wpAt_mono (PySem.ks_wpAt_super_base (env := X.env) (Q := fun v s' => ∃ so, v = .ref so ∧ s'.heap.get? so = some { cls := .type "super", dict := none, data := .fields #[.ref D, .ref a, .ref Ca], slots := #[] } ∧ Inv X pins σ H s') K.hks K.hkc rfl e1 (KX _ _ e2) rfl e3 e5 (KX _ _ e6) rfl e7 e8 K.top ?_) (fun v s1 hv => ?_) fun _ _ z => z)
  · obtain ⟨mb, h1, h2⟩ := J.mod.blt
    refine PySem.W.ks_loadName_global J.ok.kind K.hks (Calls.loadGlobal_builtin (by rw [J.ok.glob]; exact J.mod.glob.keeps J.bk) K.mg (by rw [J.ok.blt]; exact h1.keeps J.bk) ((h2 "super" (by decide)).trans (show bootBuiltins "super" = some (.type "super") by with_unfolding_all rfl)) ⟨rfl, ?_⟩)
    refine wpAny_loadName_free J.ok.kind K.hkc e9 ⟨_, KX _ _ e10, rfl⟩ ?_
    obtain ⟨m, hn, hl⟩ := J.loc
    obtain ⟨u, r, l⟩ := hl 0 _ (.ref a) K.nm0 h0 K.vis
    cases (show u = Value.ref a from r)
    have fin : wpAny (model X.prog X.w) X.A (isType (.ref D)) (fun b s₄ => b = true ∧ wpAny (model X.prog X.w) X.A (call (.type "super") [.ref D, .ref a]) (fun v s' => ∃ so, v = .ref so ∧ s'.heap.get? so = some { cls := .type "super", dict := none, data := .fields #[.ref D, .ref a, .ref Ca], slots := #[] } ∧ Inv X pins σ H s') X.xe s₄) X.xe s := by
      refine PySem.ks_wpAny_isType_cls hD1 hD2 ⟨rfl, ?_⟩
      refine PySem.ks_wpAny_call_super hD1 hD2 JI.at_ JI.cls (fun c e => ?_) (PySem.W.looks_mroIn KX c.sub) (fun h' e k => ⟨_, rfl, e, J.kept (t' := s.toks) k⟩)
      have := JI.no
      unfold PySem.W.notCls at this
      rw [e] at this
      exact Bool.noConfusion this
    rcases l with ⟨hk, hm⟩ | ⟨hk, c, hc, hcell⟩
    · exact wpAny_loadName_local J.ok.kind hk hn hm fin
    · rcases hk with hk | hk
      · exact wpAny_loadName_cell J.ok.kind hk hc hcell fin
      · exact wpAny_loadName_free J.ok.kind hk hc hcell fin hcd
  · obtain ⟨so, rfl, hso, J1⟩ := hv
    refine _root_.PySem.wpAt_of_wpAny (wpAny_bind (wpAny_standAt ?_))
    have hform : methodCallForm ((e :: es).length + ([] : List Keyword).length) (backTo cpos (starEach (e :: es) X.env)) (backToKw cpos (keywordEach [] X.env)) = true := few_plain hst hlen
    have hpos : methodCallPos true (.Call (.Name "super" p0) [] [] p1) X.env apos cpos = pure cpos := by unfold methodCallPos; simp [hline]
    unfold methodCall
    rw [hform]
    have KX1 := J1.kIn
    obtain ⟨mA, O, _⟩ := ins_get J1.hok hH
    obtain ⟨od', JI1, _⟩ := O.look
    have hc := c.at_
    unfold PySem.W.ks_superIn at hc
    cases hcl : PySem.W.clsIn X.K Ca with
    | none => rw [hcl] at hc; cases hc
    | some cd =>
      rw [hcl] at hc
      obtain ⟨of, hof, hofc⟩ : ∃ of, s1.heap.get? f2 = some of ∧ of.cls = .type "function" := by
        have ht' : (X.K.lookup f2).map (·.cls) = some (.type "function") := c.ty
        cases z : X.K.lookup f2 with
        | none => rw [z] at ht'; cases ht'
        | some of => rw [z] at ht'; exact ⟨of, KX1 _ _ z, Option.some.inj ht'⟩
      refine wpAny_bind (wpAny_holding ?_)
      refine PySem.ks_wpAny_getMethod_super hso (PySem.W.looks_opaque KX1 K.op) (l₀ := cd.mro) (fun A Q E s k q => wpAny_bind ((PySem.W.looks_clsIn KX1 hcl) A _ E s k (wpAny_pure q))) rfl KX1 hc hof hofc (PySem.W.ks_ne KX1 JI1 hcl) rfl ?_
      refine wpAny_bind (wpAny_of_eq hpos ?_)
      have J2 := met_new (g := f2) (C := a) J1
      have hb : X.base.get? s1.heap.objs.size = none := base_none J1 (Nat.le_refl _)
      have hL : s1.heap.objs.size ≠ X.env.locals := (J2.pin (s1.heap.objs.size, PySem.W.methodObj (.ref f2) (.ref a)) (List.mem_append_right _ List.mem_cons_self)).2.2.1
      exact PySem.W.callWith_M (K := X.K) (h₀ := X.base) (first := []) J2.ok.mod.kin (news_at hL hb (pin_at J2)) List.mem_cons_self c.fn (h _ _ J2 hb) (star_cons hst'.1) (spl_plain hst'.2)
/-- the call of a bound method of a def -/
theorem Lev.runM {g : Nat → List Val → MH Val} (L : Lev Γ X I k g) (hr : Room k X.A) {W : WX} (tk : Takes X W) {f : Nat} (hp : I.pos f = true) {q a : Addr} {s : AS} {H : Hp} {vs : List Val} {us : List V} {uv : List Value} {Q : VK} {σ : L2.St} {pins : List (Addr × Obj)} {S : Shared} (J : Inv X ((q, PySem.W.methodObj (.ref (I.fA f)) (.ref a)) :: pins) σ H S) (rv : Vals (.ref a :: us) (.ref a :: uv)) (R : Rel Γ s H) (r : RVs Γ s.F s.ρ vs (.ref a :: us))
    (A : After Γ s (g f vs s.hp) (fun v s' H' => ∀ u, RV Γ s'.F s'.ρ v u → Q u H') (XW Γ W σ)) : wpAny (model X.prog X.w) X.A (call (.ref q) uv) (EP X pins σ Q) X.xe S := by
  have A' : After Γ s ((if (true = true) then g f vs else if vs.all Val.isT = true then apart (g f vs) else bad) s.hp) (fun v s' H' => ∀ u, RV Γ s'.F s'.ρ v u → Q u H') (XW Γ W σ) := A
  obtain ⟨h1, h2⟩ := L.not_bad (raw := true) A'
  obtain ⟨F, B⟩ := L.fn f h1
  have B := B hp
  have hl : (V.ref a :: us).length = (I.ps f).length := by rw [← Paired.len r]; exact h2
  have hsp := sp_of (raw := true) (E := WE W σ) hl R r A'
  have b := B S (.ref a :: uv) J.kIn (by rw [List.append_nil, ← rv.length]; exact hl)
  rw [List.append_nil] at b
  have z : wpAny (model X.prog X.w) X.A (call (.ref q) uv) (EP X ((q, PySem.W.methodObj (.ref (I.fA f)) (.ref a)) :: pins) σ Q) X.xe S := by
    refine wpAny_call (PySem.W.method_call (pin_at J) (codeAny_mono (F.run X.A X.stack S H ⟨.ref a :: uv, []⟩ (.ref a :: uv) (.ref a :: us) Q (WE W σ) hr J.env0 b rv hsp) fun r s' hq => ?_))
    cases r with
    | error e => exact passAt tk σ _ H S e s' J hq
    | ok fl =>
      cases fl with
      | ret u => exact J.after hq
      | next => exact False.elim hq
      | brk => exact False.elim hq
      | cont => exact False.elim hq
  exact thn z fun _ _ y => unpinE y
theorem Locs.at0 {s : AS} {loc : Loc} {σ : L2.St} (L : Locs Γ s loc σ) {v : Val} (h : loc[0]? = some (some v)) : ∃ u, σ[0]? = some (some u) ∧ RV Γ s.F s.ρ v u := L.at_ 0 v h
/-- super().__init__(e, ..) as a statement -/
theorem pat_sup {b0 : List Stmt} {d f : Nat} {n0 : Str} {e : Expr} {es : List Expr} {ms : List E} {p0 p1 : Pos} (T : Ctx Γ X C I k) (hp : I.pos f = true) (K : SupK X (Γ.cA d) n0) (hc : ∀ c, C.isa c d = true → SupC X.K (Γ.cA c) (Γ.cA d) (I.fA f)) (ha : SA Γ X (e :: es) (evEs C ms))
    (hst : (e :: es).any stB = false) (hlen : (e :: es).length < 20) (hline : (apos.endLine == cpos.line) = true) (hcd : (n0 == ("__classdict__" : Str)) = false) {W : WX} (tk : Takes X W) :
    PAt X b0 (.Expr (.Call (.Attribute (.Call (.Name "super" p0) [] [] p1) "__init__" apos) (e :: es) [] cpos) pos) (tS Γ (exS C (.ex (.sup d f ms))) W) := by
  intro pins S σ H D J h
  obtain ⟨loc, s, R, L, A⟩ := h
  simp only [exS] at A
  have A := A.thenE L
  simp only [evE] at A
  refine PySem.ks_wpAt_Expr_any ?_ J.quiet (swap_no rfl)
  cases h0 : loc[0]? with
  | none => rw [h0] at A; exact A.elim
  | some o =>
    cases o with
    | none => rw [h0] at A; exact A.elim
    | some v =>
      rw [h0] at A
      obtain ⟨u, hu, rv⟩ := L.at0 h0
      obtain ⟨a, c, dx, ns, fs, eu, hH, hf, A⟩ := After.clsV R rv A
      subst eu
      split at A
      · rename_i hisa
        refine wp_super K J hu hH (hc c hisa) hst hlen hline hcd fun q S' J' hb => ?_
        refine thn ((ha W tk).run cpos _ S' σ H (fun us H1 => ∃ vs s1, Rel Γ s1 H1 ∧ Ext s s1 ∧ RVs Γ s1.F s1.ρ vs us ∧ After Γ s1 (C.fn f (v :: vs) s1.hp) (fun a s' H' => AfterS Γ s' (.ok (.nx loc) s'.hp) W D) (XW Γ W σ)) J'
          ⟨loc, s, R, L, A.bind.imp (fun vs s1 H1 x1 R1 A1 us rs => ⟨vs, s1, R1, x1, rs, A1⟩) (fun _ _ _ _ _ q => q)⟩) fun us' S1 ⟨us, H1, I1, r, vs, s1, R1, x1, rs, A1⟩ => ⟨⟨pin_at I1, I1.kIn⟩, ?_⟩
        refine thn (T.fn.runM (Q := fun _ H' => D.nx σ H') T.room tk hp I1 (.cons rfl r) R1 (.cons (rv.ext x1) rs) (A1.imp (fun z s2 H2 x2 R2 q u _ => q.nx R2 ((L.ext x1).ext x2)) (fun _ _ _ _ _ q => q))) fun w S2 hw => ?_
        obtain ⟨z, H2, I2, rz, q⟩ := hw
        exact ⟨σ, H2, I2, q⟩
      · exact A.elim
/-- a def's own statements -/
inductive SAts (Γ : Run) (X : Cx) (C : Cl) (b0 : List Stmt) : List Stmt → List S → Prop where
  | nil : SAts Γ X C b0 [] []
  | cons {st : Stmt} {m : S} {rest : List Stmt} {ms : List S} (h : ∀ W, Takes X W → PAt X b0 st (tS Γ (exS C m) W)) (t : SAts Γ X C b0 rest ms) : SAts Γ X C b0 (st :: rest) (m :: ms)
theorem PAts.imp {X : Cx} {b0 st : List Stmt} {t t' : TS} (h : PAts X b0 st t) (i : ∀ D σ H, t' D σ H → t D σ H) : PAts X b0 st t' := fun pins s σ H D I q => h pins s σ H D I (i D σ H q)
theorem seq_imp {m : S} {ms : List S} {W : WX} : ∀ D σ H, tS Γ (exSs C (m :: ms)) W D σ H → tSeq (tS Γ (exS C m) W) (tS Γ (exSs C ms) W) D σ H := by
  rintro D σ H ⟨loc, s, R, L, A⟩
  simp only [exSs] at A
  refine ⟨loc, s, R, L, ?_⟩
  unfold thenS at A
  cases e : exS C m loc s.hp with
  | bad => rw [e] at A; exact A
  | exc x l hp => rw [e] at A; exact A
  | ok f hp =>
    rw [e] at A
    cases f with
    | nx l =>
      intro s' H' e1 e2 R' σ' L'
      refine ⟨l, s', R', L', ?_⟩
      rw [e1]
      exact AfterS.from e2 A
    | ret v => exact A
    | bk l => exact A
    | ct l => exact A
theorem SAts.pats {b0 st : List Stmt} {ms : List S} (h : SAts Γ X C b0 st ms) {W : WX} (tk : Takes X W) : PAts X b0 st (tS Γ (exSs C ms) W) := by
  induction h with
  | nil =>
    refine PAts.imp pats_nil ?_
    rintro D σ H ⟨loc, s, R, L, A⟩
    simp only [exSs] at A
    exact A.nx R L
  | cons h t ih => exact PAts.imp (pats_cons (h W tk) ih) seq_imp
end
end MS

set_option Elab.async false
set_option linter.all false
set_option maxRecDepth 100000
/-! MSZ: defs by level. -/
namespace MS
open PySem PySem.Spec PyProof.Rows L2
section
variable {Γ : Run} {C : Cl} {I : Info} {k : Nat}
/-! ### the heap's end cut off -/
def AS.tr (s : AS) (n : Nat) : AS := ⟨s.hp.take n, s.F, s.Fr, s.ρ.take n⟩
theorem rv_below {F : Hp} {ρ : List Addr} {n : Nat} {v : Val} {u : V} (h : v.below n = true) (r : RV Γ F ρ v u) : RV Γ F (ρ.take n) v u := by
  cases v with
  | t x => exact r
  | ref m =>
    obtain ⟨a, e, q⟩ := r
    have hm : m < n := of_decide_eq_true h
    exact ⟨a, by rw [List.getElem?_take_of_lt hm]; exact e, q⟩
theorem rvs_below {F : Hp} {ρ : List Addr} {n : Nat} : ∀ {vs : List Val} {us : List V}, vs.all (Val.below n) = true → RVs Γ F ρ vs us → RVs Γ F (ρ.take n) vs us
  | _, _, _, .nil => .nil
  | _, _, h, .cons r t => by
    rw [List.all_cons, Bool.and_eq_true] at h
    exact .cons (rv_below h.1 r) (rvs_below h.2 t)
theorem rvd_below {F : Hp} {ρ : List Addr} {n : Nat} : ∀ {vs : List (T × Val)} {us : List (Key × V)}, (vs.all fun p => p.2.below n) = true → RVd Γ F ρ vs us → RVd Γ F (ρ.take n) vs us
  | _, _, _, .nil => .nil
  | _, _, h, .cons r t => by
    rw [List.all_cons, Bool.and_eq_true] at h
    exact .cons ⟨r.1, rv_below h.1 r.2⟩ (rvd_below h.2 t)
theorem rvf_below {F : Hp} {ρ : List Addr} {n : Nat} : ∀ {vs : List (Nat × Val)} {us : List (Str × V)}, (vs.all fun p => p.2.below n) = true → RVf Γ F ρ vs us → RVf Γ F (ρ.take n) vs us
  | _, _, _, .nil => .nil
  | _, _, h, .cons r t => by
    rw [List.all_cons, Bool.and_eq_true] at h
    exact .cons ⟨r.1, rv_below h.1 r.2⟩ (rvf_below h.2 t)
theorem tr_rel {s : AS} {H : Hp} {n : Nat} (R : Rel Γ s H) (h : (s.hp.take n).all (Ob.below n) = true) : Rel Γ (s.tr n) H := by
  have ix : ∀ {m : Nat} {a : Addr}, (s.ρ.take n)[m]? = some a → m < n ∧ s.ρ[m]? = some a := fun {m a} e => by
    by_cases hm : m < n
    · rw [List.getElem?_take_of_lt hm] at e; exact ⟨hm, e⟩
    · rw [List.getElem?_eq_none (by simp; omega)] at e; cases e
  refine ⟨R.fz, R.fr, R.dj, by simp [AS.tr, R.len], fun m m' a e1 e2 => R.inj m m' a (ix e1).2 (ix e2).2, fun m a e => R.th m a (ix e).2, fun m a e => R.nf m a (ix e).2, fun m ob e => ?_⟩
  have e : (s.hp.take n)[m]? = some ob := e
  have hb : ob.below n = true := List.all_eq_true.mp h ob (List.mem_of_getElem? e)
  have hm : m < n := by
    by_cases hm : m < n
    · exact hm
    · rw [List.getElem?_eq_none (by simp; omega)] at e; cases e
  rw [List.getElem?_take_of_lt hm] at e
  obtain ⟨a, ea, c⟩ := R.cell m ob e
  refine ⟨a, by show (s.ρ.take n)[m]? = some a; rw [List.getElem?_take_of_lt hm]; exact ea, ?_⟩
  cases ob with
  | frz x => exact c
  | lst vs => obtain ⟨c1, c2, us, c3, c4⟩ := c; exact ⟨c1, c2, us, c3, rvs_below hb c4⟩
  | dct vs => obtain ⟨c1, c2, us, c3, c4⟩ := c; exact ⟨c1, c2, us, c3, rvd_below hb c4⟩
  | ins j vs => obtain ⟨c1, c2, dx, us, c3, c4⟩ := c; exact ⟨c1, c2, dx, us, c3, rvf_below hb c4⟩
/-- what stands of the heap at a def's end -/
theorem trunc_ok {s s' : AS} {H' : Hp} {h' : List Ob} (R : Rel Γ s (fun _ => none) ∨ s.ρ.length = s.hp.length) (e : s'.hp = h') (x : Ext s s') (R' : Rel Γ s' H') : ∃ s2, s2.hp = trunc s.hp.length h' ∧ Ext s s2 ∧ Rel Γ s2 H' ∧ s2.F = s'.F := by
  have hl : s.ρ.length = s.hp.length := R.elim (fun R => R.len) id
  subst e
  unfold trunc
  split
  · rename_i hb
    refine ⟨s'.tr s.hp.length, rfl, ⟨x.F, x.Fr, ?_⟩, tr_rel R' hb, rfl⟩
    obtain ⟨t, et⟩ := x.ρ
    show s.ρ <+: s'.ρ.take s.hp.length
    rw [← et, ← hl, List.take_left]
    exact List.prefix_refl _
  · exact ⟨s', rfl, x, R', rfl⟩
theorem locs_start {s : AS} {d : FnD} {N : List Str} {vs : List Val} {us : List V} (hN : N.length = d.ns) (r : RVs Γ s.F s.ρ vs us) : Locs Γ s (startL d vs) (L2.start N us) := by
  have hl := Paired.len r
  refine ⟨by unfold startL L2.start; simp [hl, hN], fun i v h => ?_⟩
  unfold startL at h
  unfold L2.start
  by_cases hi : i < vs.length
  · rw [List.getElem?_append_left (by simpa using hi), List.getElem?_map] at h
    cases e : vs[i]? with
    | none => rw [e] at h; cases h
    | some w =>
      rw [e] at h; cases h
      obtain ⟨u, hu, ru⟩ := Paired.get1 r e
      refine ⟨u, ?_, ru⟩
      rw [List.getElem?_append_left (by rw [List.length_map, ← hl]; exact hi), List.getElem?_map, hu]
      rfl
  · rw [List.getElem?_append_right (by simpa using hi), List.getElem?_replicate] at h
    split at h <;> cases h
/-- a def's promise, by its body's statements -/
theorem run_body {d : FnD} {N : List Str} {n : Nat} {us : List V} {H : Hp} {Q : VK} {E : XK} (hN : N.length = d.ns) (h : spM Γ n (run C d) us H Q E) :
    tS Γ (exSs C d.body) (fun cls dd _ H' => E cls dd H') { nx := fun _ H' => Q .non H', rt := Q } (L2.start N us) H := by
  obtain ⟨_, vs, s, R, r, A⟩ := h
  refine ⟨startL d vs, s, R, locs_start hN r, ?_⟩
  unfold run at A
  split at A
  · cases e : exSs C d.body (startL d vs) s.hp with
    | bad => rw [e] at A; exact A.elim
    | exc x l h' =>
      rw [e] at A
      intro s' H' e1 x1 R' σ L' cls dd hx
      obtain ⟨s2, e2, x2, R2, _⟩ := trunc_ok (.inr R.len) e1 x1 R'
      exact A s2 H' e2 x2 R2 cls dd hx
    | ok f h' =>
      rw [e] at A
      cases f with
      | nx l =>
        intro s' H' e1 x1 R' σ L'
        obtain ⟨s2, e2, x2, R2, _⟩ := trunc_ok (.inr R.len) e1 x1 R'
        exact A s2 H' e2 x2 R2 _ (rv_non.mpr rfl)
      | bk l => exact A.elim
      | ct l => exact A.elim
      | ret v =>
        cases v with
        | t x =>
          intro s' H' e1 x1 R' u ru
          obtain ⟨s2, e2, x2, R2, hF⟩ := trunc_ok (.inr R.len) e1 x1 R'
          refine A s2 H' e2 x2 R2 u ?_
          show RT Γ s2.F x u
          rw [hF]
          exact ru
        | ref m => exact fun s' H' e1 x1 R' u ru => A s' H' e1 x1 R' u ru
  · exact A.elim
end
end MS

set_option Elab.async false
set_option linter.all false
set_option maxRecDepth 100000
/-! MTA: all defs, level by level. -/
namespace MS
open PySem PySem.Spec PyProof.Rows L2
/-- what stands of the classes and methods -/
structure Stat (Γ : Run) (I : Info) (G : Tab) : Prop where
  mth : ∀ c m f, G.mth c m = some f → Meth Γ.K (Γ.cA c) (I.mN m) (I.fA f)
  mfl : ∀ c m f, G.mth c m = some f → ∀ g, fldN g ≠ I.mN m
  mps : ∀ c m f, G.mth c m = some f → I.pos f = true
  ini : ∀ c f, G.ini c = some f → Mk Γ.K (Γ.cA c) (I.fA f)
  cls : ∀ c, Cls Γ.K (Γ.cA c)
  nf : ∀ c d, (d == c || !G.isa d c) = true → PySem.W.notFirst Γ.K (Γ.cA c) (.ref (Γ.cA d)) = true
  mN0 : I.mN mEq = "__eq__"
  mN1 : I.mN mIn = "__contains__"
  ne : ∀ c, PySem.W.findIn Γ.K (.ref (Γ.cA c)) "__ne__" = some (some (.builtin "object.__ne__"))
  kit : ∀ t s, I.sps s = true → PySem.W.kitOne Γ.K (tyVal Γ.cA t) (spVal Γ.cA s) = some (tyIs G.isa t s)
  ca : ∀ c, PySem.W.findIn Γ.K (.ref (Γ.cA c)) "__class__" = some (some (.builtin "object.__class__"))
  cg : PySem.W.specialIn Γ.K (.builtin "object.__class__") "__get__" = some (some (.builtin "getset_descriptor.__get__"))
  ct : PySem.W.takesIn Γ.K (.builtin "object.__class__") = some true
  ob : ∀ c, PySem.W.mroIn Γ.K (Γ.cA c) (.type "object") = some true
/-- a level, without a context -/
structure LevG (Γ : Run) (I : Info) (k : Nat) (g : Nat → List Val → MH Val) : Prop where
  fn : ∀ f, I.ok f = true → FnOk Γ.P Γ.w Γ.K Γ.mg Γ.base (L2.CX Γ.P Γ.w) k (I.fA f) (I.fd f) (I.ps f) (spM Γ (I.ps f).length (g f)) ∧ (I.pos f = true → Binds Γ.K (I.fd f) (I.ps f) [])
  no : ∀ f, I.ok f = false → ∀ vs h, g f vs h = .bad
  len : ∀ f vs h, g f vs h ≠ .bad → vs.length = (I.ps f).length
/-- the program's names at X are the run's -/
structure Same (Γ : Run) (X : Cx) : Prop where
  P : X.prog = Γ.P
  w : X.w = Γ.w
  K : X.K = Γ.K
  mg : X.mg = Γ.mg
  base : X.base = Γ.base
theorem LevG.at {Γ : Run} {X : Cx} {I : Info} {k : Nat} {g : Nat → List Val → MH Val} (L : LevG Γ I k g) (S : Same Γ X) : Lev Γ X I k g := by
  refine ⟨fun f hf => ?_, L.no, L.len⟩
  rw [S.P, S.w, S.K, S.mg, S.base]
  exact L.fn f hf
theorem ctx_of {Γ : Run} {X : Cx} {I : Info} {G : Tab} {k : Nat} {a b : Nat → List Val → MH Val} (St : Stat Γ I G) (S : Same Γ X) (hr : Room (k + 1) X.A) (hc : X.calm = true) (la : LevG Γ I (k + 1) a) (lb : LevG Γ I k b) : Ctx Γ X (G.cl a b) I k := by
  have e := S.K
  refine ⟨S.K, hr, hc, la.at S, lb.at S, ?_, St.mfl, St.mps, ?_, ?_, ?_, St.mN0, St.mN1, ?_, ?_, ?_, ?_, ?_, ?_⟩ <;> rw [e]
  · exact St.mth
  · exact St.ini
  · exact St.cls
  · exact St.nf
  · exact St.ne
  · exact St.kit
  · exact St.ca
  · exact St.cg
  · exact St.ct
  · exact St.ob
theorem Ctx.blk {Γ : Run} {X : Cx} {C : Cl} {I : Info} {k : Nat} (T : Ctx Γ X C I k) (s : Shared) (H : Hp) (scope : Scope) (env : Env) (fp : List Addr) : Ctx Γ (X.blk s H scope env fp) C I k :=
  ⟨T.hK, T.room, T.calm, ⟨T.fn.fn, T.fn.no, T.fn.len⟩, ⟨T.nw.fn, T.nw.no, T.nw.len⟩, T.mth, T.mfl, T.mps, T.ini, T.cls, T.nf, T.mN0, T.mN1, T.ne, T.kit, T.ca, T.cg, T.ct, T.ob⟩
/-- a def of the text -/
structure FnFact (Γ : Run) (I : Info) (f : Nat) (N : List Str) (body : List Stmt) (scope : Scope) : Prop where
  ex : ∃ (name qual : Str) (params : Arguments) (dV kV doc pm cdv ct oc : Value) (an od : Option Addr) (osl : Array (Option Value)), I.fd f = PySem.W.fnOf name qual params body scope dV kV doc pm an cdv ct ∧
    Γ.K.lookup (I.fA f) = some ⟨oc, od, .func (I.fd f), osl⟩ ∧ PySem.W.codeIn Γ.K cdv qual = true
  sc : FnScope N (I.ps f) scope
  bd : I.pos f = true → Binds Γ.K (I.fd f) (I.ps f) []
/-- what the rules for a def's statements are told of its context -/
structure TopK (X : Cx) (N : List Str) (sc : Scope) : Prop where
  hN : X.N = N
  nd : N.Nodup
  hsc : X.env.scope = sc
  kind : sc.kind = .function
  fn : ∀ x, (x == ("__class__" : Str)) = false → X.fn x = true
  po : PassesOwn (model X.prog X.w) X.A X.env X.xe
section
variable {Γ : Run} {I : Info} {G : Tab} {k : Nat}
theorem fn_lev {f : Nat} {N : List Str} {body : List Stmt} {scope : Scope} {d : FnD} {a b : Nat → List Val → MH Val} (F : FnFact Γ I f N body scope) (St : Stat Γ I G) (hN : N.length = d.ns) (la : LevG Γ I (k + 1) a) (lb : LevG Γ I k b)
    (hbody : ∀ X : Cx, Same Γ X → Ctx Γ X (G.cl a b) I k → TopK X N scope → SSs Γ X body (exSs (G.cl a b) d.body)) : FnOk Γ.P Γ.w Γ.K Γ.mg Γ.base (L2.CX Γ.P Γ.w) (k + 2) (I.fA f) (I.fd f) (I.ps f) (spM Γ (I.ps f).length (run (G.cl a b) d)) := by
  obtain ⟨name, qual, params, dV, kV, doc, pm, cdv, ct, oc, an, od, osl, e, lk, hcd⟩ := F.ex
  rw [e] at lk ⊢
  refine fn_of lk hcd F.sc (fun vs H Q E h => h.1) fun A outer s H vs Q E hr h => ?_
  have S : Same Γ (cxOf (L2.CX Γ.P Γ.w) Γ.P Γ.w Γ.K Γ.mg Γ.base N qual scope (I.fA f) cdv A outer s H E) := ⟨rfl, rfl, rfl, rfl, rfl⟩
  have T : Ctx Γ (cxOf (L2.CX Γ.P Γ.w) Γ.P Γ.w Γ.K Γ.mg Γ.base N qual scope (I.fA f) cdv A outer s H E) (G.cl a b) I k := ctx_of St S hr rfl la lb
  have U : TopK (cxOf (L2.CX Γ.P Γ.w) Γ.P Γ.w Γ.K Γ.mg Γ.base N qual scope (I.fA f) cdv A outer s H E) N scope := ⟨rfl, F.sc.nd, rfl, F.sc.kind, fun _ _ => rfl, passes_of rfl⟩
  exact ⟨_, hbody _ S T U (fun cls dd _ H' => E cls dd H') (takes_of rfl rfl rfl rfl), run_body hN h⟩
/-- .. that captured __class__ -/
structure FnFactK (Γ : Run) (I : Info) (f : Nat) (N : List Str) (body : List Stmt) (scope : Scope) (D : Addr) (n0 : Str) : Prop where
  ex : ∃ (name qual : Str) (params : Arguments) (dV kV doc pm ct oc : Value) (an od : Option Addr) (osl : Array (Option Value)) (cc cda : Addr) (ar : Arg) (vs : Array Value) (file : Str) (tf : Tok) (ccl cl : Value) (cdd cld : Option Addr) (ccs csl : Array (Option Value)) (cdD : ClassData),
    I.fd f = PySem.W.fnX name qual params body scope (kcl cc) dV kV doc pm an (.ref cda) ct ∧ Γ.K.lookup (I.fA f) = some ⟨oc, od, .func (I.fd f), osl⟩ ∧ PySem.W.codeIn Γ.K (.ref cda) qual = true ∧
    (params.posonlyargs ++ params.args).head? = some ar ∧ ar.arg = n0 ∧ Γ.K.lookup cda = some ⟨ccl, cdd, .fields vs, ccs⟩ ∧ vs[2]? = some (.str file tf) ∧ ((Γ.P.main.file : Str) == file) = true ∧
    Γ.K.lookup cc = some ⟨cl, cld, .cell (some (.ref D)), csl⟩ ∧ PySem.W.clsIn Γ.K D = some cdD
  sc : KScope N (I.ps f) scope
  bd : I.pos f = true → Binds Γ.K (I.fd f) (I.ps f) []
  hks : scope.names.lookup ("super" : Str) = some .globalImplicit
  hkc : scope.names.lookup ("__class__" : Str) = some .free
  top : (Γ.P.main.scope.names.lookup ("super" : Str)).isSome = false
  mg : Γ.mg "super" = none
  op : PySem.W.nsIn Γ.K PySem.cStatics "thirdparty.any" = some none
  nm0 : N[0]? = some n0
  vis : Vis scope n0
theorem no_class_cell {names : List (Str × NameKind)} (h : ∀ y ∈ names, y.1 = "__class__" → y.2 = .free) {n : Nat} : (cellsFrom n names []).lookup ("__class__" : Str) = none := by
  cases e : (cellsFrom n names []).lookup ("__class__" : Str) with
  | none => rfl
  | some c =>
    have := h _ (cellsFrom_names names n _ c e) rfl
    cases this
theorem fn_levK {f : Nat} {N : List Str} {body : List Stmt} {scope : Scope} {D : Addr} {n0 : Str} {d : FnD} {a b : Nat → List Val → MH Val} (F : FnFactK Γ I f N body scope D n0) (St : Stat Γ I G) (hN : N.length = d.ns) (la : LevG Γ I (k + 1) a) (lb : LevG Γ I k b)
    (hbody : ∀ X : Cx, Same Γ X → Ctx Γ X (G.cl a b) I k → TopK X N scope → SupK X D n0 → SAts Γ X (G.cl a b) body body d.body) : FnOk Γ.P Γ.w Γ.K Γ.mg Γ.base (L2.CX Γ.P Γ.w) (k + 2) (I.fA f) (I.fd f) (I.ps f) (spM Γ (I.ps f).length (run (G.cl a b) d)) := by
  obtain ⟨name, qual, params, dV, kV, doc, pm, ct, oc, an, od, osl, cc, cda, ar, vs0, file, tf, ccl, cl, cdd, cld, ccs, csl, cdD, e, lk, hcd, q1, q2, q3, q4, q5, q6, q7⟩ := F.ex
  rw [e] at lk ⊢
  refine ⟨fun vs H Q E h => h.1, fun A outer s H args us vs Q E hr e0 hb r h => ?_⟩
  have hl : vs.length = (I.ps f).length := h.1
  have KX : Γ.K.In s.heap := e0.mod.kin.keeps fun b o e => (e0.bs b o e).1
  have lim : s.heap.NoLimit := e0.mod.nolimit.keeps fun b o e => (e0.bs b o e).1
  have hkind : ∀ y ∈ (I.ps f).zip us, scope.names.lookup y.1 = some .local ∨ (scope.names.lookup y.1 = some .cell ∧ ((cellsFrom (s.heap.objs.size + 1) scope.names []).lookup y.1).isSome = true) := fun ⟨n, v⟩ hy => by
    rcases F.sc.par n (List.of_mem_zip hy).1 with q | q
    · exact .inl q
    · exact .inr ⟨q, PySem.W.cellsFrom_some _ _ _ (.inl q)⟩
  refine codeAny_call_function hr.depth (KX _ _ lk) rfl F.sc.co F.sc.gen rfl (PySem.W.codeRec_of KX hcd) (hb _ _ _ _ ?_)
  refine newEnvD F.sc.kind hkind fun env he s1 x => ?_
  subst he
  refine ⟨lim.keeps x.toInCall.keep, PySem.ks_codeAny_funcAt ?_⟩
  have hcc : Γ.base.get? cc = some ⟨cl, cld, .cell (some (.ref D)), csl⟩ := e0.mod.kin _ _ q6
  have J : Inv (cxK (L2.CX Γ.P Γ.w) Γ.P Γ.w Γ.K Γ.mg Γ.base N qual scope (I.fA f) (.ref cda) cc A outer s H E) [] (L2.start N vs) H s1 := inv_startK F.sc hr.hd e0 hl r hcc rfl x
  have S : Same Γ (cxK (L2.CX Γ.P Γ.w) Γ.P Γ.w Γ.K Γ.mg Γ.base N qual scope (I.fA f) (.ref cda) cc A outer s H E) := ⟨rfl, rfl, rfl, rfl, rfl⟩
  have T : Ctx Γ (cxK (L2.CX Γ.P Γ.w) Γ.P Γ.w Γ.K Γ.mg Γ.base N qual scope (I.fA f) (.ref cda) cc A outer s H E) (G.cl a b) I k := ctx_of St S (hr.deeper _) rfl la lb
  have U : TopK (cxK (L2.CX Γ.P Γ.w) Γ.P Γ.w Γ.K Γ.mg Γ.base N qual scope (I.fA f) (.ref cda) cc A outer s H E) N scope := ⟨rfl, F.sc.nd, rfl, F.sc.kind, fun x hx => by show (!(x == ("__class__" : Str))) = true; rw [hx]; rfl, passes_of rfl⟩
  have SV : SupK (cxK (L2.CX Γ.P Γ.w) Γ.P Γ.w Γ.K Γ.mg Γ.base N qual scope (I.fA f) (.ref cda) cc A outer s H E) D n0 :=
    ⟨⟨I.fA f, cda, cc, _, ar, vs0, file, tf, oc, ccl, cl, od, cdd, cld, osl, ccs, csl, cdD, rfl, lk, q1, q2, rfl, q3, q4, q5, by show (cellsFrom (s.heap.objs.size + 1) scope.names [] ++ kcl cc).lookup _ = _; rw [List.lookup_append, no_class_cell F.sc.nocl]; rfl, q6, q7⟩, F.hks, F.hkc, F.top, F.mg, F.op, F.nm0, F.vis⟩
  have tk : Takes (cxK (L2.CX Γ.P Γ.w) Γ.P Γ.w Γ.K Γ.mg Γ.base N qual scope (I.fA f) (.ref cda) cc A outer s H E) (fun cls dd _ H' => E cls dd H') := takes_of rfl rfl rfl rfl
  refine PySem.ks_wpAt_mono ((hbody _ S T U SV).pats tk [] s1 (L2.start N vs) H _ J (run_body hN h)) (fun fl s' hs => ?_) fun e s' hs => hs
  have fin : ∀ {σ' : L2.St} {H' : Hp} {v : V} {u : Value}, Inv (cxK (L2.CX Γ.P Γ.w) Γ.P Γ.w Γ.K Γ.mg Γ.base N qual scope (I.fA f) (.ref cda) cc A outer s H E) [] σ' H' s' → RelV v u → Q v H' → CE outer Γ.P Γ.w H s Q u s' :=
    fun {σ' H' v u} J rv q => ⟨v, H', J.os, J.bare, J.base, J.hok, rv, q⟩
  cases fl with
  | ret u =>
    obtain ⟨v, σ', H', J, rv, q⟩ := hs
    exact fin J rv q
  | next =>
    obtain ⟨σ', H', J, q⟩ := hs
    exact fin (v := V.non) (u := Value.none) J rfl q
  | brk =>
    obtain ⟨_, _, _, q⟩ := hs
    exact False.elim q
  | cont =>
    obtain ⟨_, _, _, q⟩ := hs
    exact False.elim q
/-- what is known of a def: its body is what the table says, in every context of its kind -/
def FnSound (Γ : Run) (I : Info) (G : Tab) (f : Nat) (d : FnD) : Prop := ∀ (k : Nat) (a b : Nat → List Val → MH Val), LevG Γ I (k + 1) a → LevG Γ I k b →
  FnOk Γ.P Γ.w Γ.K Γ.mg Γ.base (L2.CX Γ.P Γ.w) (k + 2) (I.fA f) (I.fd f) (I.ps f) (spM Γ (I.ps f).length (run (G.cl a b) d)) ∧ (I.pos f = true → Binds Γ.K (I.fd f) (I.ps f) []) ∧ d.np = (I.ps f).length
theorem lev_bad (hnb : ∀ f, I.ok f = true → I.pos f = true → Binds Γ.K (I.fd f) (I.ps f) []) {k : Nat} : LevG Γ I k (fun _ _ => bad) := by
  refine ⟨fun f hf => ⟨⟨fun vs H Q E h => h.1, fun A outer s H args us vs Q E hr e0 hb r h => ?_⟩, hnb f hf⟩, fun _ _ _ _ => rfl, fun f vs h hb => absurd rfl hb⟩
  obtain ⟨_, ws, t, R, rr, A⟩ := h
  exact A.elim
theorem levels (hok : ∀ f, I.ok f = (G.fn f).isSome) (hs : ∀ f d, G.fn f = some d → FnSound Γ I G f d) (hb : ∀ f, I.ok f = true → I.pos f = true → Binds Γ.K (I.fd f) (I.ps f) []) : ∀ n, LevG Γ I (n + 1) (G.ff n).1 ∧ LevG Γ I n (G.ff n).2
  | 0 => ⟨lev_bad hb, lev_bad hb⟩
  | n + 1 => by
    obtain ⟨la, lb⟩ := levels hok hs hb n
    refine ⟨⟨fun f hf => ?_, fun f hf vs h => ?_, fun f vs h hne => ?_⟩, la⟩
    · rw [hok f] at hf
      obtain ⟨d, hd⟩ := Option.isSome_iff_exists.mp hf
      obtain ⟨q1, q2, _⟩ := hs f d hd n _ _ la lb
      refine ⟨?_, q2⟩
      have e : (G.ff (n + 1)).1 f = run (G.cl (G.ff n).1 (G.ff n).2) d := by
        funext vs
        show (match G.fn f with | some d => run (G.cl (G.ff n).1 (G.ff n).2) d vs | none => bad) = _
        rw [hd]
      rw [e]
      exact q1
    · rw [hok f] at hf
      show (match G.fn f with | some d => run (G.cl (G.ff n).1 (G.ff n).2) d vs | none => bad) h = _
      cases e : G.fn f with
      | none => rfl
      | some d => rw [e] at hf; cases hf
    · have hne : (match G.fn f with | some d => run (G.cl (G.ff n).1 (G.ff n).2) d vs | none => bad) h ≠ .bad := hne
      cases e : G.fn f with
      | none => rw [e] at hne; exact absurd rfl hne
      | some d =>
        rw [e] at hne
        obtain ⟨_, _, q⟩ := hs f d e n _ _ la lb
        rw [← q]
        dsimp only at hne
        unfold run at hne
        split at hne
        · assumption
        · exact absurd rfl hne
end
end MS

set_option Elab.async false
set_option linter.all false
set_option maxRecDepth 100000
/-! MTB: the check of a text against the small language. -/
namespace MS
open PySem PySem.Spec PyProof.Rows L2
/-- what the names of the module mean -/
structure GEnv where
  fns : List (Str × Nat)
  cls : List (Str × Nat)
  gls : List (Str × Nat)
  blt : List Str
  mN : Nat → Str
  ini : Nat → Option Nat
  kw : Nat → Option Str
  sps : Sp → Bool
/-- where one stands -/
structure SEnv where
  N : List Str
  sc : Scope
  fn : Str → Bool
def SEnv.blk (se : SEnv) (scope : Scope) : SEnv := ⟨se.N, relS scope se.sc, fun x => scope.names.lookup x == some .cell⟩
def okN (x : Str) : Bool := !(x == "__debug__") && !(x == "__classdict__")
def glB (se : SEnv) (x : Str) : Bool := decide (se.sc.names.lookup x = some .globalImplicit) && !(x == "__debug__")
def blB (ge : GEnv) (se : SEnv) (x : Str) : Bool := glB se x && ge.blt.contains x
def locB (se : SEnv) (x : Str) : Bool := decide (se.sc.names.lookup x = some .local) || decide (se.sc.names.lookup x = some .cell)
def visB (se : SEnv) (x : Str) : Bool := locB se x || decide (se.sc.names.lookup x = some .free)
abbrev RE := SEnv → E → Expr → Bool
def cEs (r : E → Expr → Bool) : List E → List Expr → Bool
  | [], [] => true
  | m :: ms, e :: es => r m e && !stB e && cEs r ms es
  | _, _ => false
def cVar (se : SEnv) (i : Nat) : Expr → Bool
  | .Name x _ => decide (se.N[i]? = some x) && visB se x && okN x
  | _ => false
def cGl (ge : GEnv) (se : SEnv) (g : Nat) : Expr → Bool
  | .Name x _ => decide (ge.gls.lookup x = some g) && glB se x
  | _ => false
def cInt (i : Int) : Expr → Bool
  | .Constant (.int j) _ _ => decide (i = j)
  | _ => false
def cStr (i : Str) : Expr → Bool
  | .Constant (.str j) _ _ => decide (i = j)
  | _ => false
def cBl (i : Bool) : Expr → Bool
  | .Constant (.bool j) _ _ => decide (i = j)
  | _ => false
def cNon : Expr → Bool
  | .Constant .none _ _ => true
  | _ => false
def cBin (op : Operator) (ra rb : Expr → Bool) : Expr → Bool
  | .BinOp a o b _ => decide (o = op) && ra a && rb b
  | _ => false
def cCmp (op : CmpOp) (ra rb : Expr → Bool) : Expr → Bool
  | .Compare a [o] [b] _ => decide (o = op) && ra a && rb b && !seB b
  | _ => false
def cUn (op : UnaryOp) (ra : Expr → Bool) : Expr → Bool
  | .UnaryOp o a _ => decide (o = op) && ra a
  | _ => false
def cBool (op : BoolOp) (r : List Expr → Bool) : Expr → Bool
  | .BoolOp o es _ => decide (o = op) && !es.isEmpty && r es
  | _ => false
/-- f(e, ..) of a name -/
def cCall (t : Str → Bool) (r : List Expr → Bool) : Expr → Bool
  | .Call (.Name x _) es [] _ => t x && r es
  | _ => false
def cMeth (t : Str → Bool) (ro : Expr → Bool) (r : List Expr → Bool) : Expr → Bool
  | .Call (.Attribute o nm apos) es [] cpos => t nm && ro o && !abB o && decide (es.length < 20) && (apos.endLine == cpos.line) && r es
  | _ => false
def cSub (ra ri : Expr → Bool) : Expr → Bool
  | .Subscript a i _ => ra a && ri i && !slB i
  | _ => false
def cAtt (f : Nat) (ro : Expr → Bool) : Expr → Bool
  | .Attribute o nm _ => decide (f < 20) && decide (nm = fldN f) && ro o && !abB o
  | _ => false
def noSl : Expr → Bool
  | .Slice .. => false
  | _ => true
/-- the operators' names among the calls of built-ins -/
def bName : Op → Option Str
  | .len => some "len" | .abs => some "abs" | .int1 => some "int" | .str1 => some "str" | .list _ => some "list" | .tuple => some "tuple"
  | .max2 => some "max" | .min2 => some "min" | .any => some "any" | .all => some "all" | .sum => some "sum"
  | _ => none
def mName : Op → Option Str
  | .append => some "append" | .pop => some "pop" | .clear => some "clear" | .count => some "count" | .index => some "index"
  | _ => none
def cOp (ge : GEnv) (se : SEnv) (r : E → Expr → Bool) (o : Op) (ms : List E) (e : Expr) : Bool := match o, ms with
  | .add, [a, b] => cBin .Add (r a) (r b) e
  | .sub, [a, b] => cBin .Sub (r a) (r b) e
  | .mul, [a, b] => cBin .Mult (r a) (r b) e
  | .fdv, [a, b] => cBin .FloorDiv (r a) (r b) e
  | .mod, [a, b] => cBin .Mod (r a) (r b) e
  | .pow, [a, b] => cBin .Pow (r a) (r b) e
  | .neg, [a] => cUn .USub (r a) e
  | .idx, [a, b] => cSub (r a) (r b) e
  | .idxd, [a, b] => cSub (r a) (r b) e
  | .slc false false, [a] => (match e with | .Subscript x (.Slice none none none _) _ => r a x | _ => false)
  | .slc true false, [a, l] => (match e with | .Subscript x (.Slice (some y) none none _) _ => r a x && r l y | _ => false)
  | .slc false true, [a, l] => (match e with | .Subscript x (.Slice none (some y) none _) _ => r a x && r l y | _ => false)
  | .fld f, [a] => cAtt f (r a) e
  | .lrng _, [a] => (match e with
    | .Call (.Name x _) [.Call (.Name y _) [z] [] _] [] _ => decide (x = "list") && decide (y = "range") && blB ge se x && blB ge se y && !stB z && r a z
    | _ => false)
  | o, ms => match bName o with
    | some n => cCall (fun x => decide (x = n) && blB ge se x) (fun es => !es.isEmpty && cEs r ms es) e
    | none => false
/-- comparisons -/
def cC (r : E → Expr → Bool) (m : E) (e : Expr) : Bool := match m with
  | .op .lt [a, b] => cCmp .Lt (r a) (r b) e
  | .op .le [a, b] => cCmp .LtE (r a) (r b) e
  | .op .gt [a, b] => cCmp .Gt (r a) (r b) e
  | .op .ge [a, b] => cCmp .GtE (r a) (r b) e
  | .op .isN [a] => cCmp .Is (r a) cNon e
  | .op .isnN [a] => cCmp .IsNot (r a) cNon e
  | .op (.isB c) [a] => cCmp .Is (r a) (cBl c) e
  | .op (.isnB c) [a] => cCmp .IsNot (r a) (cBl c) e
  | .eqq false a b => cCmp .Eq (r a) (r b) e
  | .eqq true a b => cCmp .NotEq (r a) (r b) e
  | .inn false a b => cCmp .In (r a) (r b) e
  | .inn true a b => cCmp .NotIn (r a) (r b) e
  | _ => false
mutual
def cTg (se : SEnv) (b : Bool) : Tg → Expr → Bool
  | .v i, e => match e with
    | .Name x _ => !b && decide (se.N[i]? = some x) && locB se x && (se.fn x || decide (se.sc.names.lookup x = some .local))
    | _ => false
  | .tp ts, e => match e with
    | .Tuple es _ _ => cTgs se ts es
    | _ => false
termination_by structural x => x
def cTgs (se : SEnv) : List Tg → List Expr → Bool
  | [], es => es.isEmpty
  | t :: ts, es => match es with
    | e :: es => cTg se false t e && !stB e && cTgs se ts es
    | [] => false
termination_by structural x => x
end
def cIt (ge : GEnv) (se : SEnv) (r : E → Expr → Bool) (it : It) (e : Expr) : Bool := match it with
  | .seq m => r m e && !ffB e
  | .rng1 m => cCall (fun x => decide (x = "range") && blB ge se x) (fun es => match es with | [z] => r m z && !stB z | _ => false) e
  | .rng2 m m2 => cCall (fun x => decide (x = "range") && blB ge se x) (fun es => match es with | [z, z2] => r m z && !stB z && r m2 z2 && !stB z2 | _ => false) e
  | .enum m => cCall (fun x => decide (x = "enumerate") && blB ge se x) (fun es => match es with | [z] => r m z && !stB z | _ => false) e
  | .zip m m2 => cCall (fun x => decide (x = "zip") && blB ge se x) (fun es => match es with | [z, z2] => r m z && !stB z && r m2 z2 && !stB z2 | _ => false) e
  | .liv _ => false
def isPair : It → Bool
  | .enum _ => true | .zip _ _ => true | _ => false
def isTup : Expr → Bool
  | .Tuple .. => true | _ => false
/-- a source and its target -/
def cItg (ge : GEnv) (se : SEnv) (r : E → Expr → Bool) (it : It) (tg : Tg) (e t : Expr) (se2 : SEnv) : Bool := cIt ge se r it e && cTg se2 (isPair it) tg t && (!isPair it || isTup t)
def cTs (r : E → Expr → Bool) : List E → List Expr → Bool
  | [], [] => true
  | [m], [e] => r m e
  | _, _ => false
def subset (a b : List Nat) : Bool := a.all fun i => b.contains i
/-- the own names of a block, with their places -/
def ownOf (N : List Str) (own : List Nat) : List (Str × Nat) := own.map fun i => (N.getD i "", i)
def cLc (ge : GEnv) (se : SEnv) (r rT : RE) (m : E) (e : Expr) : Bool := match m, e with
  | .lc _ own tg it ifs x, .ListComp ee [⟨et, ei, efs, 0⟩] scope _ =>
    let s2 := se.blk scope
    cItg ge se (r se) it tg ei et s2 && blkC se.N se.sc scope (ownOf se.N own) && cTs (rT s2) ifs efs && r s2 x ee && subset tg.ix own
  | .lc2 _ own tg it ifs tg1 it1 ifs1 x, .ListComp ee [⟨et, ei, efs, 0⟩, ⟨et1, ei1, efs1, 0⟩] scope _ =>
    let s2 := se.blk scope
    cItg ge se (r se) it tg ei et s2 && blkC se.N se.sc scope (ownOf se.N own) && cTs (rT s2) ifs efs && r s2 x ee && subset tg.ix own && subset tg1.ix own && cItg ge s2 (r s2) it1 tg1 ei1 et1 s2 && cTs (rT s2) ifs1 efs1 && !ffB ei1
  | _, _ => false
def cFs (r : E → Expr → Bool) : List Fp → List Expr → Bool
  | [], [] => true
  | p :: ps, e :: es => (match p, e with
    | .lit s, .Constant (.str j) _ _ => decide (s = j)
    | .val m, .FormattedValue x c none _ => decide (c = -1) && r m x
    | .rep m, .FormattedValue x c none _ => decide (c = 114) && r m x
    | _, _ => false) && cFs r ps es
  | _, _ => false
def cPs (r : E → Expr → Bool) : List E → List (Option Expr) → List Expr → Bool
  | [], [], [] => true
  | mk :: mv :: ms, some k :: ks, v :: vs => r mk k && r mv v && cPs r ms ks vs
  | _, _, _ => false
def cSp (ge : GEnv) (se : SEnv) (s : Sp) (e : Expr) : Bool := match e with
  | .Name x _ => ge.sps s && (match s with
    | .cls d => decide (ge.cls.lookup x = some d) && glB se x
    | .str => decide (x = "str") && blB ge se x
    | .list => decide (x = "list") && blB ge se x
    | .tuple => decide (x = "tuple") && blB ge se x
    | .int => decide (x = "int") && blB ge se x
    | .dict => decide (x = "dict") && blB ge se x)
  | _ => false
def cNew (ge : GEnv) (se : SEnv) (r : E → Expr → Bool) (c nk : Nat) (ms : List E) (e : Expr) : Bool := match e with
  | .Call (.Name x _) es [] _ => decide (nk = 0) && decide (ge.cls.lookup x = some c) && glB se x && (ge.ini c).isSome && (ge.kw c).isNone && cEs r ms es
  | .Call (.Name x _) es [⟨some kn, ek, _⟩] _ => decide (nk = 1) && decide (ge.cls.lookup x = some c) && glB se x && (ge.ini c).isSome && decide (ge.kw c = some kn) && !es.isEmpty &&
      (match ms.getLast? with | some mk => r mk ek && cEs r ms.dropLast es | none => false)
  | _ => false
def stepE (ge : GEnv) (r rT : RE) (se : SEnv) (m : E) (e : Expr) : Bool := match m with
  | .var i => cVar se i e
  | .int i => cInt i e
  | .str s => cStr s e
  | .bl b => cBl b e
  | .non => cNon e
  | .gl g => cGl ge se g e
  | .op o ms => cC (r se) (.op o ms) e || cOp ge se (r se) o ms e
  | .lm o l ms => (match mName o with
    | some n => cMeth (fun x => decide (x = n)) (r se l) (fun es => if o = .pop ∨ o = .clear then es.isEmpty && ms.isEmpty else !es.isEmpty && cEs (r se) ms es) e
    | none => false)
  | .eqq neg a b => cC (r se) (.eqq neg a b) e
  | .inn neg a b => cC (r se) (.inn neg a b) e
  | .ch o1 o2 a b c => (match e with
    | .Compare x [p, q] [y, z] _ => (decide (o1 = .le ∧ p = .LtE) || decide (o1 = .lt ∧ p = .Lt)) && (decide (o2 = .le ∧ q = .LtE) || decide (o2 = .lt ∧ q = .Lt)) && r se a x && r se b y && r se c z && !(lastMarks [p, q] [y, z])
    | _ => false)
  | .and ms => cBool .And (cEs (r se) ms) e
  | .or ms => cBool .Or (cEs (r se) ms) e
  | .nott a => cUn .Not (r se a) e
  | .ifx c a b => (match e with | .IfExp x y z _ => rT se c x && r se a y && r se b z | _ => false)
  | .tup ms => (match e with | .Tuple es _ _ => cEs (r se) ms es && decide (ms.length ≤ 1000) | _ => false)
  | .lst _ ms => (match e with | .List es _ => cEs (r se) ms es && decide (ms.length ≤ 1000) | _ => false)
  | .dsp _ ms => (match e with | .Dict ks vs _ => cPs (r se) ms ks vs && !ks.isEmpty && decide (ks.length ≤ 15) | _ => false)
  | .call _ f ms => cCall (fun x => decide (ge.fns.lookup x = some f) && glB se x) (cEs (r se) ms) e
  | .new c nk ms => cNew ge se (r se) c nk ms e
  | .meth _ o m ms => cMeth (fun x => decide (x = ge.mN m)) (r se o) (cEs (r se) ms) e
  | .isi a sp => (match e, sp with
    | .Call (.Name x _) [y, z] [] _, [s] => decide (x = "isinstance") && blB ge se x && r se a y && !stB y && cSp ge se s z
    | _, _ => false)
  | .lc a b c d f g => cLc ge se r rT (.lc a b c d f g) e
  | .lc2 a b c d f g h i j => cLc ge se r rT (.lc2 a b c d f g h i j) e
  | .dc own tg it k v => (match e with
    | .DictComp ek ev [⟨et, ei, [], 0⟩] scope _ => cItg ge se (r se) it tg ei et (se.blk scope) && blkC se.N se.sc scope (ownOf se.N own) && r (se.blk scope) k ek && r (se.blk scope) v ev && subset tg.ix own
    | _ => false)
  | .fst ps => (match e with | .JoinedStr (v1 :: v2 :: es) _ => cFs (r se) ps (v1 :: v2 :: es) | _ => false)
  | .sup _ _ _ => false
def plainT : E → Bool
  | .var _ => true | .op o _ => !o.cmp | .lm _ _ _ => true | .call _ _ _ => true | .meth _ _ _ _ => true | .isi _ _ => true | .bl _ => true
  | _ => false
def stepT (ge : GEnv) (r rT : RE) (se : SEnv) (m : E) (e : Expr) : Bool := match m with
  | .and ms => cBool .And (cEs (fun m e => rT se m e) ms) e
  | .or ms => cBool .Or (cEs (fun m e => rT se m e) ms) e
  | .nott a => cUn .Not (rT se a) e
  | .ch o1 o2 a b c => stepE ge r rT se (.ch o1 o2 a b c) e
  | .eqq neg a b => cC (r se) (.eqq neg a b) e
  | .inn neg a b => cC (r se) (.inn neg a b) e
  | m => (cC (r se) m e) || (plainT m && !tsB e && r se m e)
def chkE (ge : GEnv) : Nat → RE × RE
  | 0 => (fun _ _ _ => false, fun _ _ _ => false)
  | n + 1 => (stepE ge (chkE ge n).1 (chkE ge n).2, stepT ge (chkE ge n).1 (chkE ge n).2)
end MS

set_option Elab.async false
set_option linter.all false
set_option maxRecDepth 100000
/-! MTC: the check is sound: the parts. -/
namespace MS
open PySem PySem.Spec PyProof.Rows L2
/-- the names of the module mean what they are said to mean -/
structure GF (Γ : Run) (I : Info) (G : Tab) (ge : GEnv) : Prop where
  fn : ∀ x f, ge.fns.lookup x = some f → Γ.mg x = some (.ref (I.fA f)) ∧ PySem.W.keepIn Γ.K (.ref (I.fA f)) = true ∧ I.pos f = true
  cl : ∀ x c, ge.cls.lookup x = some c → Γ.mg x = some (.ref (Γ.cA c))
  gl : ∀ x g, ge.gls.lookup x = some g → ∃ t v u, G.gl g = some t ∧ Γ.mg x = some u ∧ RelV v u ∧ ∀ F, RT Γ F t v
  bl : ∀ x, ge.blt.contains x = true → Γ.mg x = none
  na : ∀ f, f < 20 → ∀ c, NoAttr Γ.K (Γ.cA c) (fldN f)
  mN : ∀ m, ge.mN m = I.mN m
  sps : ∀ s, ge.sps s = I.sps s
  ini : ∀ c, ge.ini c = G.ini c
  kp : ∀ c f, ge.kw c = none → G.ini c = some f → I.pos f = true
  kb : ∀ c kn f, ge.kw c = some kn → G.ini c = some f → ∀ (S' : Shared) (z w : Value) (us : List Value), Γ.K.In S'.heap → (z :: (us ++ [w])).length = (I.ps f).length → BindsTo S' (I.fd f) ⟨z :: us, [(kn, w)]⟩ ((I.ps f).zip (z :: (us ++ [w])))
/-- where one stands, at X -/
structure XF (Γ : Run) (I : Info) (G : Tab) (k : Nat) (a b : Nat → List Val → MH Val) (X : Cx) (se : SEnv) : Prop where
  S : Same Γ X
  T : Ctx Γ X (G.cl a b) I k
  hN : X.N = se.N
  nd : X.N.Nodup
  hsc : X.env.scope = se.sc
  kind : X.env.scope.kind = .function
  fn : ∀ x, se.fn x = true → X.fn x = true
section
variable {Γ : Run} {I : Info} {G : Tab} {k : Nat} {a b : Nat → List Val → MH Val} {X : Cx} {se : SEnv} {ge : GEnv}
theorem relabel_eq {env : Env} {scope : Scope} : relabel scope env = relS scope env.scope := rfl
theorem XF.blk (x : XF Γ I G k a b X se) {scope : Scope} (hk : scope.kind = .function) (s : Shared) (H : Hp) (D : Addr) (cl : List (Str × Addr)) (fp : List Addr) : XF Γ I G k a b (X.blk s H scope (compEnvC scope cl D X.env) fp) (se.blk scope) := by
  refine ⟨⟨x.S.P, x.S.w, x.S.K, x.S.mg, x.S.base⟩, x.T.blk s H scope _ fp, x.hN, x.nd, ?_, hk, fun y hy => hy⟩
  show relabel scope X.env = relS scope se.sc
  rw [← x.hsc]
  rfl
theorem XF.gl (x : XF Γ I G k a b X se) {y : Str} (h : glB se y = true) : Gl X y ∧ (y == ("__debug__" : Str)) = false := by
  unfold glB at h
  rw [Bool.and_eq_true, Bool.not_eq_true', decide_eq_true_eq] at h
  refine ⟨?_, h.2⟩
  show X.env.scope.names.lookup y = _
  rw [x.hsc]; exact h.1
theorem XF.bl (x : XF Γ I G k a b X se) (gf : GF Γ I G ge) {y : Str} (h : blB ge se y = true) : Gl X y ∧ (y == ("__debug__" : Str)) = false ∧ X.mg y = none := by
  unfold blB at h
  rw [Bool.and_eq_true] at h
  obtain ⟨h1, h2⟩ := x.gl h.1
  exact ⟨h1, h2, by rw [x.S.mg]; exact gf.bl y h.2⟩
theorem XF.loc (x : XF Γ I G k a b X se) {y : Str} (h : locB se y = true) : L2.Loc X.env.scope y := by
  unfold locB at h
  rw [Bool.or_eq_true, decide_eq_true_eq, decide_eq_true_eq] at h
  show X.env.scope.names.lookup y = _ ∨ X.env.scope.names.lookup y = _
  rw [x.hsc]; exact h
theorem XF.vis (x : XF Γ I G k a b X se) {y : Str} (h : visB se y = true) : Vis X.env.scope y := by
  unfold visB at h
  rw [Bool.or_eq_true] at h
  rcases h with h | h
  · rcases x.loc h with h | h
    · exact .inl h
    · exact .inr (.inl h)
  · rw [decide_eq_true_eq] at h
    exact .inr (.inr (by rw [x.hsc]; exact h))
/-- what a check of expressions promises -/
def RS_ (Γ : Run) (I : Info) (G : Tab) (k : Nat) (a b : Nat → List Val → MH Val) (r : RE) : Prop := ∀ X se m e, XF Γ I G k a b X se → r se m e = true → SE Γ X e (evE (G.cl a b) m)
def RT_ (Γ : Run) (I : Info) (G : Tab) (k : Nat) (a b : Nat → List Val → MH Val) (r : RE) : Prop := ∀ X se m e, XF Γ I G k a b X se → r se m e = true → ST Γ X e (evT (G.cl a b) m)
theorem cEs_ok {r : E → Expr → Bool} {C : Cl} (hr : ∀ m e, r m e = true → SE Γ X e (evE C m)) : ∀ {ms : List E} {es : List Expr}, cEs r ms es = true → SEs Γ X C es ms ∧ es.any stB = false
  | [], [], _ => ⟨.nil, rfl⟩
  | [], _ :: _, h => by cases h
  | _ :: _, [], h => by cases h
  | m :: ms, e :: es, h => by
    unfold cEs at h
    rw [Bool.and_eq_true, Bool.and_eq_true, Bool.not_eq_true'] at h
    obtain ⟨h1, h2⟩ := cEs_ok hr h.2
    exact ⟨.cons (hr m e h.1.1) h.1.2 h1, by rw [List.any_cons, h.1.2, h2]; rfl⟩
theorem cBin_inv {op : Operator} {ra rb : Expr → Bool} {e : Expr} (h : cBin op ra rb e = true) : ∃ x y p, e = .BinOp x op y p ∧ ra x = true ∧ rb y = true := by
  unfold cBin at h
  split at h
  · rw [Bool.and_eq_true, Bool.and_eq_true, decide_eq_true_eq] at h
    obtain ⟨⟨rfl, h1⟩, h2⟩ := h
    exact ⟨_, _, _, rfl, h1, h2⟩
  · cases h
theorem cCmp_inv {op : CmpOp} {ra rb : Expr → Bool} {e : Expr} (h : cCmp op ra rb e = true) : ∃ x y p, e = .Compare x [op] [y] p ∧ ra x = true ∧ rb y = true ∧ seB y = false := by
  unfold cCmp at h
  split at h
  · rw [Bool.and_eq_true, Bool.and_eq_true, Bool.and_eq_true, decide_eq_true_eq, Bool.not_eq_true'] at h
    obtain ⟨⟨⟨rfl, h1⟩, h2⟩, h3⟩ := h
    exact ⟨_, _, _, rfl, h1, h2, h3⟩
  · cases h
theorem cUn_inv {op : UnaryOp} {ra : Expr → Bool} {e : Expr} (h : cUn op ra e = true) : ∃ x p, e = .UnaryOp op x p ∧ ra x = true := by
  unfold cUn at h
  split at h
  · rw [Bool.and_eq_true, decide_eq_true_eq] at h
    obtain ⟨rfl, h1⟩ := h
    exact ⟨_, _, rfl, h1⟩
  · cases h
theorem cBool_inv {op : BoolOp} {r : List Expr → Bool} {e : Expr} (h : cBool op r e = true) : ∃ es p, e = .BoolOp op es p ∧ es ≠ [] ∧ r es = true := by
  unfold cBool at h
  split at h
  · rename_i o es p
    rw [Bool.and_eq_true, Bool.and_eq_true, decide_eq_true_eq, Bool.not_eq_true'] at h
    obtain ⟨⟨rfl, h1⟩, h2⟩ := h
    exact ⟨es, p, rfl, (fun z => by rw [z] at h1; cases h1), h2⟩
  · cases h
theorem cCall_inv {t : Str → Bool} {r : List Expr → Bool} {e : Expr} (h : cCall t r e = true) : ∃ x p es q, e = .Call (.Name x p) es [] q ∧ t x = true ∧ r es = true := by
  unfold cCall at h
  split at h
  · rw [Bool.and_eq_true] at h
    exact ⟨_, _, _, _, rfl, h.1, h.2⟩
  · cases h
theorem cMeth_inv {t : Str → Bool} {ro : Expr → Bool} {r : List Expr → Bool} {e : Expr} (h : cMeth t ro r e = true) : ∃ o nm ap es cp, e = .Call (.Attribute o nm ap) es [] cp ∧ t nm = true ∧ ro o = true ∧ abB o = false ∧ es.length < 20 ∧ (ap.endLine == cp.line) = true ∧ r es = true := by
  unfold cMeth at h
  split at h
  · rw [Bool.and_eq_true, Bool.and_eq_true, Bool.and_eq_true, Bool.and_eq_true, Bool.and_eq_true, Bool.not_eq_true', decide_eq_true_eq] at h
    obtain ⟨⟨⟨⟨⟨h1, h2⟩, h3⟩, h4⟩, h5⟩, h6⟩ := h
    exact ⟨_, _, _, _, _, rfl, h1, h2, h3, h4, h5, h6⟩
  · cases h
theorem cSub_inv {ra ri : Expr → Bool} {e : Expr} (h : cSub ra ri e = true) : ∃ x y p, e = .Subscript x y p ∧ ra x = true ∧ ri y = true ∧ slB y = false := by
  unfold cSub at h
  split at h
  · rw [Bool.and_eq_true, Bool.and_eq_true, Bool.not_eq_true'] at h
    exact ⟨_, _, _, rfl, h.1.1, h.1.2, h.2⟩
  · cases h
theorem cAtt_inv {f : Nat} {ro : Expr → Bool} {e : Expr} (h : cAtt f ro e = true) : ∃ x nm p, e = .Attribute x nm p ∧ f < 20 ∧ nm = fldN f ∧ ro x = true ∧ abB x = false := by
  unfold cAtt at h
  split at h
  · rw [Bool.and_eq_true, Bool.and_eq_true, Bool.and_eq_true, Bool.not_eq_true', decide_eq_true_eq, decide_eq_true_eq] at h
    exact ⟨_, _, _, rfl, h.1.1.1, h.1.1.2, h.1.2, h.2⟩
  · cases h
theorem cVar_ok (x : XF Γ I G k a b X se) {i : Nat} {e : Expr} (h : cVar se i e = true) : SE Γ X e (evE (G.cl a b) (.var i)) := by
  unfold cVar at h
  split at h
  · rename_i y p
    rw [Bool.and_eq_true, Bool.and_eq_true, decide_eq_true_eq] at h
    obtain ⟨⟨h1, h2⟩, h3⟩ := h
    unfold okN at h3
    rw [Bool.and_eq_true, Bool.not_eq_true', Bool.not_eq_true'] at h3
    exact se_var (by rw [x.hN]; exact h1) (x.vis h2) h3.1 h3.2
  · cases h
theorem cGl_ok (x : XF Γ I G k a b X se) (gf : GF Γ I G ge) {g : Nat} {e : Expr} (h : cGl ge se g e = true) : SE Γ X e (evE (G.cl a b) (.gl g)) := by
  unfold cGl at h
  split at h
  · rename_i y p
    rw [Bool.and_eq_true, decide_eq_true_eq] at h
    obtain ⟨h1, h2⟩ := h
    obtain ⟨q1, q2⟩ := x.gl h2
    obtain ⟨t, v, u, e1, e2, e3, e4⟩ := gf.gl y g h1
    exact se_con (pe_glob q1 (by rw [x.S.mg]; exact e2) e3 q2) (fun loc => by simp only [evE]; show (match G.gl g with | some x => (MH.pure (Val.t x) : MH Val) | none => bad) = _; rw [e1]) e4
  · cases h
theorem cInt_ok {C : Cl} {i : Int} {e : Expr} (h : cInt i e = true) : SE Γ X e (evE C (.int i)) := by
  unfold cInt at h
  split at h
  · rw [decide_eq_true_eq] at h; subst h; exact se_int
  · cases h
theorem cStr_ok {C : Cl} {i : Str} {e : Expr} (h : cStr i e = true) : SE Γ X e (evE C (.str i)) := by
  unfold cStr at h
  split at h
  · rw [decide_eq_true_eq] at h; subst h; exact se_str
  · cases h
theorem cBl_inv {i : Bool} {e : Expr} (h : cBl i e = true) : ∃ j p, e = .Constant (.bool i) j p := by
  unfold cBl at h
  split at h
  · rw [decide_eq_true_eq] at h; subst h; exact ⟨_, _, rfl⟩
  · cases h
theorem cNon_inv {e : Expr} (h : cNon e = true) : ∃ j p, e = .Constant .none j p := by
  unfold cNon at h
  split at h
  · exact ⟨_, _, rfl⟩
  · cases h
/-! ### comparisons -/
theorem cC_ok (x : XF Γ I G k a b X se) {r : E → Expr → Bool} (hr : ∀ m e, r m e = true → SE Γ X e (evE (G.cl a b) m)) {m : E} {e : Expr} (h : cC r m e = true) : SC Γ X e (evE (G.cl a b) m) := by
  unfold cC at h
  split at h
  · obtain ⟨y, z, p, rfl, h1, h2, h3⟩ := cCmp_inv h; exact sc_cmp op_lt lk_lt (hr _ _ h1) (hr _ _ h2) h3
  · obtain ⟨y, z, p, rfl, h1, h2, h3⟩ := cCmp_inv h; exact sc_cmp op_le lk_le (hr _ _ h1) (hr _ _ h2) h3
  · obtain ⟨y, z, p, rfl, h1, h2, h3⟩ := cCmp_inv h; exact sc_cmp op_gt lk_gt (hr _ _ h1) (hr _ _ h2) h3
  · obtain ⟨y, z, p, rfl, h1, h2, h3⟩ := cCmp_inv h; exact sc_cmp op_ge lk_ge (hr _ _ h1) (hr _ _ h2) h3
  · obtain ⟨y, z, p, rfl, h1, h2, h3⟩ := cCmp_inv h; obtain ⟨j, q, rfl⟩ := cNon_inv h2; exact sc_isN (hr _ _ h1)
  · obtain ⟨y, z, p, rfl, h1, h2, h3⟩ := cCmp_inv h; obtain ⟨j, q, rfl⟩ := cNon_inv h2; exact sc_isnN (hr _ _ h1)
  · obtain ⟨y, z, p, rfl, h1, h2, h3⟩ := cCmp_inv h; obtain ⟨j, q, rfl⟩ := cBl_inv h2; exact sc_isB (hr _ _ h1)
  · obtain ⟨y, z, p, rfl, h1, h2, h3⟩ := cCmp_inv h; obtain ⟨j, q, rfl⟩ := cBl_inv h2; exact sc_isnB (hr _ _ h1)
  · obtain ⟨y, z, p, rfl, h1, h2, h3⟩ := cCmp_inv h; exact sc_eq x.T (hr _ _ h1) (hr _ _ h2) h3
  · obtain ⟨y, z, p, rfl, h1, h2, h3⟩ := cCmp_inv h; exact sc_ne x.T (hr _ _ h1) (hr _ _ h2) h3
  · obtain ⟨y, z, p, rfl, h1, h2, h3⟩ := cCmp_inv h; exact sc_in x.T (hr _ _ h1) (hr _ _ h2) h3
  · obtain ⟨y, z, p, rfl, h1, h2, h3⟩ := cCmp_inv h; exact sc_notIn x.T (hr _ _ h1) (hr _ _ h2) h3
  · cases h
/-! ### operators and calls of built-ins -/
theorem noSl_of {e : Expr} (h : slB e = false) : NoSl e := by
  intro ov iv
  cases e <;> first | rfl | cases h
theorem cOp_ok (x : XF Γ I G k a b X se) (gf : GF Γ I G ge) {r : E → Expr → Bool} (hr : ∀ m e, r m e = true → SE Γ X e (evE (G.cl a b) m)) {o : Op} {ms : List E} {e : Expr} (h : cOp ge se r o ms e = true) : SE Γ X e (evE (G.cl a b) (.op o ms)) := by
  have hK := x.T.hK
  have cu := x.T.cu
  unfold cOp at h
  split at h
  · obtain ⟨y, z, p, rfl, h1, h2⟩ := cBin_inv h; exact se_bin op_addAll (by rw [hK]; exact lk_add) (hr _ _ h1) (hr _ _ h2)
  · obtain ⟨y, z, p, rfl, h1, h2⟩ := cBin_inv h; exact se_bin op_sub lk_sub (hr _ _ h1) (hr _ _ h2)
  · obtain ⟨y, z, p, rfl, h1, h2⟩ := cBin_inv h; exact se_bin op_mulAll lk_mul (hr _ _ h1) (hr _ _ h2)
  · obtain ⟨y, z, p, rfl, h1, h2⟩ := cBin_inv h; exact se_bin op_fdivN lk_fdv (hr _ _ h1) (hr _ _ h2)
  · obtain ⟨y, z, p, rfl, h1, h2⟩ := cBin_inv h; exact se_bin op_modN lk_mod (hr _ _ h1) (hr _ _ h2)
  · obtain ⟨y, z, p, rfl, h1, h2⟩ := cBin_inv h; exact se_bin op_pow lk_pow (hr _ _ h1) (hr _ _ h2)
  · obtain ⟨y, p, rfl, h1⟩ := cUn_inv h; exact se_un un_neg lk_neg (hr _ _ h1)
  · obtain ⟨y, z, p, rfl, h1, h2, h3⟩ := cSub_inv h; exact se_ix ix_seq (by rw [hK]; exact lk_idx) (hr _ _ h1) (hr _ _ h2) h3
  · obtain ⟨y, z, p, rfl, h1, h2, h3⟩ := cSub_inv h; exact se_dget (by omega) (hr _ _ h1) (hr _ _ h2) (noSl_of h3)
  · split at h
    · exact se_slc00 hK (hr _ _ h)
    · cases h
  · split at h
    · rw [Bool.and_eq_true] at h; exact se_slc10 hK (hr _ _ h.1) (hr _ _ h.2)
    · cases h
  · split at h
    · rw [Bool.and_eq_true] at h; exact se_slc01 hK (hr _ _ h.1) (hr _ _ h.2)
    · cases h
  · obtain ⟨y, nm, p, rfl, h1, h2, h3, h4⟩ := cAtt_inv h
    exact se_fld h2 h1 hK (fun c => by rw [← hK]; exact x.T.cls c) (gf.na _ h1) (hr _ _ h3) h4
  · split at h
    · rename_i y p z q w p2 p3
      rw [Bool.and_eq_true, Bool.and_eq_true, Bool.and_eq_true, Bool.and_eq_true, Bool.and_eq_true, Bool.not_eq_true', decide_eq_true_eq, decide_eq_true_eq] at h
      obtain ⟨⟨⟨⟨⟨rfl, rfl⟩, h1⟩, h2⟩, h3⟩, h4⟩ := h
      obtain ⟨g1, _, m1⟩ := x.bl gf h1
      obtain ⟨g2, _, m2⟩ := x.bl gf h2
      exact se_lrng x.T.calm g1 m1 g2 m2 h3 (hr _ _ h4)
    · cases h
  · split at h
    · rename_i n hn
      obtain ⟨y, p, es, q, rfl, h1, h2⟩ := cCall_inv h
      rw [Bool.and_eq_true, decide_eq_true_eq] at h1
      obtain ⟨rfl, h1⟩ := h1
      obtain ⟨g1, d1, m1⟩ := x.bl gf h1
      rw [Bool.and_eq_true, Bool.not_eq_true'] at h2
      obtain ⟨h2, h3⟩ := h2
      obtain ⟨s1, s2⟩ := cEs_ok hr h3
      cases es with
      | nil => cases h2
      | cons e es =>
        unfold bName at hn
        split at hn
        · cases hn; exact se_callB call_len (by rw [hK]; exact lk_len) g1 m1 (by with_unfolding_all rfl) s1.sa s2
        · cases hn; exact se_callB call_abs lk_abs g1 m1 (by with_unfolding_all rfl) s1.sa s2
        · cases hn; exact se_callTy call_int1 lk_int1 g1 m1 (by with_unfolding_all rfl) s1.sa s2
        · cases hn; exact se_callTy call_str_int lk_str1 g1 m1 (by with_unfolding_all rfl) s1.sa s2
        · cases hn; exact se_callTy call_list_of (by rw [hK]; exact lk_list) g1 m1 (by with_unfolding_all rfl) s1.sa s2
        · cases hn; exact se_callTy call_tupleF (by rw [hK]; exact lk_tuple) g1 m1 (by with_unfolding_all rfl) s1.sa s2
        · cases hn; exact se_callB (call_max2 x.T.calm) lk_max2 g1 m1 (by with_unfolding_all rfl) s1.sa s2
        · cases hn; exact se_callB (call_min2 x.T.calm) lk_min2 g1 m1 (by with_unfolding_all rfl) s1.sa s2
        · cases hn; exact se_callB (cr_any x.T.calm) (by rw [hK]; exact lk_any) g1 m1 (by with_unfolding_all rfl) s1.sa s2
        · cases hn; exact se_callB (cr_all x.T.calm) (by rw [hK]; exact lk_all) g1 m1 (by with_unfolding_all rfl) s1.sa s2
        · cases hn; exact se_callB (cr_sum x.T.calm) (by rw [hK]; exact lk_sum) g1 m1 (by with_unfolding_all rfl) s1.sa s2
        · cases hn
    · cases h
end
end MS

set_option Elab.async false
set_option linter.all false
set_option maxRecDepth 100000
/-! MTD: the check is sound: expressions. -/
namespace MS
open PySem PySem.Spec PyProof.Rows L2
section
variable {Γ : Run} {I : Info} {G : Tab} {k : Nat} {a b : Nat → List Val → MH Val} {X : Cx} {se : SEnv} {ge : GEnv}
theorem lk_indexL (s : AS) (H : Hp) (a : Val) (vs : List Val) (u : V) (us : List V) (Q : VK) (E : Ex → AS → Hp → Prop) (R : Rel Γ s H) (r : RV Γ s.F s.ρ a u) (rs : RVs Γ s.F s.ρ vs us) (nt : ∀ xs, a ≠ .t (.tup xs)) (A : After Γ s (opM .index (a :: vs) s.hp) (fun x s' H' => ∀ z, RV Γ s'.F s'.ρ x z → Q z H') E) : rIndexD Γ.K u us H Q := by
  match vs, rs with
  | [v], .cons rv .nil =>
    rename_i w
    change After Γ s (seqD a (fun ds => MH.bind (MS.pur v) fun x => match x.data with | some d => (match ds.findIdx? fun z => PyData.eqv z d with | some j => int (j : Nat) | none => bad) | none => bad) s.hp) _ _ at A
    obtain ⟨ds, s1, x1, R1, ⟨q, e⟩, d1, h1, A⟩ := A.seqDL R r nt
    obtain ⟨d, s2, x2, R2, d2, h2, A⟩ := A.datP R1 (rv.ext x1)
    subst e
    cases hj : ds.findIdx? fun z => PyData.eqv z d with
    | none => rw [hj] at A; exact A.elim
    | some j =>
      rw [hj] at A
      obtain ⟨z, hz, hz1, hz2⟩ := find_facts hj
      exact ⟨q, w, d, ds, j, z, rfl, rfl, d1, d2, h1, h2, hz, hz1, hz2, After.ok R2 A _ (rv_int.mpr rfl)⟩
  | [], _ => exact A.elim
  | _ :: _ :: _, _ => exact A.elim
/-- methods of lists -/
theorem cLm_ok (x : XF Γ I G k a b X se) {r : E → Expr → Bool} (hr : ∀ m e, r m e = true → SE Γ X e (evE (G.cl a b) m)) {o : Op} {n : Str} {l : E} {ms : List E} {e : Expr} (hn : mName o = some n) (h : cMeth (fun x => decide (x = n)) (r l) (fun es => if o = .pop ∨ o = .clear then es.isEmpty && ms.isEmpty else !es.isEmpty && cEs r ms es) e = true) : SE Γ X e (evE (G.cl a b) (.lm o l ms)) := by
  have hK := x.T.hK
  have cu := x.T.cu
  obtain ⟨y, nm, ap, es, cp, rfl, h1, h2, h3, h4, h5, h6⟩ := cMeth_inv h
  rw [decide_eq_true_eq] at h1
  subst h1
  have ho := hr _ _ h2
  have none0 : (o = .pop ∨ o = .clear) → es = [] ∧ ms = [] := fun z => by
    rw [if_pos z, Bool.and_eq_true] at h6
    exact ⟨List.isEmpty_iff.mp h6.1, List.isEmpty_iff.mp h6.2⟩
  have some1 : ¬ (o = .pop ∨ o = .clear) → ∃ e es', es = e :: es' ∧ SEs Γ X (G.cl a b) (e :: es') ms ∧ (e :: es').any stB = false := fun z => by
    rw [if_neg z, Bool.and_eq_true, Bool.not_eq_true'] at h6
    obtain ⟨s1, s2⟩ := cEs_ok hr h6.2
    cases es with
    | nil => cases h6.1
    | cons e es' => exact ⟨e, es', rfl, s1, s2⟩
  unfold mName at hn
  split at hn
  · cases hn
    obtain ⟨e, es', rfl, s1, s2⟩ := some1 (by simp)
    exact se_lmL (r := rAppend) rfl PySem.F.slot_list_append PySem.F.type_list_append mt_append lk_append hK ho s1.sa h3 s2 h4 h5
  · cases hn
    obtain ⟨rfl, rfl⟩ := none0 (by simp)
    exact se_lmL0 (r := rPop) rfl PySem.F.slot_list_pop PySem.F.type_list_pop mt_pop lk_pop hK ho h3 h5
  · cases hn
    obtain ⟨rfl, rfl⟩ := none0 (by simp)
    exact se_lmL0 (r := rClear) rfl PySem.F.slot_list_clear PySem.F.type_list_clear mt_clear lk_clear hK ho h3 h5
  · cases hn
    obtain ⟨e, es', rfl, s1, s2⟩ := some1 (by simp)
    exact se_lmT PySem.F.slot_list_count PySem.F.type_list_count (mt_countD cu) PySem.F.slot_tuple_count PySem.F.type_tuple_count (mt_countT cu) hK
      (fun s H v vs u us Q E R r rs nt A => by rw [hK]; exact lk_countL s H v vs u us Q E R r rs nt A) (fun s H xs vs u us Q E R r rs A => by rw [hK]; exact lk_countT s H xs vs u us Q E R r rs A) ho s1.sa h3 s2 h4 h5
  · cases hn
    obtain ⟨e, es', rfl, s1, s2⟩ := some1 (by simp)
    exact se_lmT PySem.F.slot_list_index PySem.F.type_list_index (mt_indexD cu) PySem.F.slot_tuple_index PySem.F.type_tuple_index (mt_indexT cu) hK
      (fun s H v vs u us Q E R r rs nt A => by rw [hK]; exact lk_indexL s H v vs u us Q E R r rs nt A) (fun s H xs vs u us Q E R r rs A => by rw [hK]; exact lk_indexT s H xs vs u us Q E R r rs A) ho s1.sa h3 s2 h4 h5
  · cases hn
theorem cMt_ok (x : XF Γ I G k a b X se) (gf : GF Γ I G ge) {r : E → Expr → Bool} (hr : ∀ m e, r m e = true → SE Γ X e (evE (G.cl a b) m)) {raw : Bool} {o : E} {m : Nat} {ms : List E} {e : Expr} (h : cMeth (fun x => decide (x = ge.mN m)) (r o) (cEs r ms) e = true) : SE Γ X e (evE (G.cl a b) (.meth raw o m ms)) := by
  obtain ⟨y, nm, ap, es, cp, rfl, h1, h2, h3, h4, h5, h6⟩ := cMeth_inv h
  rw [decide_eq_true_eq] at h1
  have h1 : nm = I.mN m := h1.trans (gf.mN m)
  obtain ⟨s1, s2⟩ := cEs_ok hr h6
  have ho := hr _ _ h2
  cases s1 with
  | nil => exact se_meth0 x.T h1 ho h3 h5
  | cons q hs t => exact se_meth x.T h1 ho (SEs.cons q hs t).sa h3 s2 h4 h5
theorem cFn_ok (x : XF Γ I G k a b X se) (gf : GF Γ I G ge) {r : E → Expr → Bool} (hr : ∀ m e, r m e = true → SE Γ X e (evE (G.cl a b) m)) {raw : Bool} {f : Nat} {ms : List E} {e : Expr} (h : cCall (fun x => decide (ge.fns.lookup x = some f) && glB se x) (cEs r ms) e = true) : SE Γ X e (evE (G.cl a b) (.call raw f ms)) := by
  obtain ⟨y, p, es, q, rfl, h1, h2⟩ := cCall_inv h
  rw [Bool.and_eq_true, decide_eq_true_eq] at h1
  obtain ⟨g1, d1⟩ := x.gl h1.2
  obtain ⟨m1, k1, hp⟩ := gf.fn y f h1.1
  obtain ⟨s1, s2⟩ := cEs_ok hr h2
  cases s1 with
  | nil => exact se_call0 x.T hp g1 (by rw [x.S.mg]; exact m1) (by rw [x.S.K]; exact k1) d1
  | cons q hs t => exact se_call x.T hp g1 (by rw [x.S.mg]; exact m1) (by rw [x.S.K]; exact k1) (SEs.cons q hs t).sa s2 d1
theorem snoc_of {α : Type} {l : List α} {x : α} (h : l.getLast? = some x) : l = l.dropLast ++ [x] := by
  cases l with
  | nil => cases h
  | cons y ys =>
    rw [List.getLast?_eq_some_getLast (by simp)] at h
    cases h
    exact (List.dropLast_concat_getLast (by simp)).symm
theorem cNew_ok (x : XF Γ I G k a b X se) (gf : GF Γ I G ge) {r : E → Expr → Bool} (hr : ∀ m e, r m e = true → SE Γ X e (evE (G.cl a b) m)) {c nk : Nat} {ms : List E} {e : Expr} (h : cNew ge se r c nk ms e = true) : SE Γ X e (evE (G.cl a b) (.new c nk ms)) := by
  unfold cNew at h
  split at h
  · rename_i y p es q
    rw [Bool.and_eq_true, Bool.and_eq_true, Bool.and_eq_true, Bool.and_eq_true, Bool.and_eq_true, decide_eq_true_eq, decide_eq_true_eq] at h
    obtain ⟨⟨⟨⟨⟨rfl, h1⟩, h2⟩, h3⟩, h5⟩, h4⟩ := h
    obtain ⟨g1, d1⟩ := x.gl h2
    have m1 := gf.cl y c h1
    rw [gf.ini] at h3
    obtain ⟨f, hf⟩ := Option.isSome_iff_exists.mp h3
    have hp := gf.kp c f (Option.isNone_iff_eq_none.mp h5) hf
    obtain ⟨s1, s2⟩ := cEs_ok hr h4
    cases s1 with
    | nil => exact se_new0 x.T hf hp g1 (by rw [x.S.mg]; exact m1) d1
    | cons q hs t => exact se_new x.T hf hp g1 (by rw [x.S.mg]; exact m1) (SEs.cons q hs t).sa s2 d1
  · rename_i y p es kn ek kp q
    rw [Bool.and_eq_true, Bool.and_eq_true, Bool.and_eq_true, Bool.and_eq_true, Bool.and_eq_true, Bool.and_eq_true, decide_eq_true_eq, decide_eq_true_eq, decide_eq_true_eq, Bool.not_eq_true'] at h
    obtain ⟨⟨⟨⟨⟨⟨rfl, h1⟩, h2⟩, h3⟩, h5⟩, h6⟩, h4⟩ := h
    obtain ⟨g1, d1⟩ := x.gl h2
    have m1 := gf.cl y c h1
    rw [gf.ini] at h3
    obtain ⟨f, hf⟩ := Option.isSome_iff_exists.mp h3
    split at h4
    · rename_i mk hmk
      rw [Bool.and_eq_true] at h4
      obtain ⟨s1, s2⟩ := cEs_ok hr h4.2
      have e1 := snoc_of hmk
      rw [e1]
      cases es with
      | nil => cases h6
      | cons e es => exact se_newK x.T hf g1 (by rw [x.S.mg]; exact m1) (fun S' z w us hS hl => gf.kb c kn f h5 hf S' z w us (by rw [← x.S.K]; exact hS) hl) s1.sa (hr _ _ h4.1) s2 d1
    · cases h4
  · cases h
end
end MS

set_option Elab.async false
set_option linter.all false
set_option maxRecDepth 100000
/-! MTE: the check is sound: targets, sources, comprehensions. -/
namespace MS
open PySem PySem.Spec PyProof.Rows L2
section
variable {Γ : Run} {I : Info} {G : Tab} {k : Nat} {a b : Nat → List Val → MH Val} {X : Cx} {se : SEnv} {ge : GEnv}
mutual
theorem cTg_ok (x : XF Γ I G k a b X se) : ∀ (tg : Tg) {bb : Bool} {e : Expr}, cTg se bb tg e = true → SG Γ X bb e tg
  | .v i, bb, e, h => by
    simp only [cTg] at h
    split at h
    · rename_i y p
      rw [Bool.and_eq_true, Bool.and_eq_true, Bool.and_eq_true, Bool.not_eq_true', decide_eq_true_eq, Bool.or_eq_true, decide_eq_true_eq] at h
      obtain ⟨⟨⟨rfl, h1⟩, h2⟩, h3⟩ := h
      exact sg_v x.nd (by rw [x.hN]; exact h1) (x.loc h2) (h3.elim (fun z => .inl (x.fn y z)) fun z => .inr (by rw [x.hsc]; exact z))
    · cases h
  | .tp ts, bb, e, h => by
    simp only [cTg] at h
    split at h
    · rename_i es j p
      obtain ⟨h1, h2, h3⟩ := cTgs_ok x ts h
      exact sg_tp x.T.calm h1 h2 h3 x.T.hK
    · cases h
theorem cTgs_ok (x : XF Γ I G k a b X se) : ∀ (ts : List Tg) {es : List Expr}, cTgs se ts es = true → PGs X es (tGs Γ ts) ∧ es.length = ts.length ∧ es.any stB = false
  | [], es, h => by
    simp only [cTgs] at h
    cases es with
    | nil => exact ⟨sgs_nil, rfl, rfl⟩
    | cons _ _ => cases h
  | t :: ts, es, h => by
    simp only [cTgs] at h
    cases es with
    | nil => cases h
    | cons e es =>
      dsimp only at h
      rw [Bool.and_eq_true, Bool.and_eq_true, Bool.not_eq_true'] at h
      obtain ⟨⟨h1, h2⟩, h3⟩ := h
      obtain ⟨q1, q2, q3⟩ := cTgs_ok x ts h3
      exact ⟨sgs_cons (cTg_ok x t h1) q1 h2, by rw [List.length_cons, List.length_cons, q2], by rw [List.any_cons, h2, q3]; rfl⟩
end
theorem cItg_ok (x : XF Γ I G k a b X se) (gf : GF Γ I G ge) {r : E → Expr → Bool} (hr : ∀ m e, r m e = true → SE Γ X e (evE (G.cl a b) m)) {it : It} {tg : Tg} {e t : Expr} {se2 : SEnv} (h : cItg ge se r it tg e t se2 = true) :
    SI Γ X (isPair it) t e (evIt (G.cl a b) it) ∧ (∀ X2, XF Γ I G k a b X2 se2 → SG Γ X2 (isPair it) t tg) ∧ ∀ m, it ≠ .liv m := by
  unfold cItg at h
  rw [Bool.and_eq_true, Bool.and_eq_true, Bool.or_eq_true, Bool.not_eq_true'] at h
  obtain ⟨⟨h1, h2⟩, h3⟩ := h
  refine ⟨?_, fun X2 x2 => cTg_ok x2 tg h2, ?_⟩
  · unfold cIt at h1
    split at h1
    · rw [Bool.and_eq_true, Bool.not_eq_true'] at h1
      exact si_seq x.T.hK (hr _ _ h1.1) h1.2
    · obtain ⟨y, p, es, q, rfl, h4, h5⟩ := cCall_inv h1
      rw [Bool.and_eq_true, decide_eq_true_eq] at h4
      obtain ⟨rfl, h4⟩ := h4
      obtain ⟨g1, _, m1⟩ := x.bl gf h4
      split at h5
      · rw [Bool.and_eq_true, Bool.not_eq_true'] at h5
        exact si_rng1 g1 m1 (hr _ _ h5.1) h5.2
      · cases h5
    · obtain ⟨y, p, es, q, rfl, h4, h5⟩ := cCall_inv h1
      rw [Bool.and_eq_true, decide_eq_true_eq] at h4
      obtain ⟨rfl, h4⟩ := h4
      obtain ⟨g1, _, m1⟩ := x.bl gf h4
      split at h5
      · rw [Bool.and_eq_true, Bool.and_eq_true, Bool.and_eq_true, Bool.not_eq_true', Bool.not_eq_true'] at h5
        exact si_rng2 g1 m1 (hr _ _ h5.1.1.1) h5.1.1.2 (hr _ _ h5.1.2) h5.2
      · cases h5
    · obtain ⟨y, p, es, q, rfl, h4, h5⟩ := cCall_inv h1
      rw [Bool.and_eq_true, decide_eq_true_eq] at h4
      obtain ⟨rfl, h4⟩ := h4
      obtain ⟨g1, _, m1⟩ := x.bl gf h4
      have ht : isTup t = true := h3.elim (fun z => by cases z) id
      split at h5
      · rw [Bool.and_eq_true, Bool.not_eq_true'] at h5
        cases t with
        | Tuple es j p => exact si_enum x.T.hK g1 m1 (hr _ _ h5.1) h5.2
        | _ => cases ht
      · cases h5
    · obtain ⟨y, p, es, q, rfl, h4, h5⟩ := cCall_inv h1
      rw [Bool.and_eq_true, decide_eq_true_eq] at h4
      obtain ⟨rfl, h4⟩ := h4
      obtain ⟨g1, _, m1⟩ := x.bl gf h4
      have ht : isTup t = true := h3.elim (fun z => by cases z) id
      split at h5
      · rw [Bool.and_eq_true, Bool.and_eq_true, Bool.and_eq_true, Bool.not_eq_true', Bool.not_eq_true'] at h5
        cases t with
        | Tuple es j p => exact si_zip x.T.hK g1 m1 (hr _ _ h5.1.1.1) h5.1.1.2 (hr _ _ h5.1.2) h5.2
        | _ => cases ht
      · cases h5
    · cases h1
  · rintro m rfl
    unfold cIt at h1
    cases h1
theorem cTs_ok {r : E → Expr → Bool} {C : Cl} (hr : ∀ m e, r m e = true → ST Γ X e (evT C m)) {ms : List E} {es : List Expr} (h : cTs r ms es = true) : SPT Γ X es (evTs C ms) := by
  unfold cTs at h
  split at h
  · exact spt_nil
  · exact spt_one (hr _ _ h)
  · cases h
theorem subset_ok {x y : List Nat} (h : subset x y = true) : ∀ i ∈ x, i ∈ y := by
  unfold subset at h
  intro i hi
  have := List.all_eq_true.mp h i hi
  simpa using this
theorem own_map {N : List Str} {own : List Nat} : (ownOf N own).map (·.2) = own := by
  unfold ownOf
  rw [List.map_map]
  exact List.map_id' own
theorem blk_kind {N : List Str} {sc scope : Scope} {own : List (Str × Nat)} (h : blkC N sc scope own = true) : scope.kind = .function := (blkOk_by h).kind
theorem cLc1_ok (x : XF Γ I G k a b X se) (gf : GF Γ I G ge) {r rT : RE} (hr : RS_ Γ I G k a b r) (hT : RT_ Γ I G k a b rT) {m : Bool} {own : List Nat} {tg : Tg} {it : It} {ifs : List E} {y : E} {ee et ei : Expr} {efs : List Expr} {scope : Scope} {p : Pos}
    (h : cLc ge se r rT (.lc m own tg it ifs y) (.ListComp ee [⟨et, ei, efs, 0⟩] scope p) = true) : LcOk Γ X (G.cl a b) (isPair it) scope (ownOf se.N own) tg it ifs y et ei ee efs := by
  have h : (cItg ge se (r se) it tg ei et (se.blk scope) && blkC se.N se.sc scope (ownOf se.N own) && cTs (rT (se.blk scope)) ifs efs && r (se.blk scope) y ee && subset tg.ix own) = true := h
  rw [Bool.and_eq_true, Bool.and_eq_true, Bool.and_eq_true, Bool.and_eq_true] at h
  obtain ⟨⟨⟨⟨h1, h2⟩, h3⟩, h4⟩, h5⟩ := h
  have hk := blk_kind h2
  obtain ⟨q1, q2, _⟩ := cItg_ok x gf (hr X se · · x) h1
  refine ⟨q1, ?_, fun s H D cl fp => q2 _ (x.blk hk s H D cl fp), fun s H D cl fp => cTs_ok (fun m e hm => hT _ _ m e (x.blk hk s H D cl fp) hm) h3, fun s H D cl fp => hr _ _ _ _ (x.blk hk s H D cl fp) h4, ?_⟩
  · rw [x.hN, x.hsc]; exact blkOk_by h2
  · rw [own_map]; exact subset_ok h5
theorem cLc2_ok (x : XF Γ I G k a b X se) (gf : GF Γ I G ge) {r rT : RE} (hr : RS_ Γ I G k a b r) (hT : RT_ Γ I G k a b rT) {m : Bool} {own : List Nat} {tg tg1 : Tg} {it it1 : It} {ifs ifs1 : List E} {y : E} {ee et ei et1 ei1 : Expr} {efs efs1 : List Expr} {scope : Scope} {p : Pos}
    (h : cLc ge se r rT (.lc2 m own tg it ifs tg1 it1 ifs1 y) (.ListComp ee [⟨et, ei, efs, 0⟩, ⟨et1, ei1, efs1, 0⟩] scope p) = true) : Lc2Ok Γ X (G.cl a b) (isPair it) (isPair it1) scope (ownOf se.N own) tg it ifs tg1 it1 ifs1 y et ei et1 ei1 ee efs efs1 := by
  have h : (cItg ge se (r se) it tg ei et (se.blk scope) && blkC se.N se.sc scope (ownOf se.N own) && cTs (rT (se.blk scope)) ifs efs && r (se.blk scope) y ee && subset tg.ix own && subset tg1.ix own && cItg ge (se.blk scope) (r (se.blk scope)) it1 tg1 ei1 et1 (se.blk scope) && cTs (rT (se.blk scope)) ifs1 efs1 && !ffB ei1) = true := h
  rw [Bool.and_eq_true, Bool.and_eq_true, Bool.and_eq_true, Bool.and_eq_true, Bool.and_eq_true, Bool.and_eq_true, Bool.and_eq_true, Bool.and_eq_true, Bool.not_eq_true'] at h
  obtain ⟨⟨⟨⟨⟨⟨⟨⟨h1, h2⟩, h3⟩, h4⟩, h5⟩, h6⟩, h7⟩, h8⟩, h9⟩ := h
  have hk := blk_kind h2
  obtain ⟨q1, q2, _⟩ := cItg_ok x gf (hr X se · · x) h1
  refine ⟨q1, ?_, ?_, fun s H D cl fp => q2 _ (x.blk hk s H D cl fp), fun s H D cl fp => cTs_ok (fun m e hm => hT _ _ m e (x.blk hk s H D cl fp) hm) h3, fun s H D cl fp => (cItg_ok (x.blk hk s H D cl fp) gf (hr _ _ · · (x.blk hk s H D cl fp)) h7).1, fun s H D cl fp => (cItg_ok (x.blk hk s H D cl fp) gf (hr _ _ · · (x.blk hk s H D cl fp)) h7).2.1 _ (x.blk hk s H D cl fp),
    fun s H D cl fp => cTs_ok (fun m e hm => hT _ _ m e (x.blk hk s H D cl fp) hm) h8, fun s H D cl fp => hr _ _ _ _ (x.blk hk s H D cl fp) h4, ?_, h9⟩
  · rw [x.hN, x.hsc]; exact blkOk_by h2
  · rw [own_map]; exact subset_ok h6
  · rw [own_map]; exact subset_ok h5
theorem cLc_ok (x : XF Γ I G k a b X se) (gf : GF Γ I G ge) {r rT : RE} (hr : RS_ Γ I G k a b r) (hT : RT_ Γ I G k a b rT) {m : E} {e : Expr} (h : cLc ge se r rT m e = true) : SE Γ X e (evE (G.cl a b) m) := by
  cases m with
  | lc mm own tg it ifs y =>
    cases e with
    | ListComp ee gs scope p =>
      match gs, h with
      | [⟨et, ei, efs, 0⟩], h =>
        have q := (cLc1_ok x gf hr hT h).se (m := mm) (pos := p) x.T.calm x.nd
        rw [own_map] at q
        exact q
    | _ => cases h
  | lc2 mm own tg it ifs tg1 it1 ifs1 y =>
    cases e with
    | ListComp ee gs scope p =>
      match gs, h with
      | [⟨et, ei, efs, 0⟩, ⟨et1, ei1, efs1, 0⟩], h =>
        have q := (cLc2_ok x gf hr hT h).se (m := mm) (pos := p) x.T.calm x.nd
        rw [own_map] at q
        exact q
    | _ => cases h
  | _ => cases h
theorem cDc_ok (x : XF Γ I G k a b X se) (gf : GF Γ I G ge) {r : RE} (hr : RS_ Γ I G k a b r) {own : List Nat} {tg : Tg} {it : It} {mk mv : E} {ek ev et ei : Expr} {scope : Scope} {p : Pos}
    (h : (cItg ge se (r se) it tg ei et (se.blk scope) && blkC se.N se.sc scope (ownOf se.N own) && r (se.blk scope) mk ek && r (se.blk scope) mv ev && subset tg.ix own) = true) : SE Γ X (.DictComp ek ev [⟨et, ei, [], 0⟩] scope p) (evE (G.cl a b) (.dc own tg it mk mv)) := by
  rw [Bool.and_eq_true, Bool.and_eq_true, Bool.and_eq_true, Bool.and_eq_true] at h
  obtain ⟨⟨⟨⟨h1, h2⟩, h3⟩, h4⟩, h5⟩ := h
  have hk := blk_kind h2
  obtain ⟨q1, q2, _⟩ := cItg_ok x gf (hr X se · · x) h1
  have q := se_dc (pos := p) x.T.calm x.nd q1 (own := ownOf se.N own) (by rw [x.hN, x.hsc]; exact blkOk_by h2) (fun s H D cl fp => q2 _ (x.blk hk s H D cl fp)) (fun s H D cl fp => hr _ _ _ _ (x.blk hk s H D cl fp) h3) (fun s H D cl fp => hr _ _ _ _ (x.blk hk s H D cl fp) h4) (by rw [own_map]; exact subset_ok h5)
  rw [own_map] at q
  exact q
theorem cFs_ok {r : E → Expr → Bool} {C : Cl} (hr : ∀ m e, r m e = true → SE Γ X e (evE C m)) : ∀ {ps : List Fp} {es : List Expr}, cFs r ps es = true → SFs Γ X C es ps
  | [], [], _ => .nil
  | [], _ :: _, h => by cases h
  | _ :: _, [], h => by cases h
  | p :: ps, e :: es, h => by
    unfold cFs at h
    rw [Bool.and_eq_true] at h
    obtain ⟨h, h2⟩ := h
    refine .cons ?_ (cFs_ok hr h2)
    split at h
    · rw [decide_eq_true_eq] at h; subst h; exact sf_lit
    · rw [Bool.and_eq_true, decide_eq_true_eq] at h; obtain ⟨rfl, h⟩ := h; exact sf_val (hr _ _ h)
    · rw [Bool.and_eq_true, decide_eq_true_eq] at h; obtain ⟨rfl, h⟩ := h; exact sf_rep (hr _ _ h)
    · cases h
theorem cPs_ok {r : E → Expr → Bool} {C : Cl} (hr : ∀ m e, r m e = true → SE Γ X e (evE C m)) : ∀ (ks : List (Option Expr)) {ms : List E} {vs : List Expr}, cPs r ms ks vs = true → SPs Γ X C ks vs ms
  | [], ms, vs, h => by
    cases ms with
    | nil => cases vs with
      | nil => exact .nil
      | cons _ _ => cases h
    | cons m ms => cases ms <;> cases h
  | none :: ks, ms, vs, h => by
    cases ms with
    | nil => cases h
    | cons m ms => cases ms with
      | nil => cases h
      | cons m2 ms => cases h
  | some e :: ks, ms, vs, h => by
    cases ms with
    | nil => cases h
    | cons m ms => cases ms with
      | nil => cases h
      | cons m2 ms => cases vs with
        | nil => cases h
        | cons v vs =>
          unfold cPs at h
          rw [Bool.and_eq_true, Bool.and_eq_true] at h
          exact .cons (hr _ _ h.1.1) (hr _ _ h.1.2) (cPs_ok hr ks h.2)
theorem cSp_ok (x : XF Γ I G k a b X se) (gf : GF Γ I G ge) {s : Sp} {e : Expr} (h : cSp ge se s e = true) : SpE Γ X e s ∧ ge.sps s = true := by
  unfold cSp at h
  split at h
  · rename_i y p
    rw [Bool.and_eq_true] at h
    obtain ⟨h0, h⟩ := h
    refine ⟨?_, h0⟩
    cases s with
    | cls d =>
      dsimp only at h
      rw [Bool.and_eq_true, decide_eq_true_eq] at h
      obtain ⟨g1, d1⟩ := x.gl h.2
      exact spe_own g1 (by rw [x.S.mg]; exact gf.cl y d h.1) d1
    | str =>
      dsimp only at h
      rw [Bool.and_eq_true, decide_eq_true_eq] at h
      obtain ⟨rfl, h⟩ := h
      obtain ⟨g1, d1, m1⟩ := x.bl gf h
      exact spe_ty (n := "str") rfl (by with_unfolding_all rfl) g1 m1 (by decide) d1
    | list =>
      dsimp only at h
      rw [Bool.and_eq_true, decide_eq_true_eq] at h
      obtain ⟨rfl, h⟩ := h
      obtain ⟨g1, d1, m1⟩ := x.bl gf h
      exact spe_ty (n := "list") rfl (by with_unfolding_all rfl) g1 m1 (by decide) d1
    | tuple =>
      dsimp only at h
      rw [Bool.and_eq_true, decide_eq_true_eq] at h
      obtain ⟨rfl, h⟩ := h
      obtain ⟨g1, d1, m1⟩ := x.bl gf h
      exact spe_ty (n := "tuple") rfl (by with_unfolding_all rfl) g1 m1 (by decide) d1
    | int =>
      dsimp only at h
      rw [Bool.and_eq_true, decide_eq_true_eq] at h
      obtain ⟨rfl, h⟩ := h
      obtain ⟨g1, d1, m1⟩ := x.bl gf h
      exact spe_ty (n := "int") rfl (by with_unfolding_all rfl) g1 m1 (by decide) d1
    | dict =>
      dsimp only at h
      rw [Bool.and_eq_true, decide_eq_true_eq] at h
      obtain ⟨rfl, h⟩ := h
      obtain ⟨g1, d1, m1⟩ := x.bl gf h
      exact spe_ty (n := "dict") rfl (by with_unfolding_all rfl) g1 m1 (by decide) d1
  · cases h
end
end MS

set_option Elab.async false
set_option linter.all false
set_option maxRecDepth 100000
/-! MTF: the check of expressions is sound. -/
namespace MS
open PySem PySem.Spec PyProof.Rows L2
section
variable {Γ : Run} {I : Info} {G : Tab} {k : Nat} {a b : Nat → List Val → MH Val} {X : Cx} {se : SEnv} {ge : GEnv}
theorem chain_op {o : Op} {p : CmpOp} (h : (decide (o = .le ∧ p = .LtE) || decide (o = .lt ∧ p = .Lt)) = true) : ∃ r, OpR X (compareOp p) r ∧ OpLk Γ o r := by
  rw [Bool.or_eq_true, decide_eq_true_eq, decide_eq_true_eq] at h
  rcases h with ⟨rfl, rfl⟩ | ⟨rfl, rfl⟩
  · exact ⟨_, op_le, lk_le⟩
  · exact ⟨_, op_lt, lk_lt⟩
theorem cCh_inv {r : E → Expr → Bool} {o1 o2 : Op} {x y z : E} {e : Expr} (h : (match e with
    | .Compare u [p, q] [v, w] _ => (decide (o1 = .le ∧ p = .LtE) || decide (o1 = .lt ∧ p = .Lt)) && (decide (o2 = .le ∧ q = .LtE) || decide (o2 = .lt ∧ q = .Lt)) && r x u && r y v && r z w && !(lastMarks [p, q] [v, w])
    | _ => false) = true) : ∃ p q u v w ps, e = .Compare u [p, q] [v, w] ps ∧ (decide (o1 = .le ∧ p = .LtE) || decide (o1 = .lt ∧ p = .Lt)) = true ∧ (decide (o2 = .le ∧ q = .LtE) || decide (o2 = .lt ∧ q = .Lt)) = true ∧ r x u = true ∧ r y v = true ∧ r z w = true ∧ lastMarks [p, q] [v, w] = false := by
  split at h
  · rw [Bool.and_eq_true, Bool.and_eq_true, Bool.and_eq_true, Bool.and_eq_true, Bool.and_eq_true, Bool.not_eq_true'] at h
    exact ⟨_, _, _, _, _, _, rfl, h.1.1.1.1.1, h.1.1.1.1.2, h.1.1.1.2, h.1.1.2, h.1.2, h.2⟩
  · cases h
theorem stepE_ok (gf : GF Γ I G ge) {r rT : RE} (hr : RS_ Γ I G k a b r) (hT : RT_ Γ I G k a b rT) : RS_ Γ I G k a b (stepE ge r rT) := by
  intro X se m e x h
  have hr' : ∀ m e, r se m e = true → SE Γ X e (evE (G.cl a b) m) := fun m e q => hr X se m e x q
  cases m with
  | var i => exact cVar_ok x h
  | int i => exact cInt_ok h
  | str s => exact cStr_ok h
  | bl c => obtain ⟨j, p, rfl⟩ := cBl_inv h; exact se_bl
  | non => obtain ⟨j, p, rfl⟩ := cNon_inv h; exact se_non
  | gl g => exact cGl_ok x gf h
  | op o ms =>
    have h : (cC (r se) (.op o ms) e || cOp ge se (r se) o ms e) = true := h
    rw [Bool.or_eq_true] at h
    rcases h with h | h
    · exact (cC_ok x hr' h).se
    · exact cOp_ok x gf hr' h
  | lm o l ms =>
    have h : (match mName o with
      | some n => cMeth (fun x => decide (x = n)) (r se l) (fun es => if o = .pop ∨ o = .clear then es.isEmpty && ms.isEmpty else !es.isEmpty && cEs (r se) ms es) e
      | none => false) = true := h
    cases hn : mName o with
    | none => rw [hn] at h; cases h
    | some n => rw [hn] at h; exact cLm_ok x hr' hn h
  | eqq neg u v => exact (cC_ok x hr' h).se
  | inn neg u v => exact (cC_ok x hr' h).se
  | ch o1 o2 u v w =>
    obtain ⟨p, q, u', v', w', ps, rfl, h1, h2, h3, h4, h5, h6⟩ := cCh_inv (r := r se) h
    obtain ⟨r1, p1, l1⟩ := chain_op (Γ := Γ) (X := X) h1
    obtain ⟨r2, p2, l2⟩ := chain_op (Γ := Γ) (X := X) h2
    exact se_ch p1 p2 l1 l2 (hr' _ _ h3) (hr' _ _ h4) (hr' _ _ h5) h6
  | and ms => obtain ⟨es, p, rfl, h1, h2⟩ := cBool_inv h; exact se_and (cEs_ok hr' h2).1 h1
  | or ms => obtain ⟨es, p, rfl, h1, h2⟩ := cBool_inv h; exact se_or (cEs_ok hr' h2).1 h1
  | nott u => obtain ⟨y, p, rfl, h1⟩ := cUn_inv h; exact se_not (hr' _ _ h1)
  | ifx c u v =>
    have h : (match (generalizing := false) e with | .IfExp x y z _ => rT se c x && r se u y && r se v z | _ => false) = true := h
    split at h
    · rw [Bool.and_eq_true, Bool.and_eq_true] at h
      exact se_ifx (hT X se _ _ x h.1.1) (hr' _ _ h.1.2) (hr' _ _ h.2)
    · cases h
  | tup ms =>
    have h : (match (generalizing := false) e with | .Tuple es _ _ => cEs (r se) ms es && decide (ms.length ≤ 1000) | _ => false) = true := h
    split at h
    · rw [Bool.and_eq_true, decide_eq_true_eq] at h
      exact se_tup (cEs_ok hr' h.1).1.sa h.2
    · cases h
  | lst bb ms =>
    have h : (match (generalizing := false) e with | .List es _ => cEs (r se) ms es && decide (ms.length ≤ 1000) | _ => false) = true := h
    split at h
    · rw [Bool.and_eq_true, decide_eq_true_eq] at h
      exact se_lst (cEs_ok hr' h.1).1.sa h.2
    · cases h
  | dsp bb ms =>
    have h : (match (generalizing := false) e with | .Dict ks vs _ => cPs (r se) ms ks vs && !ks.isEmpty && decide (ks.length ≤ 15) | _ => false) = true := h
    split at h
    · rw [Bool.and_eq_true, Bool.and_eq_true, decide_eq_true_eq, Bool.not_eq_true'] at h
      exact se_dsp (cPs_ok hr' _ h.1.1) (fun z => by rw [z] at h; cases h.1.2) h.2
    · cases h
  | call raw f ms => exact cFn_ok x gf hr' h
  | new c nk ms => exact cNew_ok x gf hr' h
  | meth raw o mm ms => exact cMt_ok x gf hr' h
  | sup d f ms => cases h
  | isi u sp =>
    have h : (match (generalizing := false) e, sp with
      | .Call (.Name x _) [y, z] [] _, [s] => decide (x = "isinstance") && blB ge se x && r se u y && !stB y && cSp ge se s z
      | _, _ => false) = true := h
    split at h
    · rw [Bool.and_eq_true, Bool.and_eq_true, Bool.and_eq_true, Bool.and_eq_true, decide_eq_true_eq, Bool.not_eq_true'] at h
      obtain ⟨⟨⟨⟨rfl, h1⟩, h2⟩, h3⟩, h4⟩ := h
      obtain ⟨g1, _, m1⟩ := x.bl gf h1
      obtain ⟨q1, q2⟩ := cSp_ok x gf h4
      exact se_isi x.T (by rw [← gf.sps]; exact q2) g1 m1 (hr' _ _ h2) h3 q1
    · cases h
  | lc m own tg it ifs y => exact cLc_ok x gf hr hT h
  | lc2 m own tg it ifs tg1 it1 ifs1 y => exact cLc_ok x gf hr hT h
  | dc own tg it kk v =>
    have h : (match (generalizing := false) e with
      | .DictComp ek ev [⟨et, ei, [], 0⟩] scope _ => cItg ge se (r se) it tg ei et (se.blk scope) && blkC se.N se.sc scope (ownOf se.N own) && r (se.blk scope) kk ek && r (se.blk scope) v ev && subset tg.ix own
      | _ => false) = true := h
    split at h
    · exact cDc_ok x gf hr h
    · cases h
  | fst ps =>
    have h : (match (generalizing := false) e with | .JoinedStr (v1 :: v2 :: es) _ => cFs (r se) ps (v1 :: v2 :: es) | _ => false) = true := h
    split at h
    · exact se_fst (cFs_ok hr' h)
    · cases h
theorem cEsT_ok {r : E → Expr → Bool} {C : Cl} (hr : ∀ m e, r m e = true → ST Γ X e (evT C m)) : ∀ {ms : List E} {es : List Expr}, cEs r ms es = true → STs Γ X C es ms
  | [], [], _ => .nil
  | [], _ :: _, h => by cases h
  | _ :: _, [], h => by cases h
  | m :: ms, e :: es, h => by
    unfold cEs at h
    rw [Bool.and_eq_true, Bool.and_eq_true] at h
    exact .cons (hr m e h.1.1) (cEsT_ok hr h.2)
/-- a plain test -/
theorem plain_ok (x : XF Γ I G k a b X se) {r : E → Expr → Bool} (hr : ∀ m e, r m e = true → SE Γ X e (evE (G.cl a b) m)) {m : E} {e : Expr} (h : (plainT m && !tsB e && r m e) = true) : ST Γ X e (evT (G.cl a b) m) := by
  rw [Bool.and_eq_true, Bool.and_eq_true, Bool.not_eq_true'] at h
  obtain ⟨⟨h1, h2⟩, h3⟩ := h
  have hs := hr _ _ h3
  have hK := x.T.hK
  cases m with
  | var i =>
    refine st_of hK hs h2 fun loc => ?_
    simp only [evT, evE]
    funext h
    unfold MH.bind
    cases loc[i]? with
    | none => rfl
    | some o => cases o <;> rfl
  | bl c =>
    refine st_of hK hs h2 fun loc => ?_
    simp only [evT, evE]
    rfl
  | op o ms =>
    have h1 : (!o.cmp) = true := h1
    rw [Bool.not_eq_true'] at h1
    refine st_of hK hs h2 fun loc => ?_
    simp only [evT, evE]
    rw [MH.bind_assoc, h1]
    rfl
  | lm o l ms =>
    refine st_of hK hs h2 fun loc => ?_
    simp only [evT, evE, MH.bind_assoc]
  | call raw f ms =>
    refine st_of hK hs h2 fun loc => ?_
    simp only [evT, evE, MH.bind_assoc]
  | meth raw o mm ms =>
    refine st_of hK hs h2 fun loc => ?_
    simp only [evT, evE, MH.bind_assoc]
    congr 1
    funext v
    congr 1
    funext c
    cases (G.cl a b).mth c mm with
    | none => rfl
    | some f => simp only [MH.bind_assoc]
  | isi u sp =>
    refine st_of hK hs h2 fun loc => ?_
    simp only [evT, evE, MH.bind_assoc]
  | _ => cases h1
theorem cC_T (x : XF Γ I G k a b X se) {r : E → Expr → Bool} (hr : ∀ m e, r m e = true → SE Γ X e (evE (G.cl a b) m)) {m : E} {e : Expr} (h : cC r m e = true) : ST Γ X e (evT (G.cl a b) m) := by
  refine SC.st (cC_ok x hr h) fun loc => ?_
  cases m with
  | op o ms =>
    have hc : o.cmp = true := by
      cases o <;> first | rfl | (exact absurd h (by simp [cC]))
    simp only [evT, evE]
    rw [MH.bind_assoc, hc]
    rfl
  | eqq neg u v => simp only [evT, evE, MH.bind_assoc]
  | inn neg u v => simp only [evT, evE, MH.bind_assoc]
  | _ => cases h
theorem stepT_ok (gf : GF Γ I G ge) {r rT : RE} (hr : RS_ Γ I G k a b r) (hT : RT_ Γ I G k a b rT) : RT_ Γ I G k a b (stepT ge r rT) := by
  intro X se m e x h
  have hr' : ∀ m e, r se m e = true → SE Γ X e (evE (G.cl a b) m) := fun m e q => hr X se m e x q
  have hT' : ∀ m e, rT se m e = true → ST Γ X e (evT (G.cl a b) m) := fun m e q => hT X se m e x q
  have gen : ((cC (r se) m e) || (plainT m && !tsB e && r se m e)) = true → ST Γ X e (evT (G.cl a b) m) := fun h => by
    rw [Bool.or_eq_true] at h
    rcases h with h | h
    · exact cC_T x hr' h
    · exact plain_ok x hr' h
  cases m with
  | and ms => obtain ⟨es, p, rfl, h1, h2⟩ := cBool_inv h; exact st_and (cEsT_ok hT' h2) h1
  | or ms => obtain ⟨es, p, rfl, h1, h2⟩ := cBool_inv h; exact st_or (cEsT_ok hT' h2) h1
  | nott u => obtain ⟨y, p, rfl, h1⟩ := cUn_inv h; exact st_not (hT' _ _ h1)
  | ch o1 o2 u v w =>
    obtain ⟨p, q, u', v', w', ps, rfl, h1, h2, h3, h4, h5, h6⟩ := cCh_inv (r := r se) h
    obtain ⟨r1, p1, l1⟩ := chain_op (Γ := Γ) (X := X) h1
    obtain ⟨r2, p2, l2⟩ := chain_op (Γ := Γ) (X := X) h2
    exact st_ch p1 p2 l1 l2 (hr' _ _ h3) (hr' _ _ h4) (hr' _ _ h5) h6
  | eqq neg u v => exact cC_T x hr' h
  | inn neg u v => exact cC_T x hr' h
  | _ => exact gen h
theorem chk_ok (gf : GF Γ I G ge) : ∀ n, RS_ Γ I G k a b (chkE ge n).1 ∧ RT_ Γ I G k a b (chkE ge n).2
  | 0 => ⟨(fun X se m e x h => by cases h), (fun X se m e x h => by cases h)⟩
  | n + 1 => by
    obtain ⟨h1, h2⟩ := chk_ok gf n
    exact ⟨stepE_ok gf h1 h2, stepT_ok gf h1 h2⟩
end
end MS

set_option Elab.async false
set_option linter.all false
set_option maxRecDepth 100000
/-! MTG: the check of statements. -/
namespace MS
open PySem PySem.Spec PyProof.Rows L2
abbrev RSt := S → Stmt → Bool
def cSs (r : RSt) : List S → List Stmt → Bool
  | [], [] => true
  | m :: ms, s :: ss => r m s && cSs r ms ss
  | _, _ => false
def isComp : Expr → Bool
  | .ListComp .. => true
  | _ => false
/-- name = [..] on one line -/
def cSetLc (ge : GEnv) (rE rT : RE) (se : SEnv) (i : Nat) (m : E) (e : Expr) (x : Str) (py : Pos) : Bool := match e with
  | .ListComp _ _ scope pos => cLc ge se rE rT m e && decide (se.N[i]? = some x) && decide (se.sc.names.lookup x = some .local) && swC se.sc scope x py pos
  | _ => false
def noSwap : Expr → Bool
  | .DictComp .. => true
  | e => !cmB e
def stepS (ge : GEnv) (rE rT : RE) (r : RSt) (se : SEnv) (m : S) (st : Stmt) : Bool := match m with
  | .no => true
  | .pass => (match st with | .Pass _ => true | _ => false)
  | .brk => (match st with | .Break _ => true | _ => false)
  | .cnt => (match st with | .Continue _ => true | _ => false)
  | .ex m => (match st with | .Expr e _ => rE se m e && !cmB e | _ => false)
  | .ret _ m => (match st with | .Return (some e) _ => rE se m e | _ => false)
  | .retn => (match st with | .Return none _ => true | _ => false)
  | .iff c x y => (match st with | .If e b1 b2 _ => rT se c e && cSs r x b1 && cSs r y b2 | _ => false)
  | .set i m => (match st with
    | .Assign [.Name x py] e _ => (decide (se.N[i]? = some x) && locB se x && (se.fn x || decide (se.sc.names.lookup x = some .local)) && rE se m e && (!cmB e || decide (se.sc.names.lookup x = some .cell))) || cSetLc ge rE rT se i m e x py
    | _ => false)
  | .des ts m => (match st with | .Assign [.Tuple es j p] e _ => cTg se false (.tp ts) (.Tuple es j p) && rE se m e && !cmB e && !tuB e | _ => false)
  | .sub x i m => (match st with | .Assign [.Subscript o y _] e _ => rE se x o && rE se i y && rE se m e && !cmB e && !tuB e && !slB y | _ => false)
  | .subd x i m => (match st with | .Assign [.Subscript o y _] e _ => rE se x o && rE se i y && rE se m e && !cmB e | _ => false)
  | .fset x f m => (match st with | .Assign [.Attribute o nm _] e _ => decide (f < 20) && decide (nm = fldN f) && rE se x o && rE se m e | _ => false)
  | .fr tg it b => (match st with | .For t e b1 [] _ => cItg ge se (rE se) it tg e t se && cSs r b b1 | _ => false)
  | .whl c b => (match st with | .While e b1 [] _ => rT se c e && cSs r b b1 | _ => false)
  | .rai _ _ => false
  | .tryx _ _ => false
/-- checked with fuel n -/
def chkS (ge : GEnv) (rE rT : RE) (se : SEnv) : Nat → RSt
  | 0 => fun _ _ => false
  | n + 1 => stepS ge rE rT (chkS ge rE rT se n) se
section
variable {Γ : Run} {I : Info} {G : Tab} {k : Nat} {a b : Nat → List Val → MH Val} {X : Cx} {se : SEnv} {ge : GEnv}
theorem cSs_ok {r : RSt} {C : Cl} (hr : ∀ m s, r m s = true → SS Γ X s (exS C m)) : ∀ {ms : List S} {ss : List Stmt}, cSs r ms ss = true → SSs Γ X ss (exSs C ms)
  | [], [], _ => sss_nil
  | [], _ :: _, h => by cases h
  | _ :: _, [], h => by cases h
  | m :: ms, s :: ss, h => by
    unfold cSs at h
    rw [Bool.and_eq_true] at h
    exact sss_cons (hr m s h.1) (cSs_ok hr h.2)
theorem sw_att {e o : Expr} {nm : Str} {p' : Pos} {l : Nat} {env : Env} : swapsWith e (some (.Attribute o nm p')) l env = pure false := by
  unfold swapsWith
  cases e <;> rfl
theorem sw_cell {e : Expr} {y : Str} {p' : Pos} {l : Nat} {env : Env} (h : env.scope.names.lookup y = some .cell) : swapsWith e (some (.Name y p')) l env = pure false := by
  have ky : env.kindOf y = some .cell := h
  unfold swapsWith
  cases e <;> first | rfl | (simp only [ky]; cases (env.blockKind == .function) <;> rfl)
theorem cSetLc_ok (x : XF Γ I G k a b X se) (gf : GF Γ I G ge) {r rT : RE} (hr : RS_ Γ I G k a b r) (hT : RT_ Γ I G k a b rT) {i : Nat} {m : E} {e : Expr} {y : Str} {py pos : Pos} (h : cSetLc ge r rT se i m e y py = true) : SS Γ X (.Assign [.Name y py] e pos) (exS (G.cl a b) (.set i m)) := by
  unfold cSetLc at h
  split at h
  · rename_i ee gs scope p
    rw [Bool.and_eq_true, Bool.and_eq_true, Bool.and_eq_true, decide_eq_true_eq, decide_eq_true_eq] at h
    obtain ⟨⟨⟨h1, h2⟩, h3⟩, h4⟩ := h
    have hy : X.N[i]? = some y := by rw [x.hN]; exact h2
    have hl : X.env.scope.names.lookup y = some .local := by rw [x.hsc]; exact h3
    have hw : swC X.env.scope scope y py p = true := h4
    cases m with
    | lc mm own tg it ifs z =>
      match gs, h1 with
      | [⟨et, ei, efs, 0⟩], h1 =>
        have q := (cLc1_ok x gf hr hT h1).ss (m := mm) (pos := p) (i := i) (y := y) (py := py) (spos := pos) x.T.calm x.nd x.kind hy hl hw
        rw [own_map] at q
        exact q
    | lc2 mm own tg it ifs tg1 it1 ifs1 z =>
      match gs, h1 with
      | [⟨et, ei, efs, 0⟩, ⟨et1, ei1, efs1, 0⟩], h1 =>
        have q := (cLc2_ok x gf hr hT h1).ss (m := mm) (pos := p) (i := i) (y := y) (py := py) (spos := pos) x.T.calm x.nd x.kind hy hl hw
        rw [own_map] at q
        exact q
    | _ => cases h1
  · cases h
theorem stepS_ok (x : XF Γ I G k a b X se) (gf : GF Γ I G ge) (po : PassesOwn (model X.prog X.w) X.A X.env X.xe) {rE rT : RE} (hE : RS_ Γ I G k a b rE) (hT : RT_ Γ I G k a b rT) {r : RSt} (hr : ∀ m s, r m s = true → SS Γ X s (exS (G.cl a b) m)) {m : S} {st : Stmt} (h : stepS ge rE rT r se m st = true) : SS Γ X st (exS (G.cl a b) m) := by
  have hE' : ∀ m e, rE se m e = true → SE Γ X e (evE (G.cl a b) m) := fun m e q => hE X se m e x q
  have hT' : ∀ m e, rT se m e = true → ST Γ X e (evT (G.cl a b) m) := fun m e q => hT X se m e x q
  have cu := x.T.cu
  unfold stepS at h
  cases m with
  | no => exact ss_no
  | pass => dsimp only at h; split at h; · exact ss_pass
            · cases h
  | brk => dsimp only at h; split at h; · exact ss_brk
           · cases h
  | cnt => dsimp only at h; split at h; · exact ss_cnt
           · cases h
  | ex m =>
    dsimp only at h
    split at h
    · rw [Bool.and_eq_true, Bool.not_eq_true'] at h; exact ss_ex (hE' _ _ h.1) h.2
    · cases h
  | ret bb m =>
    dsimp only at h
    split at h
    · exact ss_ret (hE' _ _ h)
    · cases h
  | retn => dsimp only at h; split at h; · exact ss_retn
            · cases h
  | iff c u v =>
    dsimp only at h
    split at h
    · rw [Bool.and_eq_true, Bool.and_eq_true] at h
      exact ss_iff (hT' _ _ h.1.1) (cSs_ok hr h.1.2) (cSs_ok hr h.2)
    · cases h
  | set i m =>
    dsimp only at h
    split at h
    · rename_i y py e pos
      rw [Bool.or_eq_true] at h
      rcases h with h | h
      · rw [Bool.and_eq_true, Bool.and_eq_true, Bool.and_eq_true, Bool.and_eq_true, decide_eq_true_eq, Bool.or_eq_true, decide_eq_true_eq] at h
        obtain ⟨⟨⟨⟨h1, h2⟩, h3⟩, h4⟩, h5⟩ := h
        rw [Bool.or_eq_true, Bool.not_eq_true', decide_eq_true_eq] at h5
        exact ss_set x.nd (by rw [x.hN]; exact h1) (x.loc h2) (h3.elim (fun z => .inl (x.fn _ z)) fun z => .inr (by rw [x.hsc]; exact z)) (hE' _ _ h4) (h5.elim swap_no fun z => sw_cell (by rw [x.hsc]; exact z))
      · exact cSetLc_ok x gf hE hT h
    · cases h
  | des ts m =>
    dsimp only at h
    split at h
    · rw [Bool.and_eq_true, Bool.and_eq_true, Bool.and_eq_true, Bool.not_eq_true', Bool.not_eq_true'] at h
      exact ss_des (cTg_ok x _ h.1.1.1) (hE' _ _ h.1.1.2) h.1.2 h.2
    · cases h
  | sub u i m =>
    dsimp only at h
    split at h
    · rw [Bool.and_eq_true, Bool.and_eq_true, Bool.and_eq_true, Bool.and_eq_true, Bool.and_eq_true, Bool.not_eq_true', Bool.not_eq_true', Bool.not_eq_true'] at h
      obtain ⟨⟨⟨⟨⟨h1, h2⟩, h3⟩, h4⟩, h5⟩, h6⟩ := h
      exact ss_sub (hE' _ _ h1) (hE' _ _ h2) (hE' _ _ h3) h4 h5 h6
    · cases h
  | subd u i m =>
    dsimp only at h
    split at h
    · rw [Bool.and_eq_true, Bool.and_eq_true, Bool.and_eq_true, Bool.not_eq_true'] at h
      exact ss_subd (by omega) (hE' _ _ h.1.1.1) (hE' _ _ h.1.1.2) (hE' _ _ h.1.2) h.2
    · cases h
  | fset u f m =>
    dsimp only at h
    split at h
    · rw [Bool.and_eq_true, Bool.and_eq_true, Bool.and_eq_true, decide_eq_true_eq, decide_eq_true_eq] at h
      exact ss_fset h.1.1.2 h.1.1.1 x.T.hK (fun c => by rw [← x.T.hK]; exact x.T.cls c) (gf.na _ h.1.1.1) (hE' _ _ h.1.2) (hE' _ _ h.2) fun env => sw_att
    · cases h
  | fr tg it bb =>
    dsimp only at h
    split at h
    · rw [Bool.and_eq_true] at h
      obtain ⟨q1, q2, q3⟩ := cItg_ok x gf hE' h.1
      exact ss_for q3 po x.T.calm q1 (q2 X x) (cSs_ok hr h.2)
    · cases h
  | whl c bb =>
    dsimp only at h
    split at h
    · rw [Bool.and_eq_true] at h
      exact ss_whl po (hT' _ _ h.1) (cSs_ok hr h.2)
    · cases h
  | rai c e => cases h
  | tryx u v => cases h
theorem chkS_ok (x : XF Γ I G k a b X se) (gf : GF Γ I G ge) (po : PassesOwn (model X.prog X.w) X.A X.env X.xe) {rE rT : RE} (hE : RS_ Γ I G k a b rE) (hT : RT_ Γ I G k a b rT) : ∀ (n : Nat) (m : S) (st : Stmt), chkS ge rE rT se n m st = true → SS Γ X st (exS (G.cl a b) m)
  | 0, m, st, h => by cases h
  | n + 1, m, st, h => stepS_ok x gf po hE hT (chkS_ok x gf po hE hT n) h
/-- a body, checked: fuel n -/
def chkB (ge : GEnv) (n : Nat) (se : SEnv) (ms : List S) (body : List Stmt) : Bool := cSs (chkS ge (chkE ge n).1 (chkE ge n).2 se n) ms body
theorem chkB_ok (x : XF Γ I G k a b X se) (gf : GF Γ I G ge) (po : PassesOwn (model X.prog X.w) X.A X.env X.xe) {n : Nat} {ms : List S} {body : List Stmt} (h : chkB ge n se ms body = true) : SSs Γ X body (exSs (G.cl a b) ms) :=
  cSs_ok (chkS_ok x gf po (chk_ok gf n).1 (chk_ok gf n).2 n) h
end
end MS

set_option Elab.async false
set_option linter.all false
set_option maxRecDepth 100000
/-! MTH: defs, checked. -/
namespace MS
open PySem PySem.Spec PyProof.Rows L2
def notCl : Str → Bool := fun x => !(x == "__class__")
section
variable {Γ : Run} {I : Info} {G : Tab} {ge : GEnv}
theorem TopK.xf {k : Nat} {a b : Nat → List Val → MH Val} {X : Cx} {N : List Str} {sc : Scope} (S : Same Γ X) (T : Ctx Γ X (G.cl a b) I k) (U : TopK X N sc) : XF Γ I G k a b X ⟨N, sc, notCl⟩ := by
  refine ⟨S, T, U.hN, by rw [U.hN]; exact U.nd, U.hsc, by rw [U.hsc]; exact U.kind, fun x hx => U.fn x ?_⟩
  have hx : (!(x == ("__class__" : Str))) = true := hx
  rw [Bool.not_eq_true'] at hx
  exact hx
theorem fn_sound {f n : Nat} {N : List Str} {body : List Stmt} {scope : Scope} {d : FnD} (F : FnFact Γ I f N body scope) (St : Stat Γ I G) (gf : GF Γ I G ge) (hN : N.length = d.ns) (hp : d.np = (I.ps f).length) (h : chkB ge n ⟨N, scope, notCl⟩ d.body body = true) : FnSound Γ I G f d := by
  intro k a b la lb
  exact ⟨fn_lev F St hN la lb fun X S T U => chkB_ok (TopK.xf S T U) gf U.po h, F.bd, hp⟩
/-- a statement that says super().__init__(..) -/
def cSup (rE : RE) (se : SEnv) (d f : Nat) (m : S) (st : Stmt) : Bool := match m, st with
  | .ex (.sup d' f' ms), .Expr (.Call (.Attribute (.Call (.Name y _) [] [] _) nm apos) (e :: es) [] cpos) _ => decide (d' = d) && decide (f' = f) && decide (y = "super") && decide (nm = "__init__") && cEs (rE se) ms (e :: es) && decide ((e :: es).length < 20) && (apos.endLine == cpos.line)
  | _, _ => false
def cBK (ge : GEnv) (n : Nat) (se : SEnv) (d f : Nat) : List S → List Stmt → Bool
  | [], [] => true
  | m :: ms, s :: ss => (cSup (chkE ge n).1 se d f m s || chkS ge (chkE ge n).1 (chkE ge n).2 se n m s) && cBK ge n se d f ms ss
  | _, _ => false
theorem cBK_ok {k : Nat} {a b : Nat → List Val → MH Val} {X : Cx} {se : SEnv} {n d f : Nat} {n0 : Str} {b0 : List Stmt} (x : XF Γ I G k a b X se) (gf : GF Γ I G ge) (po : PassesOwn (model X.prog X.w) X.A X.env X.xe) (SK : SupK X (Γ.cA d) n0) (hc : ∀ c, G.isa c d = true → SupC X.K (Γ.cA c) (Γ.cA d) (I.fA f)) (hpf : I.pos f = true) (hcd : (n0 == ("__classdict__" : Str)) = false) :
    ∀ {ms : List S} {ss : List Stmt}, cBK ge n se d f ms ss = true → SAts Γ X (G.cl a b) b0 ss ms
  | [], [], _ => .nil
  | [], _ :: _, h => by cases h
  | _ :: _, [], h => by cases h
  | m :: ms, s :: ss, h => by
    unfold cBK at h
    rw [Bool.and_eq_true, Bool.or_eq_true] at h
    refine .cons ?_ (cBK_ok x gf po SK hc hpf hcd h.2)
    rcases h.1 with h | h
    · unfold cSup at h
      split at h
      · rename_i d' f' ms' y p0 p1 nm ap e es cp pos
        rw [Bool.and_eq_true, Bool.and_eq_true, Bool.and_eq_true, Bool.and_eq_true, Bool.and_eq_true, Bool.and_eq_true, decide_eq_true_eq, decide_eq_true_eq, decide_eq_true_eq, decide_eq_true_eq, decide_eq_true_eq] at h
        obtain ⟨⟨⟨⟨⟨⟨rfl, rfl⟩, rfl⟩, rfl⟩, h1⟩, h2⟩, h3⟩ := h
        obtain ⟨s1, s2⟩ := cEs_ok (fun m e q => (chk_ok gf n).1 X se m e x q) h1
        exact fun W tk => pat_sup x.T hpf SK hc s1.sa s2 h2 h3 hcd tk
      · cases h
    · exact fun W tk => pat_of (chkS_ok x gf po (chk_ok gf n).1 (chk_ok gf n).2 n m s h W tk)
theorem fn_soundK {f n d f2 : Nat} {N : List Str} {body : List Stmt} {scope : Scope} {n0 : Str} {dd : FnD} (F : FnFactK Γ I f N body scope (Γ.cA d) n0) (St : Stat Γ I G) (gf : GF Γ I G ge) (hN : N.length = dd.ns) (hp : dd.np = (I.ps f).length) (hc : ∀ c, G.isa c d = true → SupC Γ.K (Γ.cA c) (Γ.cA d) (I.fA f2)) (hpf : I.pos f2 = true) (hcd : (n0 == ("__classdict__" : Str)) = false)
    (h : cBK ge n ⟨N, scope, notCl⟩ d f2 dd.body body = true) : FnSound Γ I G f dd := by
  intro k a b la lb
  exact ⟨fn_levK F St hN la lb fun X S T U SK => cBK_ok (TopK.xf S T U) gf U.po SK (fun c q => by rw [S.K]; exact hc c q) hpf hcd h, F.bd, hp⟩
/-! ### the law -/
/-- what a law promises -/
def spLaw (K : PySem.W.Frag) (most : Nat) : L2.Sp := fun vs H Q _ => ∃ (x : Addr) (ns : List Int), vs = [.ref x] ∧ SqL K H x (ns.map V.int) ∧ ns.length ≤ most ∧ ∀ H', Q (.bl true) H'
theorem law_fn {L n most : Nat} (lv : LevG Γ I (n + 1) (G.ff n).1) (hL : I.ok L = true) (hp : (I.ps L).length = 1) (ht : ∀ ns : List Int, ns.length ≤ most → ∃ h', (G.ff n).1 L [.t (.scr ns)] [] = .ok (.t (.bl true)) h') :
    FnOk Γ.P Γ.w Γ.K Γ.mg Γ.base (L2.CX Γ.P Γ.w) (n + 1) (I.fA L) (I.fd L) (I.ps L) (spLaw Γ.K most) := by
  refine (lv.fn L hL).1.imp fun vs H Q E h => ?_
  obtain ⟨x, ns, rfl, hS, hl, hQ⟩ := h
  refine ⟨hp.symm, [.t (.scr ns)], ⟨[], H, fun _ => none, []⟩, ⟨Le.refl _, (fun _ _ e => by cases e), (fun _ _ e => by cases e), rfl, (fun m n a e => by simp at e), (fun n a e => by simp at e), (fun n a e => by simp at e), (fun n ob e => by simp at e)⟩, .cons ?_ .nil, ?_⟩
  · show RT Γ H (.scr ns) (.ref x)
    simp only [RT]
    exact ⟨x, rfl, hS⟩
  · obtain ⟨h', e⟩ := ht ns hl
    rw [e]
    intro s' H' _ _ _ u ru
    rw [rv_bl.mp ru]
    exact hQ H'
end
end MS

set_option Elab.async false
set_option linter.all false
/-! PLA: plain reasoning about the interpreter: what does not touch the heap. -/
namespace MS
open PySem
theorem b_ok {α β : Type} {x : MH α} {f : α → MH β} {h h1 : List Ob} {a : α} (e : x h = .ok a h1) : MH.bind x f h = f a h1 := by unfold MH.bind; rw [e]
theorem pur_t (t : T) (h : List Ob) : pur (.t t) h = .ok t h := rfl
theorem mp_t : ∀ (ts : List T) (h : List Ob), mp pur (ts.map .t) h = .ok ts h
  | [], h => rfl
  | t :: ts, h => by
    show MH.bind (pur (.t t)) (fun y => MH.bind (mp pur (ts.map .t)) fun ys => pure (y :: ys)) h = _
    rw [b_ok (pur_t t h), b_ok (mp_t ts h)]
    rfl
theorem keep_t (ts : List T) (h : List Ob) : keep false (ts.map .t) h = .ok (.t (.lst ts)) h := by
  show MH.bind (mp pur (ts.map .t)) (fun ts => (pure (Val.t (T.lst ts)) : MH Val)) h = _
  rw [b_ok (mp_t ts h)]
  rfl
theorem trunc_self : ∀ h : List Ob, trunc h.length h = h := fun h => by
  unfold trunc
  rw [List.take_length]
  split <;> rfl
/-- the tree x at every heap, no heap touched -/
def PV (C : Cl) (loc : Loc) (e : E) (x : T) : Prop := ∀ h, evE C e loc h = .ok (.t x) h
def PVs (C : Cl) (loc : Loc) (es : List E) (xs : List T) : Prop := ∀ h, evEs C es loc h = .ok (xs.map .t) h
def PT (C : Cl) (loc : Loc) (e : E) (b : Bool) : Prop := ∀ h, evT C e loc h = .ok b h
section
variable {C : Cl} {loc : Loc}
theorem pv_var {i : Nat} {x : T} (e : loc[i]? = some (some (.t x))) : PV C loc (.var i) x := fun h => by
  show (match loc[i]? with | some (some v) => RH.ok (nrm v h) h | _ => .bad) = _
  rw [e]
  rfl
theorem pv_int {i : Int} : PV C loc (.int i) (.int i) := fun _ => rfl
theorem pv_str {s : Str} : PV C loc (.str s) (.str s) := fun _ => rfl
theorem pv_bl {b : Bool} : PV C loc (.bl b) (.bl b) := fun _ => rfl
theorem pv_non : PV C loc .non .non := fun _ => rfl
theorem pv_gl {g : Nat} {x : T} (e : C.gl g = some x) : PV C loc (.gl g) x := fun h => by
  show (match C.gl g with | some x => (pure (Val.t x) : MH Val) | none => bad) h = _
  rw [e]
  rfl
theorem pvs_nil : PVs C loc [] [] := fun _ => rfl
theorem pvs_cons {e : E} {es : List E} {x : T} {xs : List T} (a : PV C loc e x) (b : PVs C loc es xs) : PVs C loc (e :: es) (x :: xs) := fun h => by
  show MH.bind (evE C e loc) (fun v => MH.bind (evEs C es loc) fun vs => (pure (v :: vs) : MH (List Val))) h = _
  rw [b_ok (a h), b_ok (b h)]
  rfl
theorem pv_op {o : Op} {es : List E} {xs : List T} {x : T} (a : PVs C loc es xs) (e : ∀ h, opM o (xs.map .t) h = .ok (.t x) h) : PV C loc (.op o es) x := fun h => by
  show MH.bind (evEs C es loc) (fun vs => opM o vs) h = _
  rw [b_ok (a h)]
  exact e h
theorem pv_tup {es : List E} {xs : List T} (a : PVs C loc es xs) : PV C loc (.tup es) (.tup xs) := fun h => by
  show MH.bind (evEs C es loc) (fun vs => MH.bind (mp pur vs) fun ts => (pure (Val.t (T.tup ts)) : MH Val)) h = _
  rw [b_ok (a h), b_ok (mp_t xs h)]
  rfl
theorem pv_lst {es : List E} {xs : List T} (a : PVs C loc es xs) : PV C loc (.lst false es) (.lst xs) := fun h => by
  show MH.bind (evEs C es loc) (fun vs => keep false vs) h = _
  rw [b_ok (a h)]
  exact keep_t xs h
theorem pv_ifx {c a b : E} {k : Bool} {x : T} (hc : PT C loc c k) (hx : PV C loc (if k then a else b) x) : PV C loc (.ifx c a b) x := fun h => by
  show MH.bind (evT C c loc) (fun k => if k then evE C a loc else evE C b loc) h = _
  rw [b_ok (hc h)]
  cases k <;> exact hx h
theorem pv_nott {a : E} {k : Bool} (ha : PV C loc a (.bl k)) : PV C loc (.nott a) (.bl (!k)) := fun h => by
  show MH.bind (evE C a loc) (fun v => MH.bind (blV v) fun b => bl (!b)) h = _
  rw [b_ok (ha h)]
  rfl
/-- a call that is handed trees -/
theorem pv_call {f : Nat} {es : List E} {xs : List T} {x : T} {h1 : List Ob} (a : PVs C loc es xs) (e : C.fn f (xs.map .t) [] = .ok (.t x) h1) : PV C loc (.call false f es) x := fun h => by
  show MH.bind (evEs C es loc) (fun vs => callM C false f vs) h = _
  rw [b_ok (a h)]
  have q : (xs.map Val.t).all Val.isT = true := by rw [List.all_map]; exact List.all_eq_true.mpr fun _ _ => rfl
  show (if (xs.map Val.t).all Val.isT then apart (C.fn f (xs.map .t)) else bad) h = _
  rw [if_pos q]
  unfold apart
  rw [e]
theorem pv_meth {o : E} {m f c : Nat} {es : List E} {fs : List (Nat × T)} {xs : List T} {x : T} {h1 : List Ob} (a : PV C loc o (.ins c fs)) (b : PVs C loc es xs) (hm : C.mth c m = some f) (e : C.fn f (.t (.ins c fs) :: xs.map .t) [] = .ok (.t x) h1) : PV C loc (.meth false o m es) x := fun h => by
  show MH.bind (evE C o loc) (fun v => MH.bind (clsV v) fun c => match C.mth c m with | some f => MH.bind (evEs C es loc) fun vs => callM C false f (v :: vs) | none => bad) h = _
  rw [b_ok (a h), b_ok (show clsV (.t (.ins c fs)) h = .ok c h from rfl), hm]
  dsimp only
  rw [b_ok (b h)]
  have q : (Val.t (.ins c fs) :: xs.map Val.t).all Val.isT = true := by rw [List.all_cons, List.all_map]; exact List.all_eq_true.mpr fun _ _ => rfl
  show (if (Val.t (.ins c fs) :: xs.map Val.t).all Val.isT then apart (C.fn f (.t (.ins c fs) :: xs.map .t)) else bad) h = _
  rw [if_pos q]
  unfold apart
  rw [e]
theorem lcM_map {asgn : Val → Loc → Option Loc} {tst : Loc → MH Bool} {elt : Loc → MH Val} (g : T → T) : ∀ (xs : List T) (h : List Ob), (∀ x ∈ xs, ∃ l, asgn (.t x) loc = some l ∧ (∀ h, tst l h = .ok true h) ∧ ∀ h, elt l h = .ok (.t (g x)) h) →
    lcM asgn loc tst elt (xs.map .t) h = .ok ((xs.map g).map .t) h
  | [], h, _ => rfl
  | x :: xs, h, H => by
    obtain ⟨l, e1, e2, e3⟩ := H x List.mem_cons_self
    have IH := lcM_map (asgn := asgn) (tst := tst) (elt := elt) g xs h fun y hy => H y (List.mem_cons_of_mem _ hy)
    show (match asgn (.t x) loc with
      | none => bad
      | some l => MH.bind (tst l) fun b => if b then MH.bind (elt l) fun v => MH.bind (lcM asgn loc tst elt (xs.map .t)) fun vs => (pure (v :: vs) : MH (List Val)) else lcM asgn loc tst elt (xs.map .t)) h = _
    rw [e1]
    dsimp only
    rw [b_ok (e2 h), if_pos rfl, b_ok (e3 h), b_ok IH]
    rfl
/-- what a loop walks: trees, no heap touched -/
def PI (C : Cl) (loc : Loc) (it : It) (xs : List T) : Prop := ∀ h, evIt C it loc h = .ok (xs.map .t) h
theorem pv_lc {own : List Nat} {tg : Tg} {it : It} {e : E} {xs : List T} (g : T → T) (hi : PI C loc it xs) (hl : xs.length ≤ SL) (H : ∀ x ∈ xs, ∃ l, asg tg (.t x) (wipeL loc own) = some l ∧ PV C l e (g x)) : PV C loc (.lc false own tg it [] e) (.lst (xs.map g)) := fun h => by
  show MH.bind (evIt C it loc) (fun ys => if ys.length ≤ SL then noexc (MH.bind (lcM (asg tg) (wipeL loc own) (evTs C []) (evE C e) ys) fun vs => keep false vs) else bad) h = _
  rw [b_ok (hi h), if_pos (by rw [List.length_map]; exact hl)]
  have q := lcM_map (asgn := asg tg) (tst := evTs C []) (elt := evE C e) g xs h fun x hx => by
    obtain ⟨l, e1, e2⟩ := H x hx
    exact ⟨l, e1, fun _ => rfl, e2⟩
  unfold noexc
  rw [b_ok q, keep_t]
/-! ### loops -/
/-- what one turn of a loop is to bring: on, or out -/
def turn (on : Loc → List Ob → Prop) (R : RS → Prop) : RS → Prop
  | .ok (.nx l) h => on l h
  | .ok (.ct l) h => on l h
  | .ok (.bk l) h => R (.ok (.nx l) h)
  | r => R r
theorem forM_inv {tg : Tg} {body : Loc → List Ob → RS} {J : List Val → Loc → List Ob → Prop} {R : RS → Prop} (hs : ∀ x xs loc h, J (x :: xs) loc h → ∃ l, asg tg (nrm x h) loc = some l ∧ turn (J xs) R (body l h)) (he : ∀ loc h, J [] loc h → R (.ok (.nx loc) h)) :
    ∀ xs loc h, J xs loc h → R (forM tg body xs loc h)
  | [], loc, h, j => he loc h j
  | x :: xs, loc, h, j => by
    obtain ⟨l, e, t⟩ := hs x xs loc h j
    show R (match asg tg (nrm x h) loc with
      | none => .bad
      | some l => match body l h with
        | .ok (.nx l') h' => forM tg body xs l' h'
        | .ok (.ct l') h' => forM tg body xs l' h'
        | .ok (.bk l') h' => .ok (.nx l') h'
        | r => r)
    rw [e]
    dsimp only
    cases q : body l h with
    | ok f h' =>
      rw [q] at t
      cases f with
      | nx l' => exact forM_inv hs he xs l' h' t
      | ct l' => exact forM_inv hs he xs l' h' t
      | bk l' => exact t
      | ret v => exact t
    | exc e l' h' => rw [q] at t; exact t
    | bad => rw [q] at t; exact t
/-- a while loop: by a measure below its fuel -/
theorem whileM_inv {c : Loc → MH Bool} {body : Loc → List Ob → RS} {J : Nat → Loc → List Ob → Prop} {R : RS → Prop} (hs : ∀ n loc h, J n loc h → ∃ b, c loc h = .ok b h ∧ if b then ∃ m, n = m + 1 ∧ turn (J m) R (body loc h) else R (.ok (.nx loc) h)) :
    ∀ k n loc h, n < k → J n loc h → R (whileM c body k loc h)
  | 0, n, loc, h, hk, _ => absurd hk (Nat.not_lt_zero _)
  | k + 1, n, loc, h, hk, j => by
    obtain ⟨b, e, t⟩ := hs n loc h j
    show R (match c loc h with
      | .ok true h' => (match body loc h' with
        | .ok (.nx l') h'' => whileM c body k l' h''
        | .ok (.ct l') h'' => whileM c body k l' h''
        | .ok (.bk l') h'' => .ok (.nx l') h''
        | r => r)
      | .ok false h' => .ok (.nx loc) h'
      | .exc e h' => .exc e loc h'
      | .bad => .bad)
    rw [e]
    cases b with
    | false => exact t
    | true =>
      obtain ⟨m, rfl, t⟩ := t
      dsimp only
      have hm : m < k := Nat.lt_of_succ_lt_succ hk
      cases q : body loc h with
      | ok f h' =>
        rw [q] at t
        cases f with
        | nx l' => exact whileM_inv hs k m l' h' hm t
        | ct l' => exact whileM_inv hs k m l' h' hm t
        | bk l' => exact t
        | ret v => exact t
      | exc e l' h' => rw [q] at t; exact t
      | bad => rw [q] at t; exact t
/-! ### statements -/
theorem st_set {i : Nat} {e : E} {x : T} {h : List Ob} (a : PV C loc e x) : exS C (.set i e) loc h = .ok (.nx (loc.set i (some (.t x)))) h := by
  show thenE (evE C e loc) loc (fun v h => .ok (.nx (loc.set i (some v))) h) h = _
  unfold thenE
  rw [a h]
theorem st_ret {e : E} {x : T} {h : List Ob} (a : PV C loc e x) : exS C (.ret false e) loc h = .ok (.ret (.t x)) h := by
  show thenE (MH.bind (evE C e loc) fun v => MH.bind (pur v) fun x => (pure (Val.t x) : MH Val)) loc (fun v h => .ok (.ret v) h) h = _
  unfold thenE
  rw [b_ok (a h)]
  rfl
theorem st_iff {c : E} {k : Bool} {u v : List S} {h : List Ob} (a : PT C loc c k) : exS C (.iff c u v) loc h = (if k then exSs C u loc h else exSs C v loc h) := by
  show thenE (evT C c loc) loc (fun k => if k then exSs C u loc else exSs C v loc) h = _
  unfold thenE
  rw [a h]
  cases k <;> rfl
theorem ss_nx {s : S} {ss : List S} {l : Loc} {h h1 : List Ob} (a : exS C s loc h = .ok (.nx l) h1) : exSs C (s :: ss) loc h = exSs C ss l h1 := by
  show thenS (exS C s loc h) (exSs C ss) = _
  rw [a]
  rfl
theorem ss_rt {s : S} {ss : List S} {v : Val} {h h1 : List Ob} (a : exS C s loc h = .ok (.ret v) h1) : exSs C (s :: ss) loc h = .ok (.ret v) h1 := by
  show thenS (exS C s loc h) (exSs C ss) = _
  rw [a]
  rfl
theorem st_seq {tg : Tg} {e : E} {b : List S} {xs : List T} {h : List Ob} (a : PI C loc (.seq e) xs) : exS C (.fr tg (.seq e) b) loc h = forM tg (exSs C b) (xs.map .t) loc h := by
  show thenE (evIt C (.seq e) loc) loc (fun xs => forM tg (exSs C b) xs loc) h = _
  unfold thenE
  rw [a h]
theorem run_rt {d : FnD} {vs : List Val} {x : T} {h h1 : List Ob} (hl : vs.length = d.np) (a : exSs C d.body (startL d vs) h = .ok (.ret (.t x)) h1) : run C d vs h = .ok (.t x) (trunc h.length h1) := by
  unfold run
  rw [if_pos hl, a]
theorem run_rt0 {d : FnD} {vs : List Val} {x : T} {h1 : List Ob} (hl : vs.length = d.np) (a : exSs C d.body (startL d vs) [] = .ok (.ret (.t x)) h1) : run C d vs [] = .ok (.t x) [] := by
  rw [run_rt hl a]
  rfl
theorem pi_lst {e : E} {xs : List T} (a : PV C loc e (.lst xs)) : PI C loc (.seq e) xs := fun h => by
  show MH.bind (evE C e loc) walkV h = _
  rw [b_ok (a h)]
  rfl
theorem pi_tup {e : E} {xs : List T} (a : PV C loc e (.tup xs)) : PI C loc (.seq e) xs := fun h => by
  show MH.bind (evE C e loc) walkV h = _
  rw [b_ok (a h)]
  rfl
/-! ### tests -/
theorem pt_op {o : Op} {es : List E} {xs : List T} {b : Bool} (a : PVs C loc es xs) (hc : o.cmp = true) (e : ∀ h, opM o (xs.map .t) h = .ok (.t (.bl b)) h) : PT C loc (.op o es) b := fun h => by
  show MH.bind (evEs C es loc) (fun vs => MH.bind (opM o vs) (if o.cmp then blV else tru)) h = _
  rw [b_ok (a h), hc, if_pos rfl, b_ok (e h)]
  rfl
theorem pt_opt {o : Op} {es : List E} {xs : List T} {b : Bool} (a : PVs C loc es xs) (hc : o.cmp = false) (e : ∀ h, opM o (xs.map .t) h = .ok (.t (.bl b)) h) : PT C loc (.op o es) b := fun h => by
  show MH.bind (evEs C es loc) (fun vs => MH.bind (opM o vs) (if o.cmp then blV else tru)) h = _
  rw [b_ok (a h), hc, if_neg (by decide), b_ok (e h)]
  rfl
theorem pt_nott {a : E} {k : Bool} (ha : PT C loc a k) : PT C loc (.nott a) (!k) := fun h => by
  show MH.bind (evT C a loc) (fun b => (pure (!b) : MH Bool)) h = _
  rw [b_ok (ha h)]
  rfl
theorem pt_or2 {a b : E} {k l : Bool} (ha : PT C loc a k) (hb : k = false → PT C loc b l) : PT C loc (.or [a, b]) (k || l) := fun h => by
  show MH.bind (evT C a loc) (fun b1 => if b1 then (pure true : MH Bool) else MH.bind (evT C b loc) fun b2 => if b2 then (pure true : MH Bool) else pure false) h = _
  rw [b_ok (ha h)]
  cases k with
  | true => rfl
  | false =>
    rw [if_neg (by decide), b_ok (hb rfl h)]
    cases l <;> rfl
theorem pt_and2 {a b : E} {k l : Bool} (ha : PT C loc a k) (hb : k = true → PT C loc b l) : PT C loc (.and [a, b]) (k && l) := fun h => by
  show MH.bind (evT C a loc) (fun b1 => if b1 then MH.bind (evT C b loc) (fun b2 => if b2 then (pure true : MH Bool) else pure false) else (pure false : MH Bool)) h = _
  rw [b_ok (ha h)]
  cases k with
  | false => rfl
  | true =>
    rw [if_pos rfl, b_ok (hb rfl h)]
    cases l <;> rfl
theorem pt_call {f : Nat} {es : List E} {xs : List T} {b : Bool} {h1 : List Ob} (a : PVs C loc es xs) (e : C.fn f (xs.map .t) [] = .ok (.t (.bl b)) h1) : PT C loc (.call false f es) b := fun h => by
  show MH.bind (evEs C es loc) (fun vs => MH.bind (callM C false f vs) tru) h = _
  rw [b_ok (a h)]
  have q : (xs.map Val.t).all Val.isT = true := by rw [List.all_map]; exact List.all_eq_true.mpr fun _ _ => rfl
  have q2 : callM C false f (xs.map .t) h = .ok (.t (.bl b)) h := by
    show (if (xs.map Val.t).all Val.isT then apart (C.fn f (xs.map .t)) else bad) h = _
    rw [if_pos q]
    unfold apart
    rw [e]
  rw [b_ok q2]
  rfl
/-! ### operators on numbers -/
theorem o_add {i j : Int} {h : List Ob} : opM .add [.t (.int i), .t (.int j)] h = .ok (.t (.int (i + j))) h := rfl
theorem o_sub {i j : Int} {h : List Ob} : opM .sub [.t (.int i), .t (.int j)] h = .ok (.t (.int (i - j))) h := rfl
theorem o_lt {i j : Int} {h : List Ob} : opM .lt [.t (.int i), .t (.int j)] h = .ok (.t (.bl (decide (i < j)))) h := rfl
theorem o_le {i j : Int} {h : List Ob} : opM .le [.t (.int i), .t (.int j)] h = .ok (.t (.bl (decide (i ≤ j)))) h := rfl
theorem o_gt {i j : Int} {h : List Ob} : opM .gt [.t (.int i), .t (.int j)] h = .ok (.t (.bl (decide (j < i)))) h := rfl
theorem o_ge {i j : Int} {h : List Ob} : opM .ge [.t (.int i), .t (.int j)] h = .ok (.t (.bl (decide (j ≤ i)))) h := rfl
theorem o_int {i : Int} {h : List Ob} : opM .int1 [.t (.int i)] h = .ok (.t (.int i)) h := rfl
theorem o_abs {i : Int} {h : List Ob} : opM .abs [.t (.int i)] h = .ok (.t (.int (if i < 0 then -i else i))) h := rfl
theorem o_mod {i j : Int} {h : List Ob} (hj : j ≠ 0) : opM .mod [.t (.int i), .t (.int j)] h = .ok (.t (.int (i.fmod j))) h := by
  show (if decide (j ≠ 0) then int (i.fmod j) else bad) h = _
  rw [decide_eq_true hj, if_pos rfl]
  rfl
theorem o_fdv {i j : Int} {h : List Ob} (hj : L2.CDivN i j) : opM .fdv [.t (.int i), .t (.int j)] h = .ok (.t (.int (i.fdiv j))) h := by
  show (if decide (L2.CDivN i j) then int (i.fdiv j) else bad) h = _
  rw [decide_eq_true hj, if_pos rfl]
  rfl
theorem o_mul {i j : Int} {h : List Ob} (hj : L2.CMul i j) : opM .mul [.t (.int i), .t (.int j)] h = .ok (.t (.int (i * j))) h := by
  show (if decide (L2.CMul i j) then int (i * j) else bad) h = _
  rw [decide_eq_true hj, if_pos rfl]
  rfl
theorem atI_nat {α : Type} {xs : List α} {k : Nat} {x : α} (e : xs[k]? = some x) : L2.atI xs (k : Int) = some x := by
  have hk : k < xs.length := by
    rcases Nat.lt_or_ge k xs.length with q | q
    · exact q
    · rw [List.getElem?_eq_none q] at e; cases e
  unfold L2.atI L2.ixN
  rw [if_pos (Int.natCast_nonneg k), if_pos (by omega)]
  exact e
theorem o_idxl {xs : List T} {k : Nat} {x : T} {h : List Ob} (e : xs[k]? = some x) : opM .idx [.t (.lst xs), .t (.int (k : Int))] h = .ok (.t x) h := by
  show MH.bind (seqV (.t (.lst xs))) (fun ys => match L2.atI ys (k : Int) with | some v => fun h => RH.ok (nrm v h) h | none => bad) h = _
  rw [b_ok (show seqV (.t (.lst xs)) h = .ok (xs.map .t) h from rfl), atI_nat (x := Val.t x) (by rw [List.getElem?_map, e]; rfl)]
  rfl
theorem o_idxt {xs : List T} {k : Nat} {x : T} {h : List Ob} (e : xs[k]? = some x) : opM .idx [.t (.tup xs), .t (.int (k : Int))] h = .ok (.t x) h := by
  show MH.bind (seqV (.t (.tup xs))) (fun ys => match L2.atI ys (k : Int) with | some v => fun h => RH.ok (nrm v h) h | none => bad) h = _
  rw [b_ok (show seqV (.t (.tup xs)) h = .ok (xs.map .t) h from rfl), atI_nat (x := Val.t x) (by rw [List.getElem?_map, e]; rfl)]
  rfl
theorem o_lenl {xs : List T} {h : List Ob} : opM .len [.t (.lst xs)] h = .ok (.t (.int (xs.length : Int))) h := by
  show RH.ok (Val.t (.int ((xs.map Val.t).length : Int))) h = _
  rw [List.length_map]
theorem o_lent {xs : List T} {h : List Ob} : opM .len [.t (.tup xs)] h = .ok (.t (.int (xs.length : Int))) h := by
  show RH.ok (Val.t (.int ((xs.map Val.t).length : Int))) h = _
  rw [List.length_map]
theorem o_lens {s : Str} {h : List Ob} (hs : s.length ≤ SL) : opM .len [.t (.str s)] h = .ok (.t (.int (s.length : Int))) h := by
  show (if s.length ≤ SL then int s.length else bad) h = _
  rw [if_pos hs]
  rfl
theorem o_fld {f c : Nat} {fs : List (Nat × T)} {x : T} {h : List Ob} (e : fs.lookup f = some x) : opM (.fld f) [.t (.ins c fs)] h = .ok (.t x) h := by
  show fldV f (.t (.ins c fs)) h = _
  simp only [fldV, e]
theorem o_listt {ns : List T} {h : List Ob} : opM (.list false) [.t (.tup ns)] h = .ok (.t (.lst ns)) h := keep_t ns h
theorem o_listl {ns : List T} {h : List Ob} : opM (.list false) [.t (.lst ns)] h = .ok (.t (.lst ns)) h := keep_t ns h
/-- a search: a loop that goes out with the first find -/
def Found (Inv : Loc → Prop) (h : List Ob) (o : Option T) (r : RS) : Prop := match o with
  | some x => r = .ok (.ret (.t x)) h
  | none => ∃ l, r = .ok (.nx l) h ∧ Inv l
theorem forM_find {tg : Tg} {body : Loc → List Ob → RS} {Inv : Loc → Prop} {h : List Ob} (f : T → Option T) : ∀ (xs : List T) (loc : Loc), (∀ x ∈ xs, ∀ loc, Inv loc → ∃ l, asg tg (.t x) loc = some l ∧ Found Inv h (f x) (body l h)) → Inv loc → Found Inv h (xs.findSome? f) (forM tg body (xs.map .t) loc h)
  | [], loc, _, i => ⟨loc, rfl, i⟩
  | x :: xs, loc, H, i => by
    obtain ⟨l, e, t⟩ := H x List.mem_cons_self loc i
    have IH := fun l => forM_find (tg := tg) (body := body) f xs l fun y hy => H y (List.mem_cons_of_mem _ hy)
    have q : forM tg body ((x :: xs).map .t) loc h = (match body l h with
        | .ok (.nx l') h' => forM tg body (xs.map .t) l' h'
        | .ok (.ct l') h' => forM tg body (xs.map .t) l' h'
        | .ok (.bk l') h' => .ok (.nx l') h'
        | r => r) := by
      show (match asg tg (.t x) loc with
        | none => RS.bad
        | some l => match body l h with
          | .ok (.nx l') h' => forM tg body (xs.map .t) l' h'
          | .ok (.ct l') h' => forM tg body (xs.map .t) l' h'
          | .ok (.bk l') h' => .ok (.nx l') h'
          | r => r) = _
      rw [e]
    rw [q, List.findSome?_cons]
    cases hf : f x with
    | some r =>
      rw [hf] at t
      have t : body l h = .ok (.ret (.t r)) h := t
      rw [t]
      exact rfl
    | none =>
      rw [hf] at t
      obtain ⟨l', t1, t2⟩ := t
      rw [t1]
      exact IH l' t2
/-! ### equality of plain values -/
theorem pt_eq {neg : Bool} {a b : E} {x y : T} {r : Bool} (ha : PV C loc a x) (hb : PV C loc b y) (e : scal2 (.t x) (.t y) = some r) : PT C loc (.eqq neg a b) (r ^^ neg) := fun h => by
  show MH.bind (evE C a loc) (fun v => MH.bind (evE C b loc) fun w => MH.bind (eqM C neg v w) blV) h = _
  rw [b_ok (ha h), b_ok (hb h)]
  have q : eqM C neg (.t x) (.t y) h = .ok (.t (.bl (r ^^ neg))) h := by
    unfold eqM
    rw [e]
  rw [b_ok q]
  rfl
theorem pt_eqs {neg : Bool} {a b : E} {s t : Str} (ha : PV C loc a (.str s)) (hb : PV C loc b (.str t)) : PT C loc (.eqq neg a b) (decide (s = t) ^^ neg) := pt_eq ha hb rfl
theorem pt_eqi {neg : Bool} {a b : E} {s t : Int} (ha : PV C loc a (.int s)) (hb : PV C loc b (.int t)) : PT C loc (.eqq neg a b) (decide (s = t) ^^ neg) := pt_eq ha hb rfl
/-- a search over told items -/
theorem forM_findA {A : Type} {tg : Tg} {body : Loc → List Ob → RS} {Inv : Loc → Prop} {h : List Ob} (it : A → T) (f : A → Option T) : ∀ (xs : List A) (loc : Loc), (∀ x ∈ xs, ∀ loc, Inv loc → ∃ l, asg tg (.t (it x)) loc = some l ∧ Found Inv h (f x) (body l h)) → Inv loc → Found Inv h (xs.findSome? f) (forM tg body ((xs.map it).map .t) loc h)
  | [], loc, _, i => ⟨loc, rfl, i⟩
  | x :: xs, loc, H, i => by
    obtain ⟨l, e, t⟩ := H x List.mem_cons_self loc i
    have IH := fun l => forM_findA (tg := tg) (body := body) it f xs l fun y hy => H y (List.mem_cons_of_mem _ hy)
    have q : forM tg body (((x :: xs).map it).map .t) loc h = (match body l h with
        | .ok (.nx l') h' => forM tg body ((xs.map it).map .t) l' h'
        | .ok (.ct l') h' => forM tg body ((xs.map it).map .t) l' h'
        | .ok (.bk l') h' => .ok (.nx l') h'
        | r => r) := by
      show (match asg tg (.t (it x)) loc with
        | none => RS.bad
        | some l => match body l h with
          | .ok (.nx l') h' => forM tg body ((xs.map it).map .t) l' h'
          | .ok (.ct l') h' => forM tg body ((xs.map it).map .t) l' h'
          | .ok (.bk l') h' => .ok (.nx l') h'
          | r => r) = _
      rw [e]
    rw [q, List.findSome?_cons]
    cases hf : f x with
    | some r =>
      rw [hf] at t
      have t : body l h = .ok (.ret (.t r)) h := t
      rw [t]
      exact rfl
    | none =>
      rw [hf] at t
      obtain ⟨l', t1, t2⟩ := t
      rw [t1]
      exact IH l' t2
end
end MS

set_option Elab.async false
set_option linter.all false
/-! PLB: the interpreter evaluated by simp. -/
namespace MS
open PySem
section
variable {C : Cl} {loc : Loc} {h : List Ob}
@[simp] theorem x_bind {α β : Type} (m : MH α) (f : α → MH β) (h : List Ob) : MH.bind m f h = (match m h with | .ok a h' => f a h' | .exc e h' => .exc e h' | .bad => .bad) := id rfl
@[simp] theorem x_pure {α : Type} (a : α) (h : List Ob) : (pure a : MH α) h = .ok a h := id rfl
@[simp] theorem x_bind2 {α β : Type} (m : MH α) (f : α → MH β) (h : List Ob) : (m >>= f) h = (match m h with | .ok a h' => f a h' | .exc e h' => .exc e h' | .bad => .bad) := id rfl
@[simp] theorem x_bad {α : Type} (h : List Ob) : (bad : MH α) h = .bad := id rfl
@[simp] theorem x_var (i : Nat) : evE C (.var i) loc h = (match loc[i]? with | some (some v) => .ok (nrm v h) h | _ => .bad) := id rfl
@[simp] theorem x_int (i : Int) : evE C (.int i) loc h = .ok (.t (.int i)) h := id rfl
@[simp] theorem x_str (i : Str) : evE C (.str i) loc h = .ok (.t (.str i)) h := id rfl
@[simp] theorem x_bl (i : Bool) : evE C (.bl i) loc h = .ok (.t (.bl i)) h := id rfl
@[simp] theorem x_non : evE C .non loc h = .ok (.t .non) h := id rfl
@[simp] theorem x_gl (g : Nat) : evE C (.gl g) loc h = (match C.gl g with | some x => .ok (.t x) h | none => .bad) := by show (match C.gl g with | some x => (pure (Val.t x) : MH Val) | none => bad) h = _; cases C.gl g <;> rfl
@[simp] theorem x_op (o : Op) (es : List E) : evE C (.op o es) loc h = MH.bind (evEs C es loc) (fun vs => opM o vs) h := id rfl
@[simp] theorem x_lm (o : Op) (l : E) (es : List E) : evE C (.lm o l es) loc h = MH.bind (evE C l loc) (fun a => MH.bind (isSeq o.tp a) fun _ => MH.bind (evEs C es loc) fun vs => opM o (a :: vs)) h := id rfl
@[simp] theorem x_eqq (neg : Bool) (a b : E) : evE C (.eqq neg a b) loc h = MH.bind (evE C a loc) (fun v => MH.bind (evE C b loc) fun w => eqM C neg v w) h := id rfl
@[simp] theorem x_inn (neg : Bool) (a b : E) : evE C (.inn neg a b) loc h = MH.bind (evE C a loc) (fun v => MH.bind (evE C b loc) fun w => innM C neg v w) h := id rfl
@[simp] theorem x_ch (o1 o2 : Op) (a b c : E) : evE C (.ch o1 o2 a b c) loc h = MH.bind (evE C a loc) (fun x => MH.bind (evE C b loc) fun y => MH.bind (opM o1 [x, y]) fun r => MH.bind (blV r) fun k =>
    if k then MH.bind (evE C c loc) fun z => opM o2 [y, z] else bl false) h := rfl
@[simp] theorem x_and2 (a b : E) : evE C (.and [a, b]) loc h = MH.bind (evE C a loc) (fun v => MH.bind (blV v) fun k => if k then evE C b loc else bl false) h := id rfl
@[simp] theorem x_or2 (a b : E) : evE C (.or [a, b]) loc h = MH.bind (evE C a loc) (fun v => MH.bind (blV v) fun k => if k then bl true else evE C b loc) h := id rfl
@[simp] theorem x_nott (a : E) : evE C (.nott a) loc h = MH.bind (evE C a loc) (fun v => MH.bind (blV v) fun b => bl (!b)) h := id rfl
@[simp] theorem x_ifx (c a b : E) : evE C (.ifx c a b) loc h = MH.bind (evT C c loc) (fun k => if k then evE C a loc else evE C b loc) h := id rfl
@[simp] theorem x_tup (es : List E) : evE C (.tup es) loc h = MH.bind (evEs C es loc) (fun vs => MH.bind (mp pur vs) fun ts => pure (.t (.tup ts))) h := id rfl
@[simp] theorem x_lst (m : Bool) (es : List E) : evE C (.lst m es) loc h = MH.bind (evEs C es loc) (fun vs => keep m vs) h := id rfl
@[simp] theorem x_dsp (m : Bool) (kvs : List E) : evE C (.dsp m kvs) loc h = MH.bind (newN (.dct [])) (fun n => MH.bind (evPs C kvs loc []) fun acc => MH.bind (fillD n acc) fun _ => if m then pure (.ref n) else MH.bind (pur (.ref n)) fun x => pure (.t x)) h := id rfl
@[simp] theorem x_call (raw : Bool) (f : Nat) (es : List E) : evE C (.call raw f es) loc h = MH.bind (evEs C es loc) (fun vs => callM C raw f vs) h := id rfl
@[simp] theorem x_new (c nk : Nat) (es : List E) : evE C (.new c nk es) loc h = MH.bind (evEs C es loc) (fun vs => newM C false c vs) h := id rfl
@[simp] theorem x_meth (raw : Bool) (o : E) (m : Nat) (es : List E) : evE C (.meth raw o m es) loc h = MH.bind (evE C o loc) (fun v => MH.bind (clsV v) fun c => match C.mth c m with
    | some f => MH.bind (evEs C es loc) fun vs => callM C raw f (v :: vs)
    | none => bad) h := rfl
@[simp] theorem x_sup (d f : Nat) (es : List E) (v : Val) (r : Loc) : evE C (.sup d f es) (some v :: r) h = MH.bind (clsV v) (fun c => if C.isa c d then MH.bind (evEs C es (some v :: r)) fun vs => C.fn f (v :: vs) else bad) h := id rfl
@[simp] theorem x_isi (a : E) (sp : List Sp) : evE C (.isi a sp) loc h = MH.bind (evE C a loc) (fun v => isiM C v sp) h := id rfl
@[simp] theorem x_nil : evEs C [] loc h = .ok [] h := id rfl
@[simp] theorem x_cons (e : E) (es : List E) : evEs C (e :: es) loc h = MH.bind (evE C e loc) (fun v => MH.bind (evEs C es loc) fun vs => pure (v :: vs)) h := id rfl
/-! tests -/
@[simp] theorem y_and2 (a b : E) : evT C (.and [a, b]) loc h = MH.bind (evT C a loc) (fun k => if k then MH.bind (evT C b loc) (fun l => if l then (pure true : MH Bool) else pure false) else pure false) h := id rfl
@[simp] theorem y_or2 (a b : E) : evT C (.or [a, b]) loc h = MH.bind (evT C a loc) (fun k => if k then (pure true : MH Bool) else MH.bind (evT C b loc) (fun l => if l then (pure true : MH Bool) else pure false)) h := id rfl
@[simp] theorem y_or3 (a b c : E) : evT C (.or [a, b, c]) loc h = MH.bind (evT C a loc) (fun k => if k then (pure true : MH Bool) else MH.bind (evT C b loc) (fun l => if l then (pure true : MH Bool) else MH.bind (evT C c loc) (fun l => if l then (pure true : MH Bool) else pure false))) h := id rfl
@[simp] theorem y_nott (a : E) : evT C (.nott a) loc h = MH.bind (evT C a loc) (fun b => pure (!b)) h := id rfl
@[simp] theorem y_var (i : Nat) : evT C (.var i) loc h = (match loc[i]? with | some (some v) => tru (nrm v h) h | _ => .bad) := id rfl
@[simp] theorem y_op (o : Op) (es : List E) : evT C (.op o es) loc h = MH.bind (evEs C es loc) (fun vs => MH.bind (opM o vs) (if o.cmp then blV else tru)) h := id rfl
@[simp] theorem y_lm (o : Op) (l : E) (es : List E) : evT C (.lm o l es) loc h = MH.bind (evE C l loc) (fun a => MH.bind (isSeq o.tp a) fun _ => MH.bind (evEs C es loc) fun vs => MH.bind (opM o (a :: vs)) tru) h := id rfl
@[simp] theorem y_eqq (neg : Bool) (a b : E) : evT C (.eqq neg a b) loc h = MH.bind (evE C a loc) (fun v => MH.bind (evE C b loc) fun w => MH.bind (eqM C neg v w) blV) h := id rfl
@[simp] theorem y_inn (neg : Bool) (a b : E) : evT C (.inn neg a b) loc h = MH.bind (evE C a loc) (fun v => MH.bind (evE C b loc) fun w => MH.bind (innM C neg v w) blV) h := id rfl
@[simp] theorem y_ch (o1 o2 : Op) (a b c : E) : evT C (.ch o1 o2 a b c) loc h = MH.bind (evE C a loc) (fun x => MH.bind (evE C b loc) fun y => MH.bind (opM o1 [x, y]) fun r => MH.bind (blV r) fun k =>
    if k then MH.bind (evE C c loc) fun z => MH.bind (opM o2 [y, z]) blV else pure false) h := rfl
@[simp] theorem y_call (raw : Bool) (f : Nat) (es : List E) : evT C (.call raw f es) loc h = MH.bind (evEs C es loc) (fun vs => MH.bind (callM C raw f vs) tru) h := id rfl
@[simp] theorem y_meth (raw : Bool) (o : E) (m : Nat) (es : List E) : evT C (.meth raw o m es) loc h = MH.bind (evE C o loc) (fun v => MH.bind (clsV v) fun c => match C.mth c m with
    | some f => MH.bind (evEs C es loc) fun vs => MH.bind (callM C raw f (v :: vs)) tru
    | none => bad) h := rfl
@[simp] theorem y_isi (a : E) (sp : List Sp) : evT C (.isi a sp) loc h = MH.bind (evE C a loc) (fun v => MH.bind (isiM C v sp) tru) h := id rfl
/-! statements -/
@[simp] theorem t_thenE {α : Type} (m : MH α) (k : α → List Ob → RS) : thenE m loc k h = (match m h with | .ok a h' => k a h' | .exc e h' => .exc e loc h' | .bad => .bad) := id rfl
@[simp] theorem t_nx (l : Loc) (k : Loc → List Ob → RS) : thenS (.ok (.nx l) h) k = k l h := id rfl
@[simp] theorem t_rt (v : Val) (k : Loc → List Ob → RS) : thenS (.ok (.ret v) h) k = .ok (.ret v) h := id rfl
@[simp] theorem t_bk (l : Loc) (k : Loc → List Ob → RS) : thenS (.ok (.bk l) h) k = .ok (.bk l) h := id rfl
@[simp] theorem t_ct (l : Loc) (k : Loc → List Ob → RS) : thenS (.ok (.ct l) h) k = .ok (.ct l) h := id rfl
@[simp] theorem t_ex (e : Ex) (l : Loc) (k : Loc → List Ob → RS) : thenS (.exc e l h) k = .exc e l h := id rfl
@[simp] theorem s_set (i : Nat) (e : E) : exS C (.set i e) loc h = thenE (evE C e loc) loc (fun v h => .ok (.nx (loc.set i (some v))) h) h := id rfl
@[simp] theorem s_ex (e : E) : exS C (.ex e) loc h = thenE (evE C e loc) loc (fun _ h => .ok (.nx loc) h) h := id rfl
@[simp] theorem s_subd (a i e : E) : exS C (.subd a i e) loc h = thenE (MH.bind (evE C e loc) fun v => MH.bind (evE C a loc) fun a => MH.bind (evE C i loc) fun i => setDM a i v) loc (fun _ h => .ok (.nx loc) h) h := id rfl
@[simp] theorem s_sub (a i e : E) : exS C (.sub a i e) loc h = thenE (MH.bind (evE C e loc) fun v => MH.bind (evE C a loc) fun a => MH.bind (evE C i loc) fun i => setItM a i v) loc (fun _ h => .ok (.nx loc) h) h := id rfl
@[simp] theorem s_fset (a : E) (f : Nat) (e : E) : exS C (.fset a f e) loc h = thenE (MH.bind (evE C e loc) fun v => MH.bind (evE C a loc) fun a => setFM f a v) loc (fun _ h => .ok (.nx loc) h) h := id rfl
@[simp] theorem s_rett (e : E) : exS C (.ret true e) loc h = thenE (evE C e loc) loc (fun v h => .ok (.ret v) h) h := id rfl
@[simp] theorem s_retf (e : E) : exS C (.ret false e) loc h = thenE (MH.bind (evE C e loc) fun v => MH.bind (pur v) fun x => (pure (.t x) : MH Val)) loc (fun v h => .ok (.ret v) h) h := id rfl
@[simp] theorem s_retn : exS C .retn loc h = .ok (.ret (.t .non)) h := id rfl
@[simp] theorem s_pass : exS C .pass loc h = .ok (.nx loc) h := id rfl
theorem ite_ap {α β : Type} (k : Bool) (f g : α → β) (x : α) : (if k then f else g) x = if k then f x else g x := by cases k <;> rfl
@[simp] theorem s_iff (c : E) (a b : List S) : exS C (.iff c a b) loc h = thenE (evT C c loc) loc (fun k h => if k then exSs C a loc h else exSs C b loc h) h := by
  show thenE (evT C c loc) loc (fun k => if k then exSs C a loc else exSs C b loc) h = _
  congr 1
  funext k
  cases k <;> rfl
@[simp] theorem s_seq (tg : Tg) (e : E) (b : List S) : exS C (.fr tg (.seq e) b) loc h = thenE (evIt C (.seq e) loc) loc (fun xs h => forM tg (exSs C b) xs loc h) h := id rfl
@[simp] theorem s_rng (tg : Tg) (e : E) (b : List S) : exS C (.fr tg (.rng1 e) b) loc h = thenE (evIt C (.rng1 e) loc) loc (fun xs h => forM tg (exSs C b) xs loc h) h := id rfl
@[simp] theorem s_enum (tg : Tg) (e : E) (b : List S) : exS C (.fr tg (.enum e) b) loc h = thenE (evIt C (.enum e) loc) loc (fun xs h => forM tg (exSs C b) xs loc h) h := id rfl
@[simp] theorem s_whl (c : E) (b : List S) : exS C (.whl c b) loc h = whileM (evT C c) (exSs C b) C.wf loc h := id rfl
@[simp] theorem s_nil : exSs C [] loc h = .ok (.nx loc) h := id rfl
@[simp] theorem s_cons (s : S) (ss : List S) : exSs C (s :: ss) loc h = thenS (exS C s loc h) (exSs C ss) := id rfl
@[simp] theorem i_seq (e : E) : evIt C (.seq e) loc h = MH.bind (evE C e loc) walkV h := id rfl
@[simp] theorem i_rng (e : E) : evIt C (.rng1 e) loc h = MH.bind (evE C e loc) (fun v => MH.bind (intV v) fun i => rngM 0 i) h := id rfl
@[simp] theorem i_enum (e : E) : evIt C (.enum e) loc h = MH.bind (evE C e loc) (fun v => MH.bind (lstP v) fun xs => pure ((enumT 0 xs).map .t)) h := id rfl
/-! values -/
@[simp] theorem v_nrmt (x : T) : nrm (.t x) h = .t x := id rfl
theorem v_nrmr (n : Nat) : nrm (.ref n) h = (match h[n]? with | some (.frz x) => .t x | _ => .ref n) := rfl
@[simp] theorem v_pur (x : T) : pur (.t x) h = .ok x h := id rfl
@[simp] theorem v_mp0 : mp pur [] h = .ok [] h := id rfl
@[simp] theorem v_mp1 (v : Val) (vs : List Val) : mp pur (v :: vs) h = MH.bind (pur v) (fun y => MH.bind (mp pur vs) fun ys => pure (y :: ys)) h := id rfl
@[simp] theorem v_mpm (ts : List T) : mp pur (ts.map .t) h = .ok ts h := mp_t ts h
@[simp] theorem v_blV (b : Bool) : blV (.t (.bl b)) h = .ok b h := id rfl
@[simp] theorem v_intV (b : Int) : intV (.t (.int b)) h = .ok b h := id rfl
@[simp] theorem v_bl (b : Bool) : bl b h = .ok (.t (.bl b)) h := id rfl
@[simp] theorem v_int (b : Int) : int b h = .ok (.t (.int b)) h := id rfl
@[simp] theorem v_truB (b : Bool) : tru (.t (.bl b)) h = .ok b h := id rfl
@[simp] theorem v_cls (c : Nat) (fs : List (Nat × T)) : clsV (.t (.ins c fs)) h = .ok c h := id rfl
@[simp] theorem v_isT (x : T) : Val.isT (.t x) = true := id rfl
@[simp] theorem v_isR (x : Nat) : Val.isT (.ref x) = false := id rfl
@[simp] theorem v_raw (f : Nat) (vs : List Val) : callM C true f vs h = C.fn f vs h := id rfl
@[simp] theorem v_call (f : Nat) (vs : List Val) : callM C false f vs h = (if vs.all Val.isT then apart (C.fn f vs) h else .bad) := by unfold callM; rw [if_neg (by decide)]; split <;> rfl
@[simp] theorem v_apart (m : MH Val) : apart m h = (match m [] with | .ok (.t x) _ => .ok (.t x) h | .ok (.ref _) _ => .bad | .exc e _ => .exc e h | .bad => .bad) := id rfl
@[simp] theorem v_walkT (xs : List T) : walkV (.t (.tup xs)) h = .ok (xs.map .t) h := id rfl
@[simp] theorem v_walkS (xs : List Int) : walkV (.t (.scr xs)) h = .ok (xs.map fun i => .t (.int i)) h := id rfl
@[simp] theorem v_walkL (xs : List T) : walkV (.t (.lst xs)) h = .ok (xs.map .t) h := id rfl
@[simp] theorem v_lstP (xs : List T) : lstP (.t (.lst xs)) h = .ok xs h := id rfl
@[simp] theorem v_keepf (vs : List Val) : keep false vs h = MH.bind (mp pur vs) (fun ts => (pure (Val.t (T.lst ts)) : MH Val)) h := id rfl
@[simp] theorem v_keept (vs : List Val) : keep true vs h = .ok (.ref h.length) (h ++ [.lst vs]) := id rfl
@[simp] theorem v_rng (hi : Int) : rngM 0 hi h = (if -(2 ^ 62) ≤ hi ∧ hi < 2 ^ 62 then .ok ((List.range hi.toNat).map fun i => .t (.int (i : Nat))) h else .bad) := by
  unfold rngM
  by_cases q : -(2 ^ 62) ≤ hi ∧ hi < 2 ^ 62
  · rw [if_pos q, if_pos (by simp only [Bool.and_eq_true, decide_eq_true_eq]; omega)]
    show RH.ok _ h = _
    simp
  · rw [if_neg q, if_neg (by simp only [Bool.and_eq_true, decide_eq_true_eq]; omega)]
    rfl
@[simp] theorem v_keyi (i : Int) : keyV (.t (.int i)) h = .ok (.int i) h := id rfl
@[simp] theorem v_keys (i : Str) : keyV (.t (.str i)) h = .ok (.str i) h := id rfl
/-! operators -/
@[simp] theorem p_add (i j : Int) : opM .add [.t (.int i), .t (.int j)] h = .ok (.t (.int (i + j))) h := id rfl
@[simp] theorem p_sub (i j : Int) : opM .sub [.t (.int i), .t (.int j)] h = .ok (.t (.int (i - j))) h := id rfl
@[simp] theorem p_lt (i j : Int) : opM .lt [.t (.int i), .t (.int j)] h = .ok (.t (.bl (decide (i < j)))) h := id rfl
@[simp] theorem p_le (i j : Int) : opM .le [.t (.int i), .t (.int j)] h = .ok (.t (.bl (decide (i ≤ j)))) h := id rfl
@[simp] theorem p_gt (i j : Int) : opM .gt [.t (.int i), .t (.int j)] h = .ok (.t (.bl (decide (j < i)))) h := id rfl
@[simp] theorem p_ge (i j : Int) : opM .ge [.t (.int i), .t (.int j)] h = .ok (.t (.bl (decide (j ≤ i)))) h := id rfl
@[simp] theorem p_int (i : Int) : opM .int1 [.t (.int i)] h = .ok (.t (.int i)) h := id rfl
@[simp] theorem p_abs (i : Int) : opM .abs [.t (.int i)] h = .ok (.t (.int (if i < 0 then -i else i))) h := id rfl
@[simp] theorem p_mod (i j : Int) : opM .mod [.t (.int i), .t (.int j)] h = (if j = 0 then .bad else .ok (.t (.int (i.fmod j))) h) := by
  show (if decide (j ≠ 0) then int (i.fmod j) else bad) h = _
  by_cases q : j = 0 <;> simp [q]
@[simp] theorem p_fdv (i j : Int) : opM .fdv [.t (.int i), .t (.int j)] h = (if L2.CDivN i j then .ok (.t (.int (i.fdiv j))) h else .bad) := by
  show (if decide (L2.CDivN i j) then int (i.fdiv j) else bad) h = _
  by_cases q : L2.CDivN i j <;> simp [q]
@[simp] theorem p_mul (i j : Int) : opM .mul [.t (.int i), .t (.int j)] h = (if L2.CMul i j then .ok (.t (.int (i * j))) h else .bad) := by
  show (if decide (L2.CMul i j) then int (i * j) else bad) h = _
  by_cases q : L2.CMul i j <;> simp [q]
@[simp] theorem p_pow (i j : Int) : opM .pow [.t (.int i), .t (.int j)] h = (if L2.CPow i j then .ok (.t (.int (i ^ j.toNat))) h else .bad) := by
  show (if decide (L2.CPow i j) then int (i ^ j.toNat) else bad) h = _
  by_cases q : L2.CPow i j <;> simp [q]
@[simp] theorem p_max (i j : Int) : opM .max2 [.t (.int i), .t (.int j)] h = .ok (.t (.int (if j > i then j else i))) h := id rfl
@[simp] theorem p_min (i j : Int) : opM .min2 [.t (.int i), .t (.int j)] h = .ok (.t (.int (if j < i then j else i))) h := id rfl
@[simp] theorem p_lenl (xs : List T) : opM .len [.t (.lst xs)] h = .ok (.t (.int (xs.length : Nat))) h := o_lenl
@[simp] theorem p_lent (xs : List T) : opM .len [.t (.tup xs)] h = .ok (.t (.int (xs.length : Nat))) h := o_lent
@[simp] theorem p_lens (s : Str) : opM .len [.t (.str s)] h = (if s.length ≤ SL then .ok (.t (.int (s.length : Nat))) h else .bad) := by
  show (if s.length ≤ SL then int s.length else bad) h = _
  split <;> rfl
theorem atI_nat' {α : Type} (xs : List α) (k : Nat) : L2.atI xs (k : Int) = xs[k]? := by
  rcases Nat.lt_or_ge k xs.length with q | q
  · rw [List.getElem?_eq_getElem q]
    exact atI_nat (List.getElem?_eq_getElem q)
  · rw [List.getElem?_eq_none q]
    unfold L2.atI L2.ixN
    rw [if_pos (Int.natCast_nonneg k), if_neg (by omega)]
    rfl
@[simp] theorem p_idxl (xs : List T) (k : Nat) : opM .idx [.t (.lst xs), .t (.int (k : Int))] h = (match xs[k]? with | some x => .ok (.t x) h | none => .bad) := by
  show MH.bind (seqV (.t (.lst xs))) (fun ys => match L2.atI ys (k : Int) with | some v => fun h => RH.ok (nrm v h) h | none => bad) h = _
  rw [b_ok (show seqV (.t (.lst xs)) h = .ok (xs.map .t) h from rfl), atI_nat', List.getElem?_map]
  cases xs[k]? <;> rfl
@[simp] theorem p_idxt (xs : List T) (k : Nat) : opM .idx [.t (.tup xs), .t (.int (k : Int))] h = (match xs[k]? with | some x => .ok (.t x) h | none => .bad) := by
  show MH.bind (seqV (.t (.tup xs))) (fun ys => match L2.atI ys (k : Int) with | some v => fun h => RH.ok (nrm v h) h | none => bad) h = _
  rw [b_ok (show seqV (.t (.tup xs)) h = .ok (xs.map .t) h from rfl), atI_nat', List.getElem?_map]
  cases xs[k]? <;> rfl
@[simp] theorem p_idx0 (x : T) (xs : List T) : opM .idx [.t (.lst (x :: xs)), .t (.int 0)] h = .ok (.t x) h := by simpa using p_idxl (h := h) (x :: xs) 0
@[simp] theorem p_idx1 (x y : T) (xs : List T) : opM .idx [.t (.lst (x :: y :: xs)), .t (.int 1)] h = .ok (.t y) h := by simpa using p_idxl (h := h) (x :: y :: xs) 1
@[simp] theorem p_idx2 (x y z : T) (xs : List T) : opM .idx [.t (.lst (x :: y :: z :: xs)), .t (.int 2)] h = .ok (.t z) h := by simpa using p_idxl (h := h) (x :: y :: z :: xs) 2
@[simp] theorem p_fld (f c : Nat) (fs : List (Nat × T)) : opM (.fld f) [.t (.ins c fs)] h = (match fs.lookup f with | some x => .ok (.t x) h | none => .bad) := id rfl
@[simp] theorem p_listt (ns : List T) : opM (.list false) [.t (.tup ns)] h = .ok (.t (.lst ns)) h := o_listt
@[simp] theorem p_listl (ns : List T) : opM (.list false) [.t (.lst ns)] h = .ok (.t (.lst ns)) h := o_listl
@[simp] theorem p_tupl (ns : List T) : opM .tuple [.t (.lst ns)] h = .ok (.t (.tup ns)) h := id rfl
@[simp] theorem p_tupt (ns : List T) : opM .tuple [.t (.tup ns)] h = .ok (.t (.tup ns)) h := id rfl
@[simp] theorem p_lrng (i : Int) : opM (.lrng false) [.t (.int i)] h = (if -(2 ^ 62) ≤ i ∧ i < 16777216 then .ok (.t (.lst ((List.range i.toNat).map fun k => .int (k : Nat)))) h else .bad) := by
  show (if decide (-(2 ^ 62) ≤ i) && decide (i < 16777216) then keep false ((List.range i.toNat).map fun k => .t (.int (k : Nat))) else bad) h = _
  by_cases q : -(2 ^ 62) ≤ i ∧ i < 16777216
  · rw [if_pos q, if_pos (by simp only [Bool.and_eq_true, decide_eq_true_eq]; exact q)]
    have := keep_t ((List.range i.toNat).map fun k => T.int (k : Nat)) h
    rw [List.map_map] at this
    exact this
  · rw [if_neg q, if_neg (by simp only [Bool.and_eq_true, decide_eq_true_eq]; exact q)]
    rfl
@[simp] theorem p_adds (s u : Str) : opM .add [.t (.str s), .t (.str u)] h = (if s.length + u.length ≤ SL then .ok (.t (.str (s ++ u))) h else .bad) := by
  show (if s.length + u.length ≤ SL then str (s ++ u) else bad) h = _
  split <;> rfl
@[simp] theorem p_addl (s u : List T) : opM .add [.t (.lst s), .t (.lst u)] h = (if s.length + u.length ≤ SL then .ok (.t (.lst (s ++ u))) h else .bad) := by
  show (if s.length + u.length ≤ SL then (pure (.t (.lst (s ++ u))) : MH Val) else bad) h = _
  split <;> rfl
@[simp] theorem p_eqi (neg : Bool) (i j : Int) : eqM C neg (.t (.int i)) (.t (.int j)) h = .ok (.t (.bl (decide (i = j) ^^ neg))) h := id rfl
@[simp] theorem p_eqs (neg : Bool) (i j : Str) : eqM C neg (.t (.str i)) (.t (.str j)) h = .ok (.t (.bl (decide (i = j) ^^ neg))) h := id rfl
@[simp] theorem c_add : Op.cmp .add = false := id rfl
@[simp] theorem c_sub : Op.cmp .sub = false := id rfl
@[simp] theorem c_mul : Op.cmp .mul = false := id rfl
@[simp] theorem c_fdv : Op.cmp .fdv = false := id rfl
@[simp] theorem c_mod : Op.cmp .mod = false := id rfl
@[simp] theorem c_pow : Op.cmp .pow = false := id rfl
@[simp] theorem c_neg : Op.cmp .neg = false := id rfl
@[simp] theorem c_idx : Op.cmp .idx = false := id rfl
@[simp] theorem c_idxd : Op.cmp .idxd = false := id rfl
@[simp] theorem c_len : Op.cmp .len = false := id rfl
@[simp] theorem c_abs : Op.cmp .abs = false := id rfl
@[simp] theorem c_int1 : Op.cmp .int1 = false := id rfl
@[simp] theorem c_str1 : Op.cmp .str1 = false := id rfl
@[simp] theorem c_tuple : Op.cmp .tuple = false := id rfl
@[simp] theorem c_max2 : Op.cmp .max2 = false := id rfl
@[simp] theorem c_min2 : Op.cmp .min2 = false := id rfl
@[simp] theorem c_any : Op.cmp .any = false := id rfl
@[simp] theorem c_all : Op.cmp .all = false := id rfl
@[simp] theorem c_sum : Op.cmp .sum = false := id rfl
@[simp] theorem c_append : Op.cmp .append = false := id rfl
@[simp] theorem c_pop : Op.cmp .pop = false := id rfl
@[simp] theorem c_clear : Op.cmp .clear = false := id rfl
@[simp] theorem c_count : Op.cmp .count = false := id rfl
@[simp] theorem c_index : Op.cmp .index = false := id rfl
@[simp] theorem c_lt : Op.cmp .lt = true := id rfl
@[simp] theorem c_le : Op.cmp .le = true := id rfl
@[simp] theorem c_gt : Op.cmp .gt = true := id rfl
@[simp] theorem c_ge : Op.cmp .ge = true := id rfl
@[simp] theorem c_isN : Op.cmp .isN = true := id rfl
@[simp] theorem c_isnN : Op.cmp .isnN = true := id rfl
@[simp] theorem c_isB (b : Bool) : Op.cmp (.isB b) = true := id rfl
@[simp] theorem c_isnB (b : Bool) : Op.cmp (.isnB b) = true := id rfl
@[simp] theorem c_fld (b : Nat) : Op.cmp (.fld b) = false := id rfl
@[simp] theorem a_v (i : Nat) (v : Val) (loc : Loc) : asg (.v i) v loc = some (loc.set i (some v)) := id rfl
@[simp] theorem a_tp2 (i j : Nat) (x y : T) (loc : Loc) : asg (.tp [.v i, .v j]) (.t (.tup [x, y])) loc = some ((loc.set i (some (.t x))).set j (some (.t y))) := id rfl
@[simp] theorem a_w0 (loc : Loc) : wipeL loc [] = loc := id rfl
@[simp] theorem a_w1 (i : Nat) (r : List Nat) (loc : Loc) : wipeL loc (i :: r) = (wipeL loc r).set i none := id rfl
@[simp] theorem f_nil (tg : Tg) (body : Loc → List Ob → RS) (loc : Loc) (h : List Ob) : forM tg body [] loc h = .ok (.nx loc) h := id rfl
end
end MS

set_option Elab.async false
set_option linter.all false
set_option maxRecDepth 100000
/-! PLC: plain trees: equality, in, index, count. -/
namespace MS
open PySem
def T.pl : Nat → T → Bool
  | _, .non => true
  | _, .int _ => true
  | _, .str s => PyData.strOk s
  | k + 1, .tup xs => xs.all (T.pl k)
  | k + 1, .lst xs => xs.all (T.pl k)
  | _, _ => false
theorem toDs_some {k : Nat} : ∀ xs : List T, (∀ x ∈ xs, ∃ d, x.toD = some d ∧ (d.canLay0 = true ∧ d.depth ≤ k)) → ∃ ds, T.toDs xs = some ds ∧ PyData.canLayAll0 ds = true ∧ PyData.depthAll ds ≤ k
  | [], _ => ⟨[], rfl, rfl, Nat.zero_le _⟩
  | x :: xs, H => by
    obtain ⟨d, e, p, p'⟩ := H x List.mem_cons_self
    obtain ⟨ds, e2, p2, p3⟩ := toDs_some xs fun y hy => H y (List.mem_cons_of_mem _ hy)
    refine ⟨d :: ds, ?_, ?_, ?_⟩
    · show (match x.toD, T.toDs xs with | some d, some ds => some (d :: ds) | _, _ => none) = _
      rw [e, e2]
    · rw [PyData.canLayAll0, p, p2]; rfl
    · rw [PyData.depthAll]; omega
theorem pl_data : ∀ (k : Nat) (x : T), x.pl k = true → ∃ d, x.toD = some d ∧ (d.canLay0 = true ∧ d.depth ≤ k)
  | _, .non, _ => ⟨_, rfl, rfl, Nat.zero_le _⟩
  | _, .int _, _ => ⟨_, rfl, rfl, Nat.zero_le _⟩
  | k, .str s, h => ⟨_, rfl, by cases k <;> (rw [PyData.canLay0]; exact h), Nat.zero_le _⟩
  | k + 1, .tup xs, h => by
    have h : xs.all (T.pl k) = true := h
    obtain ⟨ds, e, q1, q2⟩ := toDs_some (k := k) xs fun x hx => pl_data k x (List.all_eq_true.mp h x hx)
    refine ⟨.tuple ds, ?_, ?_, ?_⟩
    · show (T.toDs xs).map PyData.tuple = _
      rw [e]; rfl
    · simpa only [PyData.canLay0] using q1
    · simp only [PyData.depth]; omega
  | k + 1, .lst xs, h => by
    have h : xs.all (T.pl k) = true := h
    obtain ⟨ds, e, q1, q2⟩ := toDs_some (k := k) xs fun x hx => pl_data k x (List.all_eq_true.mp h x hx)
    refine ⟨.list ds, ?_, ?_, ?_⟩
    · show (T.toDs xs).map PyData.list = _
      rw [e]; rfl
    · simpa only [PyData.canLay0] using q1
    · simp only [PyData.depth]; omega
  | 0, .tup _, h => nomatch h
  | 0, .lst _, h => nomatch h
  | 0, .bl _, h => nomatch h
  | _ + 1, .bl _, h => nomatch h
  | 0, .dct _, h => nomatch h
  | _ + 1, .dct _, h => nomatch h
  | 0, .ins _ _, h => nomatch h
  | _ + 1, .ins _ _, h => nomatch h
  | 0, .scr _, h => nomatch h
  | _ + 1, .scr _, h => nomatch h
  | 0, .fn _, h => nomatch h
  | _ + 1, .fn _, h => nomatch h
/-- a plain tree and its data -/
structure PD (k : Nat) (x : T) (d : PyData) : Prop where
  pl : x.pl k = true
  da : x.toD = some d
theorem pd_of {k : Nat} {x : T} (h : x.pl k = true) : ∃ d, PD k x d := by
  obtain ⟨d, e, _⟩ := pl_data k x h
  exact ⟨d, h, e⟩
theorem toDs_cons {x : T} {xs : List T} {es : List PyData} (h : T.toDs (x :: xs) = some es) : ∃ d ds, es = d :: ds ∧ x.toD = some d ∧ T.toDs xs = some ds := by
  have h : (match x.toD, T.toDs xs with | some d, some ds => some (d :: ds) | _, _ => none) = some es := h
  cases e1 : x.toD with
  | none => rw [e1] at h; cases h
  | some d =>
    cases e2 : T.toDs xs with
    | none => rw [e1, e2] at h; cases h
    | some ds => rw [e1, e2] at h; cases h; exact ⟨d, ds, rfl, rfl, rfl⟩
theorem eqvAll_iff {k : Nat} (H : ∀ (x y : T) (d e : PyData), x.pl k = true → (∃ m, y.pl m = true) → x.toD = some d → y.toD = some e → (PyData.eqv d e = true ↔ x = y)) : ∀ (xs ys : List T) (ds es : List PyData), (∀ x ∈ xs, x.pl k = true) → (∀ y ∈ ys, ∃ m, y.pl m = true) → T.toDs xs = some ds → T.toDs ys = some es → (PyData.eqvAll ds es = true ↔ xs = ys)
  | [], [], ds, es, _, _, e1, e2 => by cases e1; cases e2; exact ⟨fun _ => rfl, fun _ => rfl⟩
  | [], y :: ys, ds, es, _, _, e1, e2 => by
    obtain ⟨d, ds', rfl, _, _⟩ := toDs_cons e2
    cases e1
    exact ⟨fun h => (by rw [PyData.eqvAll] at h; cases h), fun h => (by cases h)⟩
  | x :: xs, [], ds, es, _, _, e1, e2 => by
    obtain ⟨d, ds', rfl, _, _⟩ := toDs_cons e1
    cases e2
    exact ⟨fun h => (by rw [PyData.eqvAll] at h; cases h), fun h => (by cases h)⟩
  | x :: xs, y :: ys, ds, es, h1, h2, e1, e2 => by
    obtain ⟨d, ds', rfl, a1, a2⟩ := toDs_cons e1
    obtain ⟨e, es', rfl, b1, b2⟩ := toDs_cons e2
    have q1 := H x y d e (h1 x List.mem_cons_self) (h2 y List.mem_cons_self) a1 b1
    have q2 := eqvAll_iff H xs ys ds' es' (fun z hz => h1 z (List.mem_cons_of_mem _ hz)) (fun z hz => h2 z (List.mem_cons_of_mem _ hz)) a2 b2
    rw [PyData.eqvAll, Bool.and_eq_true, q1, q2, List.cons.injEq]
theorem pl_all {m : Nat} {xs : List T} (h : (T.tup xs).pl m = true ∨ (T.lst xs).pl m = true) : ∀ y ∈ xs, ∃ j, j < m ∧ y.pl j = true := by
  cases m with
  | zero => rcases h with h | h <;> cases h
  | succ m =>
    intro y hy
    refine ⟨m, Nat.lt_succ_self m, ?_⟩
    rcases h with h | h
    · exact List.all_eq_true.mp (show xs.all (T.pl m) = true from h) y hy
    · exact List.all_eq_true.mp (show xs.all (T.pl m) = true from h) y hy
theorem toD_tup {xs : List T} {d : PyData} (h : (T.tup xs).toD = some d) : ∃ ds, d = .tuple ds ∧ T.toDs xs = some ds := by
  have h : (T.toDs xs).map PyData.tuple = some d := h
  cases e : T.toDs xs with
  | none => rw [e] at h; cases h
  | some ds => rw [e] at h; cases h; exact ⟨ds, rfl, rfl⟩
theorem toD_lst {xs : List T} {d : PyData} (h : (T.lst xs).toD = some d) : ∃ ds, d = .list ds ∧ T.toDs xs = some ds := by
  have h : (T.toDs xs).map PyData.list = some d := h
  cases e : T.toDs xs with
  | none => rw [e] at h; cases h
  | some ds => rw [e] at h; cases h; exact ⟨ds, rfl, rfl⟩
theorem pl_eqv : ∀ (k : Nat) (x y : T) (d e : PyData), x.pl k = true → (∃ m, y.pl m = true) → x.toD = some d → y.toD = some e → (PyData.eqv d e = true ↔ x = y) := by
  intro k
  induction k with
  | zero =>
    intro x y d e hx ⟨m, hy⟩ e1 e2
    cases x <;> first | (cases hx; done) | skip
    all_goals cases y <;> first | (cases m <;> cases hy; done) | skip
    all_goals first
      | (cases e1; cases e2; simp [PyData.eqv]; done)
      | (obtain ⟨_, rfl, _⟩ := toD_tup e2; cases e1; simp [PyData.eqv]; done)
      | (obtain ⟨_, rfl, _⟩ := toD_lst e2; cases e1; simp [PyData.eqv]; done)
  | succ k ih =>
    intro x y d e hx ⟨m, hy⟩ e1 e2
    cases x <;> first | (cases hx; done) | skip
    all_goals cases y <;> first | (cases m <;> cases hy; done) | skip
    all_goals first
      | (cases e1; cases e2; simp [PyData.eqv]; done)
      | (obtain ⟨ds, rfl, a⟩ := toD_tup e1; obtain ⟨es, rfl, b⟩ := toD_tup e2
         rw [PyData.eqv, eqvAll_iff ih _ _ ds es (List.all_eq_true.mp hx) (fun y hy' => let ⟨j, _, q⟩ := pl_all (.inl hy) y hy'; ⟨j, q⟩) a b, T.tup.injEq]; done)
      | (obtain ⟨ds, rfl, a⟩ := toD_lst e1; obtain ⟨es, rfl, b⟩ := toD_lst e2
         rw [PyData.eqv, eqvAll_iff ih _ _ ds es (List.all_eq_true.mp hx) (fun y hy' => let ⟨j, _, q⟩ := pl_all (.inr hy) y hy'; ⟨j, q⟩) a b, T.lst.injEq]; done)
      | (obtain ⟨_, rfl, _⟩ := toD_tup e2; cases e1; simp [PyData.eqv]; done)
      | (obtain ⟨_, rfl, _⟩ := toD_lst e2; cases e1; simp [PyData.eqv]; done)
      | (obtain ⟨_, rfl, _⟩ := toD_tup e1; cases e2; simp [PyData.eqv]; done)
      | (obtain ⟨_, rfl, _⟩ := toD_lst e1; cases e2; simp [PyData.eqv]; done)
      | (obtain ⟨_, rfl, _⟩ := toD_lst e1; obtain ⟨_, rfl, _⟩ := toD_tup e2; simp [PyData.eqv]; done)
      | (obtain ⟨_, rfl, _⟩ := toD_tup e1; obtain ⟨_, rfl, _⟩ := toD_lst e2; simp [PyData.eqv]; done)
/-- the data of a plain tree -/
def T.dd (x : T) : PyData := x.toD.getD .none
theorem dd_of {k : Nat} {x : T} (h : x.pl k = true) : x.toD = some x.dd := by
  obtain ⟨d, e, _⟩ := pl_data k x h
  unfold T.dd
  rw [e]
  rfl
theorem pdata_of {k : Nat} {x : T} (h : x.pl k = true) (hk : k ≤ 64) : x.data = some x.dd := by
  obtain ⟨d, e, q1, q2⟩ := pl_data k x h
  have e3 : x.dd = d := by unfold T.dd; rw [e]; rfl
  unfold T.data
  rw [e]
  dsimp only
  rw [e3, if_pos]
  unfold SeqAt.shaped
  rw [q1, decide_eq_true (Nat.le_trans q2 hk)]
  rfl
theorem dataOf_t {k : Nat} {x : T} {h : List Ob} (hx : x.pl k = true) (hk : k ≤ 64) : dataOf (.t x) h = .ok x.dd h := by
  show (match (some x).bind T.data with | some d => RH.ok d h | none => .bad) = _
  rw [Option.bind_some, pdata_of hx hk]
theorem dd_iff {k m : Nat} {x y : T} (hx : x.pl k = true) (hy : y.pl m = true) : PyData.eqv x.dd y.dd = true ↔ x = y := pl_eqv k x y _ _ hx ⟨m, hy⟩ (dd_of hx) (dd_of hy)
theorem bool_iff {b c : Bool} {p : Prop} (h1 : b = true ↔ p) (h2 : c = true ↔ p) : b = c := by
  cases b <;> cases c <;> first | rfl | (exfalso; revert h1 h2; simp; done) | (exfalso; have := h1.mp rfl; have := h2.mpr this; cases this) | (exfalso; have := h2.mp rfl; have := h1.mpr this; cases this)
section
variable {C : Cl} {h : List Ob}
theorem q_eq {k m : Nat} {x y : T} {b neg : Bool} (hx : x.pl k = true) (hy : y.pl m = true) (hk : k ≤ 64) (hm : m ≤ 64) (hb : b = true ↔ x = y) : eqM C neg (.t x) (.t y) h = .ok (.t (.bl (b ^^ neg))) h := by
  have q : ∀ r, scal2 (.t x) (.t y) = some r → r = b := fun r e => by
    refine bool_iff (p := x = y) ?_ hb
    cases x <;> first | (cases k <;> cases hx; done) | skip
    all_goals cases y <;> first | (cases m <;> cases hy; done) | skip
    all_goals first | (cases e; simp; done) | cases e
  have qi : isIns (.t x) h = false := by
    cases x <;> first | rfl | (cases k <;> cases hx)
  unfold eqM
  cases e : scal2 (.t x) (.t y) with
  | some r => rw [q r e]
  | none =>
    dsimp only
    rw [qi, if_neg (by decide), b_ok (dataOf_t hx hk), b_ok (dataOf_t hy hm), bool_iff (dd_iff hx hy) hb]
    rfl
theorem pl_lst {k : Nat} {ys : List T} (h : ∀ y ∈ ys, y.pl k = true) : (T.lst ys).pl (k + 1) = true := List.all_eq_true.mpr h
theorem pl_tup {k : Nat} {ys : List T} (h : ∀ y ∈ ys, y.pl k = true) : (T.tup ys).pl (k + 1) = true := List.all_eq_true.mpr h
theorem toDs_map {k : Nat} : ∀ {ys : List T}, (∀ y ∈ ys, y.pl k = true) → T.toDs ys = some (ys.map T.dd)
  | [], _ => rfl
  | y :: ys, H => by
    show (match y.toD, T.toDs ys with | some d, some ds => some (d :: ds) | _, _ => none) = _
    rw [dd_of (H y List.mem_cons_self), toDs_map fun z hz => H z (List.mem_cons_of_mem _ hz)]
    rfl
theorem dd_lst {k : Nat} {ys : List T} (H : ∀ y ∈ ys, y.pl k = true) : (T.lst ys).dd = .list (ys.map T.dd) := by
  unfold T.dd
  show (((T.toDs ys).map PyData.list).getD .none) = _
  rw [toDs_map H]
  rfl
theorem dd_tup {k : Nat} {ys : List T} (H : ∀ y ∈ ys, y.pl k = true) : (T.tup ys).dd = .tuple (ys.map T.dd) := by
  unfold T.dd
  show (((T.toDs ys).map PyData.tuple).getD .none) = _
  rw [toDs_map H]
  rfl
theorem q_in {k : Nat} {x : T} {ys : List T} {b neg : Bool} (hx : x.pl k = true) (hy : ∀ y ∈ ys, y.pl k = true) (hk : k < 64) (hb : b = true ↔ x ∈ ys) : innM C neg (.t x) (.t (.lst ys)) h = .ok (.t (.bl (b ^^ neg))) h := by
  show (MH.bind (dataOf (.t x)) fun d => MH.bind (dataOf (.t (.lst ys))) fun e => match e with
      | .list es => bl (es.any (fun x => PyData.eqv x d) ^^ neg)
      | .tuple es => bl (es.any (fun x => PyData.eqv x d) ^^ neg)
      | _ => bad) h = _
  rw [b_ok (dataOf_t hx (by omega)), b_ok (dataOf_t (pl_lst hy) (by omega)), dd_lst hy]
  dsimp only
  have e : (ys.map T.dd).any (fun z => PyData.eqv z x.dd) = b := by
    refine bool_iff (p := x ∈ ys) ?_ hb
    rw [List.any_map, List.any_eq_true]
    constructor
    · rintro ⟨y, hy', e⟩
      have := (dd_iff (hy y hy') hx).mp e
      subst this
      exact hy'
    · intro hx'
      exact ⟨x, hx', (dd_iff hx hx).mpr rfl⟩
  rw [e]
  rfl
theorem seqD_lst {k : Nat} {ys : List T} {f : List PyData → MH Val} (hy : ∀ y ∈ ys, y.pl k = true) (hk : k < 64) : seqD (.t (.lst ys)) f h = f (ys.map T.dd) h := by
  show MH.bind (lstP (.t (.lst ys))) (fun xs => match (T.lst xs).data with
    | some (.list ds) => f ds
    | _ => bad) h = _
  rw [b_ok (v_lstP ys), pdata_of (pl_lst hy) (by omega), dd_lst hy]
theorem q_index {k j : Nat} {x : T} {ys : List T} (hx : x.pl k = true) (hy : ∀ y ∈ ys, y.pl k = true) (hk : k < 64) (hj : ys[j]? = some x) (hn : ys.Nodup) : opM .index [.t (.lst ys), .t x] h = .ok (.t (.int (j : Nat))) h := by
  show seqD (.t (.lst ys)) (fun ds => MH.bind (pur (.t x)) fun x => match x.data with
    | some d => (match ds.findIdx? fun z => PyData.eqv z d with
      | some j => int (j : Nat)
      | none => bad)
    | none => bad) h = _
  rw [seqD_lst hy hk, b_ok (pur_t x h), pdata_of hx (by omega)]
  dsimp only
  have e : (ys.map T.dd).findIdx? (fun z => PyData.eqv z x.dd) = some j := by
    rw [List.findIdx?_map]
    obtain ⟨hl, ej⟩ := List.getElem?_eq_some_iff.mp hj
    rw [List.findIdx?_eq_some_iff_getElem]
    refine ⟨hl, ?_, ?_⟩
    · rw [ej]
      exact (dd_iff hx hx).mpr rfl
    · intro i hi
      intro e
      have hi' : i < ys.length := Nat.lt_trans hi hl
      have := (dd_iff (hy _ (List.getElem_mem hi')) hx).mp e
      rw [← ej] at this
      exact absurd ((List.getElem_inj hn).mp this) (by omega)
  rw [e]
  rfl
theorem q_count {k : Nat} {x : T} {ys : List T} (hx : x.pl k = true) (hy : ∀ y ∈ ys, y.pl k = true) (hk : k < 64) (hj : x ∈ ys) (hn : ys.Nodup) : opM .count [.t (.lst ys), .t x] h = .ok (.t (.int 1)) h := by
  show seqD (.t (.lst ys)) (fun ds => MH.bind (pur (.t x)) fun x => match x.data with
    | some d => int (ds.filter fun z => PyData.eqv z d).length
    | none => bad) h = _
  rw [seqD_lst hy hk, b_ok (pur_t x h), pdata_of hx (by omega)]
  dsimp only
  have e : ((ys.map T.dd).filter (fun z => PyData.eqv z x.dd)).length = 1 := by
    rw [List.filter_map, List.length_map]
    have : ys.filter ((fun z => PyData.eqv z x.dd) ∘ T.dd) = [x] := by
      clear q_count
      induction ys with
      | nil => cases hj
      | cons y ys ih =>
        have hn' := List.nodup_cons.mp hn
        by_cases q : y = x
        · subst q
          rw [List.filter_cons, if_pos (show ((fun z => PyData.eqv z y.dd) ∘ T.dd) y = true from (dd_iff hx hx).mpr rfl), List.filter_eq_nil_iff.mpr]
          intro z hz e
          have := (dd_iff (hy z (List.mem_cons_of_mem _ hz)) hx).mp e
          subst this
          exact hn'.1 hz
        · rw [List.filter_cons, if_neg (show ¬ ((fun z => PyData.eqv z x.dd) ∘ T.dd) y = true from fun e => q ((dd_iff (hy y List.mem_cons_self) hx).mp e))]
          refine ih (fun z hz => hy z (List.mem_cons_of_mem _ hz)) ?_ hn'.2
          rcases List.mem_cons.mp hj with r | r
          · exact absurd r.symm q
          · exact r
    rw [this]
    rfl
  rw [e]
  rfl
end
end MS

set_option Elab.async false
set_option linter.all false
set_option maxRecDepth 100000
/-! PLD: the heap of a law: its source in the first two cells; comprehensions that touch the heap; texts. -/
namespace MS
open PySem
theorem trunc_len {n : Nat} {h : List Ob} (e : h.length = n) : trunc n h = h := by subst e; exact trunc_self h
def srcO (l m t : Int) : Ob := .dct [(.str "cells", .ref 1), (.str "left", .t (.int l)), (.str "mixed", .t (.int m)), (.str "turn", .t (.int t))]
def intsO (cs : List Int) : Ob := .lst (cs.map fun i => .t (.int i))
/-- the heap: the source, and what stands behind it -/
def Sr (rest h : List Ob) : Prop := ∃ l m t cs, cs.length ≤ 63 ∧ h = srcO l m t :: intsO cs :: rest
theorem Sr.n0 {rest h : List Ob} (S : Sr rest h) : nrm (.ref 0) h = .ref 0 := by
  obtain ⟨l, m, t, cs, _, rfl⟩ := S
  rfl
theorem Sr.at {rest h : List Ob} (S : Sr rest h) (i : Nat) : h[i + 2]? = rest[i]? := by
  obtain ⟨l, m, t, cs, _, rfl⟩ := S
  rfl
theorem Sr.len {rest h : List Ob} (S : Sr rest h) : h.length = rest.length + 2 := by
  obtain ⟨l, m, t, cs, _, rfl⟩ := S
  rfl
theorem Sr.app {rest h : List Ob} (S : Sr rest h) (x : List Ob) : Sr (rest ++ x) (h ++ x) := by
  obtain ⟨l, m, t, cs, a, rfl⟩ := S
  exact ⟨l, m, t, cs, a, rfl⟩
theorem Sr.set {rest h : List Ob} (S : Sr rest h) (i : Nat) (o : Ob) : Sr (rest.set i o) (h.set (i + 2) o) := by
  obtain ⟨l, m, t, cs, a, rfl⟩ := S
  exact ⟨l, m, t, cs, a, rfl⟩
/-- what a run leaves: the source, and what stood behind it, with more at the end -/
theorem Sr.trunc {rest x h : List Ob} {n : Nat} (S : Sr (rest ++ x) h) (hn : n = rest.length + 2) : ∃ y, Sr (rest ++ y) (trunc n h) := by
  unfold MS.trunc
  split
  · obtain ⟨l, m, t, cs, a, rfl⟩ := S
    refine ⟨[], l, m, t, cs, a, ?_⟩
    subst hn
    show srcO l m t :: intsO cs :: (rest ++ x).take rest.length = _
    rw [List.take_left, List.append_nil]
  · exact ⟨x, S⟩
/-! ### comprehensions that touch the heap -/
theorem lcM_inv {asgn : Val → Loc → Option Loc} {loc : Loc} {tst : Loc → MH Bool} {elt : Loc → MH Val} {J : List Val → List Val → List Ob → Prop}
    (hs : ∀ x xs vs h, J (x :: xs) vs h → ∃ l v h', asgn x loc = some l ∧ tst l h = .ok true h ∧ elt l h = .ok v h' ∧ J xs (vs ++ [v]) h') : ∀ xs vs h, J xs vs h → ∃ us h', lcM asgn loc tst elt xs h = .ok us h' ∧ J [] (vs ++ us) h'
  | [], vs, h, j => ⟨[], h, rfl, by rw [List.append_nil]; exact j⟩
  | x :: xs, vs, h, j => by
    obtain ⟨l, v, h1, e1, e2, e3, j1⟩ := hs x xs vs h j
    obtain ⟨us, h2, e4, j2⟩ := lcM_inv hs xs (vs ++ [v]) h1 j1
    refine ⟨v :: us, h2, ?_, by rw [List.append_assoc] at j2; exact j2⟩
    show (match asgn x loc with
      | none => bad
      | some l => MH.bind (tst l) fun b => if b then MH.bind (elt l) fun v => MH.bind (lcM asgn loc tst elt xs) fun vs => (pure (v :: vs) : MH (List Val)) else lcM asgn loc tst elt xs) h = _
    rw [e1]
    dsimp only
    rw [b_ok e2, if_pos rfl, b_ok e3, b_ok e4]
    rfl
theorem x_lc {C : Cl} {loc : Loc} {h : List Ob} (m : Bool) (own : List Nat) (tg : Tg) (it : It) (ifs : List E) (e : E) : evE C (.lc m own tg it ifs e) loc h = MH.bind (evIt C it loc) (fun xs => if xs.length ≤ SL then noexc (MH.bind (lcM (asg tg) (wipeL loc own) (evTs C ifs) (evE C e) xs) fun vs => keep m vs) else bad) h := rfl
theorem lc_ok {C : Cl} {loc : Loc} {h h1 h2 : List Ob} {m : Bool} {own : List Nat} {tg : Tg} {it : It} {e : E} {xs us : List Val} (e1 : evIt C it loc h = .ok xs h1) (hl : xs.length ≤ SL) (e2 : lcM (asg tg) (wipeL loc own) (evTs C []) (evE C e) xs h1 = .ok us h2) :
    evE C (.lc m own tg it [] e) loc h = noexc (keep m us) h2 := by
  rw [x_lc, b_ok e1, if_pos hl]
  unfold noexc
  rw [b_ok e2]
theorem lc_keep {C : Cl} {loc : Loc} {h h1 h2 : List Ob} {own : List Nat} {tg : Tg} {it : It} {e : E} {xs us : List Val} (e1 : evIt C it loc h = .ok xs h1) (hl : xs.length ≤ SL) (e2 : lcM (asg tg) (wipeL loc own) (evTs C []) (evE C e) xs h1 = .ok us h2) :
    evE C (.lc true own tg it [] e) loc h = .ok (.ref h2.length) (h2 ++ [.lst us]) := lc_ok e1 hl e2
theorem lc_frz {C : Cl} {loc : Loc} {h h1 h2 : List Ob} {own : List Nat} {tg : Tg} {it : It} {e : E} {xs : List Val} {us : List T} (e1 : evIt C it loc h = .ok xs h1) (hl : xs.length ≤ SL) (e2 : lcM (asg tg) (wipeL loc own) (evTs C []) (evE C e) xs h1 = .ok (us.map .t) h2) :
    evE C (.lc false own tg it [] e) loc h = .ok (.t (.lst us)) h2 := by
  rw [lc_ok e1 hl e2]
  unfold noexc
  rw [keep_t]
/-- no heap touched: what stands for it as a rule of simp -/
theorem lc_pv {C : Cl} {loc : Loc} {h : List Ob} {own : List Nat} {tg : Tg} {it : It} {e : E} {xs : List T} (g : T → T) (hi : evIt C it loc h = .ok (xs.map .t) h) (hl : xs.length ≤ SL) (H : ∀ x ∈ xs, ∃ l, asg tg (.t x) (wipeL loc own) = some l ∧ ∀ h, evE C e l h = .ok (.t (g x)) h) : evE C (.lc false own tg it [] e) loc h = .ok (.t (.lst (xs.map g))) h := by
  refine lc_frz hi (by rw [List.length_map]; exact hl) ?_
  exact lcM_map (asgn := asg tg) (tst := evTs C []) (elt := evE C e) g xs h fun x hx => by
    obtain ⟨l, e1, e2⟩ := H x hx
    exact ⟨l, e1, fun _ => rfl, e2⟩
theorem i_rngN {C : Cl} {loc : Loc} {h h1 : List Ob} {e : E} {n : Nat} (he : evE C e loc h = .ok (.t (.int (n : Nat))) h1) (hn : n < 2 ^ 62) : evIt C (.rng1 e) loc h = .ok ((List.range n).map fun i => .t (.int (i : Nat))) h1 := by
  rw [i_rng, b_ok he, b_ok (v_intV (n : Int)), v_rng, if_pos (by omega)]
  rfl
theorem run_rf {C : Cl} {d : FnD} {vs : List Val} {h h1 : List Ob} {n : Nat} (hl : vs.length = d.np) (a : exSs C d.body (startL d vs) h = .ok (.ret (.ref n)) h1) : run C d vs h = .ok (.ref n) h1 := by
  unfold run
  rw [if_pos hl, a]
theorem fill_ok {n : Nat} {h : List Ob} {kvs : List (T × Val)} (e : h[n]? = some (.dct [])) : fillD n kvs h = .ok () (h.set n (.dct kvs)) := by
  show (match h[n]? with | some (.dct []) => RH.ok () (h.set n (.dct kvs)) | _ => .bad) = _
  rw [e]
section
variable {C : Cl} {loc : Loc} {h h1 : List Ob} {e : E} {v : Val}
theorem th_ok {α : Type} {m : MH α} {k : α → List Ob → RS} {a : α} (e : m h = .ok a h1) : thenE m loc k h = k a h1 := by
  unfold thenE
  rw [e]
theorem k_rett (a : evE C e loc h = .ok v h1) : exS C (.ret true e) loc h = .ok (.ret v) h1 := th_ok a
theorem k_retf {x : T} (a : evE C e loc h = .ok (.t x) h1) : exS C (.ret false e) loc h = .ok (.ret (.t x)) h1 := th_ok (m := MH.bind (evE C e loc) fun v => MH.bind (pur v) fun x => (pure (Val.t x) : MH Val)) (by rw [b_ok a]; rfl)
theorem k_set {i : Nat} (a : evE C e loc h = .ok v h1) : exS C (.set i e) loc h = .ok (.nx (loc.set i (some v))) h1 := th_ok a
theorem k_ex (a : evE C e loc h = .ok v h1) : exS C (.ex e) loc h = .ok (.nx loc) h1 := th_ok a
theorem k_iff {c : E} {u w : List S} {b : Bool} (a : evT C c loc h = .ok b h1) : exS C (.iff c u w) loc h = (if b then exSs C u loc h1 else exSs C w loc h1) := by
  rw [s_iff, th_ok a]
theorem k_rng {tg : Tg} {b : List S} {n : Nat} (he : evE C e loc h = .ok (.t (.int (n : Nat))) h1) (hn : n < 2 ^ 62) : exS C (.fr tg (.rng1 e) b) loc h = forM tg (exSs C b) ((List.range n).map fun i => .t (.int (i : Nat))) loc h1 := by
  rw [s_rng, th_ok (i_rngN he hn)]
theorem k_seq {tg : Tg} {b : List S} {xs : List Val} (he : evIt C (.seq e) loc h = .ok xs h1) : exS C (.fr tg (.seq e) b) loc h = forM tg (exSs C b) xs loc h1 := by
  rw [s_seq, th_ok he]
end
/-! ### texts -/
def stL (l : List Nat) : Str := ⟨l.toArray⟩
@[simp] theorem st_app (a b : List Nat) : stL a ++ stL b = stL (a ++ b) := by
  show Str.mk (a.toArray ++ b.toArray) = Str.mk (a ++ b).toArray
  rw [List.append_toArray]
@[simp] theorem st_len (a : List Nat) : (stL a).length = a.length := by
  show a.toArray.size = _
  simp
theorem st_inj {a b : List Nat} (h : stL a = stL b) : a = b := by
  have h : (stL a).cps.toList = (stL b).cps.toList := by rw [h]
  simpa [stL] using h
theorem st_idx {l : List Nat} {i : Int} {k c : Nat} {h : List Ob} (hl : l.length ≤ SL) (hk : i = (k : Nat)) (e : l[k]? = some c) : opM .idx [.t (.str (stL l)), .t (.int i)] h = .ok (.t (.str (stL [c]))) h := by
  subst hk
  show (if (stL l).length ≤ SL then (match L2.atI (stL l).cps.toList (k : Int) with
    | some c => str ⟨#[c]⟩
    | none => bad) else bad) h = _
  rw [if_pos (by rw [st_len]; exact hl), show (stL l).cps.toList = l by simp [stL], atI_nat', e]
  rfl
/-- a list at a cell -/
theorem ap_cell {h : List Ob} {p : Nat} {vs : List Val} {v : Val} (e : h[p]? = some (.lst vs)) (hl : vs.length < SL) : opM .append [.ref p, v] h = .ok (.t .non) (h.set p (.lst (vs ++ [v]))) := by
  have e1 : cellV (.ref p) h = .ok (p, vs) h := by
    show (match h[p]? with | some (.lst vs) => RH.ok (p, vs) h | _ => .bad) = _
    rw [e]
  unfold opM
  simp only [x_bind2, e1, if_pos hl]
  rfl
theorem nr_cell {h : List Ob} {p : Nat} {vs : List Val} (e : h[p]? = some (.lst vs)) : nrm (.ref p) h = .ref p := by
  rw [v_nrmr, e]
theorem sq_cell {h : List Ob} {p : Nat} {b : Bool} {vs : List Val} (e : h[p]? = some (.lst vs)) : isSeq b (.ref p) h = .ok () h := by
  show (match h[p]? with
    | some (.lst _) => RH.ok () h
    | some (.frz (.lst _)) => .ok () h
    | _ => .bad) = _
  rw [e]
theorem fz_cell {h : List Ob} {p k : Nat} {ts : List T} (e : h[p]? = some (.lst (ts.map .t))) : fzn (k + 1) (.ref p) h = .ok (.lst ts) (h.set p (.frz (.lst ts))) := by
  have q : ∀ (ts : List T) (h : List Ob), mp (fzn k) (ts.map .t) h = .ok ts h := by
    intro ts
    induction ts with
    | nil => intro h; rfl
    | cons t ts ih =>
      intro h
      show MH.bind (fzn k (.t t)) (fun y => MH.bind (mp (fzn k) (ts.map .t)) fun ys => (pure (y :: ys) : MH (List T))) h = _
      rw [b_ok (show fzn k (.t t) h = .ok t h by cases k <;> rfl), b_ok (ih h)]
      rfl
  have e2 : fzn (k + 1) (.ref p) h = MH.bind (mp (fzn k) (ts.map .t)) (fun ts => fzw p (.lst ts)) h := by
    unfold fzn
    simp only [e]
  rw [e2]
  rw [b_ok (q ts h)]
  rfl
end MS

set_option Elab.async false
set_option linter.all false
set_option maxRecDepth 100000
/-! PLE: more plain rules -/
namespace MS
open PySem
section
variable {C : Cl} {loc : Loc}
theorem pv_and2 {a b : E} {k l : Bool} (ha : PV C loc a (.bl k)) (hb : k = true → PV C loc b (.bl l)) : PV C loc (.and [a, b]) (.bl (k && l)) := fun h => by
  rw [x_and2, b_ok (ha h), b_ok (v_blV k)]
  cases k with
  | true => rw [if_pos rfl, hb rfl h]; rfl
  | false => rfl
theorem pv_or2 {a b : E} {k l : Bool} (ha : PV C loc a (.bl k)) (hb : k = false → PV C loc b (.bl l)) : PV C loc (.or [a, b]) (.bl (k || l)) := fun h => by
  rw [x_or2, b_ok (ha h), b_ok (v_blV k)]
  cases k with
  | true => rfl
  | false => rw [if_neg (by decide), hb rfl h]; rfl
theorem pv_ch {o1 o2 : Op} {a b c : E} {x y z : T} {k l : Bool} (ha : PV C loc a x) (hb : PV C loc b y) (hc : PV C loc c z) (h1 : ∀ h, opM o1 [.t x, .t y] h = .ok (.t (.bl k)) h) (h2 : k = true → ∀ h, opM o2 [.t y, .t z] h = .ok (.t (.bl l)) h) : PV C loc (.ch o1 o2 a b c) (.bl (k && l)) := fun h => by
  rw [x_ch, b_ok (ha h), b_ok (hb h), b_ok (h1 h), b_ok (v_blV k)]
  cases k with
  | true => rw [if_pos rfl, b_ok (hc h), h2 rfl h]; rfl
  | false => rfl
theorem blsV_ok : ∀ (bs : List Bool) (h : List Ob), blsV ((bs.map T.bl).map .t) h = .ok bs h
  | [], h => rfl
  | b :: bs, h => by
    show MH.bind (blV (.t (.bl b))) (fun x => MH.bind (blsV ((bs.map T.bl).map .t)) fun ys => (pure (x :: ys) : MH (List Bool))) h = _
    rw [b_ok (v_blV b), b_ok (blsV_ok bs h)]
    rfl
theorem o_all {bs : List Bool} {h : List Ob} : opM .all [.t (.lst (bs.map T.bl))] h = .ok (.t (.bl (bs.all id))) h := by
  show MH.bind (lstP (.t (.lst (bs.map T.bl)))) (fun xs => MH.bind (blsV (xs.map .t)) fun bs => bl (bs.all id)) h = _
  rw [b_ok (v_lstP _), b_ok (blsV_ok bs h)]
  rfl
theorem o_any {bs : List Bool} {h : List Ob} : opM .any [.t (.lst (bs.map T.bl))] h = .ok (.t (.bl (bs.any id))) h := by
  show MH.bind (lstP (.t (.lst (bs.map T.bl)))) (fun xs => MH.bind (blsV (xs.map .t)) fun bs => bl (bs.any id)) h = _
  rw [b_ok (v_lstP _), b_ok (blsV_ok bs h)]
  rfl
theorem pi_str {e : E} {l : List Nat} (hl : l.length ≤ 1000) (a : PV C loc e (.str (stL l))) : PI C loc (.seq e) (l.map fun c => .str (stL [c])) := fun h => by
  rw [i_seq, b_ok (a h)]
  show (if (stL l).length ≤ SL then (pure ((stL l).cps.toList.map fun c => .t (.str ⟨#[c]⟩)) : MH (List Val)) else bad) h = _
  rw [if_pos (by rw [st_len]; exact Nat.le_trans hl (by decide)), show (stL l).cps.toList = l by simp [stL], List.map_map]
  rfl
/-- no element of it is true -/
theorem pt_any0 {own : List Nat} {tg : Tg} {it : It} {e : E} {xs : List T} (hi : PI C loc it xs) (hl : xs.length ≤ SL) (H : ∀ x ∈ xs, ∃ l, asg tg (.t x) (wipeL loc own) = some l ∧ PV C l e (.bl false)) : PT C loc (.op .any [.lc false own tg it [] e]) false := by
  refine pt_opt (pvs_cons (pv_lc (fun _ => .bl false) hi hl H) pvs_nil) rfl fun h => ?_
  have := o_any (bs := xs.map fun _ => false) (h := h)
  rw [List.map_map] at this
  refine this.trans ?_
  rw [show (xs.map fun _ => false).any id = false by rw [List.any_map]; exact List.any_eq_false.mpr fun _ _ => Bool.false_ne_true]
theorem pv_all1 {own : List Nat} {tg : Tg} {it : It} {e : E} {xs : List T} (hi : PI C loc it xs) (hl : xs.length ≤ SL) (H : ∀ x ∈ xs, ∃ l, asg tg (.t x) (wipeL loc own) = some l ∧ PV C l e (.bl true)) : PV C loc (.op .all [.lc false own tg it [] e]) (.bl true) := by
  refine pv_op (pvs_cons (pv_lc (fun _ => .bl true) hi hl H) pvs_nil) fun h => ?_
  have := o_all (bs := xs.map fun _ => true) (h := h)
  rw [List.map_map] at this
  refine this.trans ?_
  rw [show (xs.map fun _ => true).all id = true by rw [List.all_map]; exact List.all_eq_true.mpr fun _ _ => rfl]
theorem lcM_mapA {A : Type} {asgn : Val → Loc → Option Loc} {loc : Loc} {tst : Loc → MH Bool} {elt : Loc → MH Val} (it g : A → T) : ∀ (xs : List A) (h : List Ob), (∀ x ∈ xs, ∃ l, asgn (.t (it x)) loc = some l ∧ (∀ h, tst l h = .ok true h) ∧ ∀ h, elt l h = .ok (.t (g x)) h) →
    lcM asgn loc tst elt ((xs.map it).map .t) h = .ok ((xs.map g).map .t) h
  | [], h, _ => rfl
  | x :: xs, h, H => by
    obtain ⟨l, e1, e2, e3⟩ := H x List.mem_cons_self
    have IH := lcM_mapA (asgn := asgn) (tst := tst) (elt := elt) it g xs h fun y hy => H y (List.mem_cons_of_mem _ hy)
    show (match asgn (.t (it x)) loc with
      | none => bad
      | some l => MH.bind (tst l) fun b => if b then MH.bind (elt l) fun v => MH.bind (lcM asgn loc tst elt ((xs.map it).map .t)) fun vs => (pure (v :: vs) : MH (List Val)) else lcM asgn loc tst elt ((xs.map it).map .t)) h = _
    rw [e1]
    dsimp only
    rw [b_ok (e2 h), if_pos rfl, b_ok (e3 h), b_ok IH]
    rfl
/-- a list of told items -/
theorem pv_lcA {A : Type} {own : List Nat} {tg : Tg} {i : It} {e : E} (it g : A → T) {xs : List A} (hi : PI C loc i (xs.map it)) (hl : xs.length ≤ SL) (H : ∀ x ∈ xs, ∃ l, asg tg (.t (it x)) (wipeL loc own) = some l ∧ PV C l e (g x)) : PV C loc (.lc false own tg i [] e) (.lst (xs.map g)) := fun h => by
  refine lc_frz (hi h) (by rw [List.length_map, List.length_map]; exact hl) ?_
  exact lcM_mapA (asgn := asg tg) (tst := evTs C []) (elt := evE C e) it g xs h fun x hx => by
    obtain ⟨l, e1, e2⟩ := H x hx
    exact ⟨l, e1, fun _ => rfl, e2⟩
theorem pi_rng {e : E} {n : Nat} (a : PV C loc e (.int (n : Nat))) (hn : n < 2 ^ 62) : PI C loc (.rng1 e) ((List.range n).map fun i => .int (i : Nat)) := fun h => by
  rw [i_rngN (a h) hn, List.map_map]
  rfl
theorem lcM2_map {asgn : Val → Loc → Option Loc} {tst : Loc → MH Bool} {inner : Loc → MH (List Val)} (g : T → List T) : ∀ (xs : List T) (h : List Ob), (∀ x ∈ xs, ∃ l, asgn (.t x) loc = some l ∧ (∀ h, tst l h = .ok true h) ∧ ∀ h, inner l h = .ok ((g x).map .t) h) →
    lcM2 asgn loc tst inner (xs.map .t) h = .ok ((xs.flatMap g).map .t) h
  | [], h, _ => rfl
  | x :: xs, h, H => by
    obtain ⟨l, e1, e2, e3⟩ := H x List.mem_cons_self
    have IH := lcM2_map (asgn := asgn) (tst := tst) (inner := inner) g xs h fun y hy => H y (List.mem_cons_of_mem _ hy)
    show (match asgn (.t x) loc with
      | none => bad
      | some l => MH.bind (tst l) fun b => if b then MH.bind (inner l) fun v => MH.bind (lcM2 asgn loc tst inner (xs.map .t)) fun vs => (pure (v ++ vs) : MH (List Val)) else lcM2 asgn loc tst inner (xs.map .t)) h = _
    rw [e1]
    dsimp only
    rw [b_ok (e2 h), if_pos rfl, b_ok (e3 h), b_ok IH, List.flatMap_cons, List.map_append]
    rfl
theorem pv_lc2 {own : List Nat} {tg tg1 : Tg} {it it1 : It} {e : E} {xs : List T} (ys : T → List T) (k : T → T → T) (hi : PI C loc it xs) (hl : xs.length ≤ 1000)
    (H : ∀ x ∈ xs, ∃ l, asg tg (.t x) (wipeL loc own) = some l ∧ PI C l it1 (ys x) ∧ (ys x).length ≤ 1000 ∧ ∀ y ∈ ys x, ∃ l', asg tg1 (.t y) (wipeL l tg1.ix) = some l' ∧ PV C l' e (k x y)) : PV C loc (.lc2 false own tg it [] tg1 it1 [] e) (.lst (xs.flatMap fun x => (ys x).map (k x))) := fun h => by
  show MH.bind (evIt C it loc) (fun xs => if xs.length ≤ 1000 then noexc (MH.bind (lcM2 (asg tg) (wipeL loc own) (evTs C []) (fun l =>
      MH.bind (evIt C it1 l) fun ys => if ys.length ≤ 1000 then lcM (asg tg1) (wipeL l tg1.ix) (evTs C []) (evE C e) ys else bad) xs) fun vs => keep false vs) else bad) h = _
  rw [b_ok (hi h), if_pos (by rw [List.length_map]; exact hl)]
  have q := lcM2_map (asgn := asg tg) (loc := wipeL loc own) (tst := evTs C []) (inner := fun l => MH.bind (evIt C it1 l) fun ys => if ys.length ≤ 1000 then lcM (asg tg1) (wipeL l tg1.ix) (evTs C []) (evE C e) ys else bad) (fun x => (ys x).map (k x)) xs h fun x hx => by
    obtain ⟨l, e1, e2, e3, e4⟩ := H x hx
    refine ⟨l, e1, fun _ => rfl, fun h => ?_⟩
    show MH.bind (evIt C it1 l) (fun ys => if ys.length ≤ 1000 then lcM (asg tg1) (wipeL l tg1.ix) (evTs C []) (evE C e) ys else bad) h = _
    rw [b_ok (e2 h), if_pos (by rw [List.length_map]; exact e3)]
    exact lcM_map (asgn := asg tg1) (tst := evTs C []) (elt := evE C e) (k x) (ys x) h fun y hy => by
      obtain ⟨l', f1, f2⟩ := e4 y hy
      exact ⟨l', f1, fun _ => rfl, f2⟩
  unfold noexc
  rw [b_ok q, keep_t]
theorem pt_any02 {own : List Nat} {tg tg1 : Tg} {it it1 : It} {e : E} {xs : List T} (ys : T → List T) (hi : PI C loc it xs) (hl : xs.length ≤ 1000)
    (H : ∀ x ∈ xs, ∃ l, asg tg (.t x) (wipeL loc own) = some l ∧ PI C l it1 (ys x) ∧ (ys x).length ≤ 1000 ∧ ∀ y ∈ ys x, ∃ l', asg tg1 (.t y) (wipeL l tg1.ix) = some l' ∧ PV C l' e (.bl false)) : PT C loc (.op .any [.lc2 false own tg it [] tg1 it1 [] e]) false := by
  refine pt_opt (pvs_cons (pv_lc2 ys (fun _ _ => .bl false) hi hl H) pvs_nil) rfl fun h => ?_
  have e : (xs.flatMap fun x => (ys x).map fun _ => T.bl false) = ((xs.flatMap fun x => (ys x).map fun _ => false).map T.bl) := by
    rw [List.map_flatMap]
    simp only [List.map_map]
    rfl
  show opM .any [.t (.lst (xs.flatMap fun x => (ys x).map fun _ => T.bl false))] h = _
  rw [e]
  refine o_any.trans ?_
  have : ((xs.flatMap fun x => (ys x).map fun _ => false).any id) = false := by
    rw [List.any_eq_false]
    intro b hb
    obtain ⟨x, _, hb⟩ := List.mem_flatMap.mp hb
    obtain ⟨_, _, rfl⟩ := List.mem_map.mp hb
    exact Bool.false_ne_true
  rw [this]
theorem pt_in {k : Nat} {neg : Bool} {a b : E} {x : T} {ys : List T} {r : Bool} (ha : PV C loc a x) (hb : PV C loc b (.lst ys)) (hx : x.pl k = true) (hy : ∀ y ∈ ys, y.pl k = true) (hk : k < 64) (hr : r = true ↔ x ∈ ys) : PT C loc (.inn neg a b) (r ^^ neg) := fun h => by
  rw [y_inn, b_ok (ha h), b_ok (hb h), b_ok (q_in hx hy hk hr)]
  rfl
theorem pv_in {k : Nat} {neg : Bool} {a b : E} {x : T} {ys : List T} {r : Bool} (ha : PV C loc a x) (hb : PV C loc b (.lst ys)) (hx : x.pl k = true) (hy : ∀ y ∈ ys, y.pl k = true) (hk : k < 64) (hr : r = true ↔ x ∈ ys) : PV C loc (.inn neg a b) (.bl (r ^^ neg)) := fun h => by
  rw [x_inn, b_ok (ha h), b_ok (hb h), q_in hx hy hk hr]
theorem pv_inc {neg : Bool} {a b : E} {c : Nat} {l : List Nat} {r : Bool} (ha : PV C loc a (.str (stL [c]))) (hb : PV C loc b (.str (stL l))) (hr : r = true ↔ c ∈ l) : PV C loc (.inn neg a b) (.bl (r ^^ neg)) := fun h => by
  rw [x_inn, b_ok (ha h), b_ok (hb h)]
  show (MH.bind (strV (.t (.str (stL [c])))) (fun c => if c.length = 1 then bl (decide (c.cps.getD 0 0 ∈ (stL l).cps.toList) ^^ neg) else bad)) h = _
  rw [b_ok (show strV (.t (.str (stL [c]))) h = .ok (stL [c]) h from rfl), if_pos (by rw [st_len]; rfl)]
  have : decide ((stL [c]).cps.getD 0 0 ∈ (stL l).cps.toList) = r := by
    refine bool_iff (p := c ∈ l) ?_ hr
    rw [decide_eq_true_eq, show (stL l).cps.toList = l by simp [stL]]
    exact Iff.rfl
  rw [this]
  rfl
theorem pv_index {k j : Nat} {a b : E} {x : T} {ys : List T} (hb : PV C loc b (.lst ys)) (ha : PV C loc a x) (hx : x.pl k = true) (hy : ∀ y ∈ ys, y.pl k = true) (hk : k < 64) (hj : ys[j]? = some x) (hn : ys.Nodup) : PV C loc (.lm .index b [a]) (.int (j : Nat)) := fun h => by
  rw [x_lm, b_ok (hb h), b_ok (show isSeq Op.index.tp (.t (.lst ys)) h = .ok () h from rfl), b_ok (show evEs C [a] loc h = .ok [.t x] h by rw [x_cons, b_ok (ha h)]; rfl)]
  exact q_index hx hy hk hj hn
theorem pv_count {k : Nat} {a b : E} {x : T} {ys : List T} (hb : PV C loc b (.lst ys)) (ha : PV C loc a x) (hx : x.pl k = true) (hy : ∀ y ∈ ys, y.pl k = true) (hk : k < 64) (hj : x ∈ ys) (hn : ys.Nodup) : PV C loc (.lm .count b [a]) (.int 1) := fun h => by
  rw [x_lm, b_ok (hb h), b_ok (show isSeq Op.count.tp (.t (.lst ys)) h = .ok () h from rfl), b_ok (show evEs C [a] loc h = .ok [.t x] h by rw [x_cons, b_ok (ha h)]; rfl)]
  exact q_count hx hy hk hj hn
theorem pt_eqp {k m : Nat} {neg b : Bool} {u v : E} {x y : T} (ha : PV C loc u x) (hb : PV C loc v y) (hx : x.pl k = true) (hy : y.pl m = true) (hk : k ≤ 64) (hm : m ≤ 64) (hr : b = true ↔ x = y) : PT C loc (.eqq neg u v) (b ^^ neg) := fun h => by
  rw [y_eqq, b_ok (ha h), b_ok (hb h), b_ok (q_eq hx hy hk hm hr)]
  rfl
theorem pv_eqp {k m : Nat} {neg b : Bool} {u v : E} {x y : T} (ha : PV C loc u x) (hb : PV C loc v y) (hx : x.pl k = true) (hy : y.pl m = true) (hk : k ≤ 64) (hm : m ≤ 64) (hr : b = true ↔ x = y) : PV C loc (.eqq neg u v) (.bl (b ^^ neg)) := fun h => by
  rw [x_eqq, b_ok (ha h), b_ok (hb h), q_eq hx hy hk hm hr]
end
end MS

set_option Elab.async false
set_option linter.all false
set_option maxRecDepth 100000
namespace MS
open PySem PySem.Spec PyProof.Rows L2
abbrev prg : Program := PySem.Challenge.pw_kindsteps_k03_first_faults
def top (i : Nat) : Stmt := prg.main.body.getD i (.Pass ⟨0, 0, 0, 0⟩)
abbrev s3 : Stmt := inClass (top 9) 0
abbrev s4 : Stmt := inClass (top 9) 1
abbrev s5 : Stmt := inClass (top 9) 2
abbrev s6 : Stmt := inClass (top 9) 3
abbrev s8 : Stmt := inClass (top 9) 5
abbrev s9 : Stmt := inClass (top 9) 6
abbrev s10 : Stmt := top 10
abbrev s11 : Stmt := inClass (top 11) 0
abbrev s12 : Stmt := inClass (top 12) 0
abbrev s13 : Stmt := top 13
abbrev s14 : Stmt := top 15
abbrev s15 : Stmt := top 16
abbrev s16 : Stmt := top 17
abbrev s17 : Stmt := top 18
abbrev s18 : Stmt := top 19
abbrev s19 : Stmt := top 20
abbrev s20 : Stmt := top 21
abbrev s21 : Stmt := top 22
/-- Monoid.__init__: self names sums zero place name row -/
def fn3 : FnD := ⟨4, 7, [.iff (.nott (.ch .le .le (.int 1) (.op .len [(.var 1)]) (.gl 1))) [.no] [],
    .fset (.var 0) 1 (.op .tuple [(.var 1)]),
    .fset (.var 0) 2 (.dc [4, 5] (.tp [(.v 4), (.v 5)]) (.enum (.var 1)) (.var 5) (.var 4)),
    .fset (.var 0) 3 (.op .tuple [(.lc false [6] (.v 6) (.seq (.var 2)) [] (.op .tuple [(.var 6)]))]),
    .fset (.var 0) 4 (.op .idx [(.var 1), (.var 3)]),
    .fset (.var 0) 5 (.tup [(.op (.fld 1) [(.var 0)]), (.op (.fld 3) [(.var 0)]), (.op (.fld 4) [(.var 0)])])]⟩
/-- Monoid.members: self -/
def fn4 : FnD := ⟨1, 1, [.ret false (.op (.list false) [(.op (.fld 1) [(.var 0)])])]⟩
/-- Monoid.place: self name -/
def fn5 : FnD := ⟨2, 2, [.iff (.inn true (.var 1) (.op (.fld 2) [(.var 0)])) [.no] [],
    .ret false (.op .idxd [(.op (.fld 2) [(.var 0)]), (.var 1)])]⟩
/-- Monoid.plus: self first second row -/
def fn6 : FnD := ⟨3, 4, [.set 3 (.op .idx [(.op (.fld 3) [(.var 0)]), (.meth false (.var 0) 4 [(.var 1)])]),
    .ret false (.op .idx [(.op (.fld 1) [(.var 0)]), (.op .idx [(.var 3), (.meth false (.var 0) 4 [(.var 2)])])])]⟩
/-- Monoid.__contains__: self name -/
def fn8 : FnD := ⟨2, 2, [.ret false (.inn false (.var 1) (.op (.fld 2) [(.var 0)]))]⟩
/-- Monoid.__eq__: self other -/
def fn9 : FnD := ⟨2, 2, [.ret false (.and [(.isi (.var 1) [.cls 4]), (.eqq false (.op (.fld 5) [(.var 0)]) (.op (.fld 5) [(.var 1)]))])]⟩
/-- is_member_name: name sign -/
def fn10 : FnD := ⟨1, 2, [.ret false (.and [(.ch .le .le (.int 1) (.op .len [(.var 0)]) (.int 12)), (.op .all [(.lc false [1] (.v 1) (.seq (.var 0)) [] (.inn false (.var 1) (.gl 0)))])])]⟩
/-- TableMonoid.__init__: self names sums zero name row -/
def fn11 : FnD := ⟨4, 6, [.set 1 (.op (.list false) [(.var 1)]),
    .iff (.op .any [(.lc false [4] (.v 4) (.seq (.var 1)) [] (.or [(.nott (.call false 10 [(.var 4)])), (.op .gt [(.lm .count (.var 1) [(.var 4)]), (.int 1)])]))]) [.no] [],
    .iff (.or [(.op .gt [(.op .len [(.var 1)]), (.gl 1)]), (.inn true (.var 3) (.var 1))]) [.no] [],
    .iff (.or [(.eqq true (.op .len [(.var 2)]) (.op .len [(.var 1)])), (.op .any [(.lc false [5] (.v 5) (.seq (.var 2)) [] (.eqq true (.op .len [(.var 5)]) (.op .len [(.var 1)])))])]) [.no] [],
    .iff (.op .any [(.lc2 false [5, 4] (.v 5) (.seq (.var 2)) [] (.v 4) (.seq (.var 5)) [] (.inn true (.var 4) (.var 1)))]) [.no] [],
    .ex (.sup 5 3 [(.var 1), (.lc false [5] (.v 5) (.seq (.var 2)) [] (.lc false [4] (.v 4) (.seq (.var 5)) [] (.lm .index (.var 1) [(.var 4)]))), (.lm .index (.var 1) [(.var 3)])])]⟩
/-- PairMonoid.__init__: self left right pairs sums a b c d -/
def fn12 : FnD := ⟨3, 9, [.set 3 (.lc2 false [5, 6] (.v 5) (.seq (.meth false (.var 1) 3 [])) [] (.v 6) (.seq (.meth false (.var 2) 3 [])) [] (.tup [(.var 5), (.var 6)])),
    .iff (.op .gt [(.op .len [(.var 3)]), (.gl 1)]) [.no] [],
    .set 4 (.lc false [5, 6] (.tp [(.v 5), (.v 6)]) (.seq (.var 3)) [] (.lc false [7, 8] (.tp [(.v 7), (.v 8)]) (.seq (.var 3)) [] (.lm .index (.var 3) [(.tup [(.meth false (.var 1) 5 [(.var 5), (.var 7)]), (.meth false (.var 2) 5 [(.var 6), (.var 8)])])]))),
    .ex (.sup 6 3 [(.lc false [5, 6] (.tp [(.v 5), (.v 6)]) (.seq (.var 3)) [] (.fst [.val (.var 5), .lit "/", .val (.var 6)])), (.var 4), (.lm .index (.var 3) [(.tup [(.op (.fld 4) [(.var 1)]), (.op (.fld 4) [(.var 2)])])])]),
    .fset (.var 0) 6 (.var 1),
    .fset (.var 0) 7 (.var 2)]⟩
/-- first_fault: monoid names a b c -/
def fn13 : FnD := ⟨1, 5, [.set 1 (.meth false (.var 0) 3 []),
    .fr (.v 2) (.seq (.var 1)) [.fr (.v 3) (.seq (.var 1)) [.iff (.eqq true (.meth false (.var 0) 5 [(.var 2), (.var 3)]) (.meth false (.var 0) 5 [(.var 3), (.var 2)])) [.ret false (.tup [(.str "swap"), (.tup [(.var 2), (.var 3)])])] []]],
    .fr (.v 2) (.seq (.var 1)) [.iff (.eqq true (.meth false (.var 0) 5 [(.var 2), (.op (.fld 4) [(.var 0)])]) (.var 2)) [.ret false (.tup [(.str "zero"), (.tup [(.var 2)])])] []],
    .fr (.v 2) (.seq (.var 1)) [.fr (.v 3) (.seq (.var 1)) [.fr (.v 4) (.seq (.var 1)) [.iff (.eqq true (.meth false (.var 0) 5 [(.meth false (.var 0) 5 [(.var 2), (.var 3)]), (.var 4)]) (.meth false (.var 0) 5 [(.var 2), (.meth false (.var 0) 5 [(.var 3), (.var 4)])])) [.ret false (.tup [(.str "group"), (.tup [(.var 2), (.var 3), (.var 4)])])] []]]],
    .ret false .non]⟩
/-- _law_source: _law_script _law_mixed _law_cell _law_cells _law_k -/
def fn14 : FnD := ⟨1, 5, [.set 1 (.int 11),
    .fr (.v 2) (.seq (.var 0)) [.set 1 (.op .mod [(.op .int1 [(.op .add [(.op .add [(.op .mul [(.var 1), (.int 69069)]), (.op .mul [(.var 2), (.int 31)])]), (.int 5)])]), (.int 2147483629)])],
    .set 3 (.lc false [2] (.v 2) (.seq (.var 0)) [] (.op .abs [(.var 2)])),
    .ret true (.dsp true [(.str "cells"), (.lc true [4] (.v 4) (.rng1 (.op .len [(.var 3)])) [] (.op .idx [(.var 3), (.op .sub [(.op .sub [(.op .len [(.var 3)]), (.int 1)]), (.var 4)])])), (.str "left"), (.int 1), (.str "mixed"), (.var 1), (.str "turn"), (.int 0)])]⟩
/-- _law_pick: _law_source_here _law_many _law_cells _law_left _law_turn _law_mixed -/
def fn15 : FnD := ⟨2, 6, [.iff (.op .lt [(.var 1), (.int 2)]) [.ret false (.int 0)] [],
    .set 2 (.op .idxd [(.var 0), (.str "cells")]),
    .whl (.and [(.op .lt [(.op .idxd [(.var 0), (.str "left")]), (.int 2)]), (.op .gt [(.op .len [(.var 2)]), (.int 0)])]) [.subd (.var 0) (.str "left") (.lm .pop (.var 2) [])],
    .set 3 (.op .idxd [(.var 0), (.str "left")]),
    .iff (.op .gt [(.var 3), (.int 1)]) [.subd (.var 0) (.str "left") (.op .fdv [(.var 3), (.var 1)]),
    .ret false (.op .mod [(.op .int1 [(.var 3)]), (.var 1)])] [],
    .subd (.var 0) (.str "turn") (.op .add [(.op .idxd [(.var 0), (.str "turn")]), (.int 1)]),
    .set 4 (.op .idxd [(.var 0), (.str "turn")]),
    .set 5 (.op .mod [(.op .int1 [(.op .add [(.op .idxd [(.var 0), (.str "mixed")]), (.op .mul [(.var 4), (.int 104729)])])]), (.int 998244353)]),
    .set 5 (.op .mod [(.op .int1 [(.op .add [(.op .mul [(.var 5), (.var 5)]), (.op .mul [(.var 4), (.int 17)])])]), (.int 2147483647)]),
    .iff (.op .gt [(.var 1), (.op .pow [(.int 10), (.int 7)])]) [.set 5 (.op .pow [(.op .int1 [(.op .add [(.op .mul [(.var 5), (.int 48271)]), (.var 4)])]), (.int 9)])] [],
    .ret false (.op .mod [(.op .int1 [(.op .fdv [(.var 5), (.int 16)])]), (.var 1)])]⟩
/-- _law_names: _law_source_here _law_many _law_signs _law_shift _law_long _law_names_here _law_k _law_number _law_name _law_n -/
def fn16 : FnD := ⟨2, 10, [.set 2 (.str "abcdefghijklmnopqrstuvwxyz0123456789"),
    .set 3 (.call true 15 [(.var 0), (.int 100)]),
    .set 4 (.eqq false (.call true 15 [(.var 0), (.int 4)]) (.int 0)),
    .set 5 (.lst true []),
    .fr (.v 6) (.rng1 (.var 1)) [.set 7 (.op .mod [(.op .int1 [(.op .add [(.var 3), (.op .mul [(.int 37), (.var 6)])])]), (.int 100)]),
    .set 8 (.op .add [(.op .add [(.op .idx [(.var 2), (.call true 15 [(.var 0), (.int 26)])]), (.op .idx [(.var 2), (.op .add [(.int 26), (.op .fdv [(.var 7), (.int 10)])])])]), (.op .idx [(.var 2), (.op .add [(.int 26), (.op .mod [(.op .int1 [(.var 7)]), (.int 10)])])])]),
    .fr (.v 9) (.rng1 (.ifx (.var 4) (.op .pow [(.call true 15 [(.var 0), (.int 4)]), (.int 2)]) (.int 0))) [.set 8 (.op .add [(.var 8), (.op .idx [(.var 2), (.call true 15 [(.var 0), (.int 36)])])])],
    .ex (.lm .append (.var 5) [(.var 8)])],
    .ret false (.var 5)]⟩
/-- _law_due: _law_names_here _law_sums _law_low _law_every _law_a _law_b _law_c -/
def fn17 : FnD := ⟨3, 7, [.set 3 (.op (.lrng false) [(.op .len [(.var 0)])]),
    .fr (.v 4) (.seq (.var 3)) [.fr (.v 5) (.seq (.var 3)) [.iff (.eqq true (.op .idx [(.op .idx [(.var 1), (.var 4)]), (.var 5)]) (.op .idx [(.op .idx [(.var 1), (.var 5)]), (.var 4)])) [.ret false (.tup [(.str "swap"), (.tup [(.op .idx [(.var 0), (.var 4)]), (.op .idx [(.var 0), (.var 5)])])])] []]],
    .fr (.v 4) (.seq (.var 3)) [.iff (.eqq true (.op .idx [(.op .idx [(.var 1), (.var 4)]), (.var 2)]) (.var 4)) [.ret false (.tup [(.str "zero"), (.tup [(.op .idx [(.var 0), (.var 4)])])])] []],
    .fr (.v 4) (.seq (.var 3)) [.fr (.v 5) (.seq (.var 3)) [.fr (.v 6) (.seq (.var 3)) [.iff (.eqq true (.op .idx [(.op .idx [(.var 1), (.op .idx [(.op .idx [(.var 1), (.var 4)]), (.var 5)])]), (.var 6)]) (.op .idx [(.op .idx [(.var 1), (.var 4)]), (.op .idx [(.op .idx [(.var 1), (.var 5)]), (.var 6)])])) [.ret false (.tup [(.str "group"), (.tup [(.op .idx [(.var 0), (.var 4)]), (.op .idx [(.var 0), (.var 5)]), (.op .idx [(.var 0), (.var 6)])])])] []]]],
    .ret false .non]⟩
/-- _law_table: _law_source_here _law_many _law_every _law_pick_here _law_sums _law_low _law_k _law_spot _law_a _law_b -/
def fn18 : FnD := ⟨1, 10, [.set 1 (.op .add [(.int 1), (.call true 15 [(.var 0), (.int 4)])]),
    .set 2 (.op (.lrng false) [(.var 1)]),
    .set 3 (.call true 15 [(.var 0), (.int 4)]),
    .set 4 (.lc true [8] (.v 8) (.seq (.var 2)) [] (.lc true [9] (.v 9) (.seq (.var 2)) [] (.op .min2 [(.op .add [(.var 8), (.var 9)]), (.op .sub [(.var 1), (.int 1)])]))),
    .iff (.eqq false (.var 3) (.int 1)) [.set 4 (.lc true [8] (.v 8) (.seq (.var 2)) [] (.lc true [9] (.v 9) (.seq (.var 2)) [] (.op .mod [(.op .int1 [(.op .add [(.var 8), (.var 9)])]), (.var 1)])))] [],
    .iff (.eqq false (.var 3) (.int 2)) [.set 4 (.lc true [8] (.v 8) (.seq (.var 2)) [] (.lc true [9] (.v 9) (.seq (.var 2)) [] (.op .max2 [(.var 8), (.var 9)])))] [],
    .iff (.eqq false (.var 3) (.int 3)) [.set 4 (.lc true [8] (.v 8) (.seq (.var 2)) [] (.lc true [9] (.v 9) (.seq (.var 2)) [] (.call true 15 [(.var 0), (.var 1)])))] [],
    .set 5 (.int 0),
    .fr (.v 6) (.rng1 (.call true 15 [(.var 0), (.int 4)])) [.set 7 (.call true 15 [(.var 0), (.int 4)]),
    .iff (.eqq false (.var 7) (.int 0)) [.set 5 (.call true 15 [(.var 0), (.var 1)])] [.set 8 (.call true 15 [(.var 0), (.var 1)]),
    .set 9 (.call true 15 [(.var 0), (.var 1)]),
    .sub (.op .idx [(.var 4), (.var 8)]) (.var 9) (.call true 15 [(.var 0), (.var 1)]),
    .iff (.op .gt [(.var 7), (.int 1)]) [.sub (.op .idx [(.var 4), (.var 9)]) (.var 8) (.op .idx [(.op .idx [(.var 4), (.var 8)]), (.var 9)])] []]],
    .ret false (.lst false [(.call true 16 [(.var 0), (.var 1)]), (.var 4), (.var 5)])]⟩
/-- _law_made: _law_table_here _law_words _law_row _law_place -/
def fn19 : FnD := ⟨1, 4, [.set 1 (.lc false [2] (.v 2) (.seq (.op .idx [(.var 0), (.int 1)])) [] (.lc false [3] (.v 3) (.seq (.var 2)) [] (.op .idx [(.op .idx [(.var 0), (.int 0)]), (.var 3)]))),
    .ret false (.new 5 1 [(.op .idx [(.var 0), (.int 0)]), (.var 1), (.op .idx [(.op .idx [(.var 0), (.int 0)]), (.op .idx [(.var 0), (.int 2)])])])]⟩
/-- _law_paired: _law_one _law_other _law_pairs _law_a _law_sums _law_names_here _law_b _law_c _law_d -/
def fn20 : FnD := ⟨2, 9, [.set 2 (.lst false []),
    .fr (.v 3) (.rng1 (.op .len [(.op .idx [(.var 0), (.int 0)])])) [.set 2 (.op .add [(.var 2), (.lc false [6] (.v 6) (.rng1 (.op .len [(.op .idx [(.var 1), (.int 0)])])) [] (.tup [(.var 3), (.var 6)]))])],
    .set 4 (.lst true []),
    .fr (.tp [(.v 3), (.v 6)]) (.seq (.var 2)) [.ex (.lm .append (.var 4) [(.lc false [7, 8] (.tp [(.v 7), (.v 8)]) (.seq (.var 2)) [] (.lm .index (.var 2) [(.tup [(.op .idx [(.op .idx [(.op .idx [(.var 0), (.int 1)]), (.var 3)]), (.var 7)]), (.op .idx [(.op .idx [(.op .idx [(.var 1), (.int 1)]), (.var 6)]), (.var 8)])])]))])],
    .set 5 (.lc false [3, 6] (.tp [(.v 3), (.v 6)]) (.seq (.var 2)) [] (.op .add [(.op .add [(.op .idx [(.op .idx [(.var 0), (.int 0)]), (.var 3)]), (.str "/")]), (.op .idx [(.op .idx [(.var 1), (.int 0)]), (.var 6)])])),
    .ret false (.lst false [(.var 5), (.var 4), (.lm .index (.var 2) [(.tup [(.op .idx [(.var 0), (.int 2)]), (.op .idx [(.var 1), (.int 2)])])])])]⟩
/-- law: _law_script _law_source_here _law_one _law_other _law_made_here _law_k _law_both -/
def fn21 : FnD := ⟨1, 7, [.set 1 (.call true 14 [(.var 0)]),
    .set 2 (.call true 18 [(.var 1)]),
    .set 3 (.call true 18 [(.var 1)]),
    .set 4 (.call false 19 [(.var 2)]),
    .fr (.v 5) (.rng1 (.int 2)) [.iff (.eqq true (.call false 13 [(.var 4)]) (.call false 17 [(.op .idx [(.var 2), (.int 0)]), (.op .idx [(.var 2), (.int 1)]), (.op .idx [(.var 2), (.int 2)])])) [.ret false (.bl false)] []],
    .iff (.or [(.eqq true (.var 4) (.call false 19 [(.var 2)])), (.eqq true (.meth false (.var 4) 3 []) (.op .idx [(.var 2), (.int 0)])), (.eqq true (.op (.fld 4) [(.var 4)]) (.op (.fld 4) [(.call false 19 [(.var 2)])]))]) [.ret false (.bl false)] [],
    .iff (.op .gt [(.op .mul [(.op .len [(.op .idx [(.var 2), (.int 0)])]), (.op .len [(.op .idx [(.var 3), (.int 0)])])]), (.int 6)]) [.ret false (.eqq false (.meth false (.var 4) 3 []) (.op .idx [(.var 2), (.int 0)]))] [],
    .set 6 (.call false 20 [(.var 2), (.var 3)]),
    .ret false (.eqq false (.call false 13 [(.new 6 0 [(.var 4), (.call false 19 [(.var 3)])])]) (.call false 17 [(.op .idx [(.var 6), (.int 0)]), (.op .idx [(.var 6), (.int 1)]), (.op .idx [(.var 6), (.int 2)])]))]⟩
def N3 : List Str := ["self", "names", "sums", "zero", "place", "name", "row"]
def N4 : List Str := ["self"]
def N5 : List Str := ["self", "name"]
def N6 : List Str := ["self", "first", "second", "row"]
def N8 : List Str := ["self", "name"]
def N9 : List Str := ["self", "other"]
def N10 : List Str := ["name", "sign"]
def N11 : List Str := ["self", "names", "sums", "zero", "name", "row"]
def N12 : List Str := ["self", "left", "right", "pairs", "sums", "a", "b", "c", "d"]
def N13 : List Str := ["monoid", "names", "a", "b", "c"]
def N14 : List Str := ["_law_script", "_law_mixed", "_law_cell", "_law_cells", "_law_k"]
def N15 : List Str := ["_law_source_here", "_law_many", "_law_cells", "_law_left", "_law_turn", "_law_mixed"]
def N16 : List Str := ["_law_source_here", "_law_many", "_law_signs", "_law_shift", "_law_long", "_law_names_here", "_law_k", "_law_number", "_law_name", "_law_n"]
def N17 : List Str := ["_law_names_here", "_law_sums", "_law_low", "_law_every", "_law_a", "_law_b", "_law_c"]
def N18 : List Str := ["_law_source_here", "_law_many", "_law_every", "_law_pick_here", "_law_sums", "_law_low", "_law_k", "_law_spot", "_law_a", "_law_b"]
def N19 : List Str := ["_law_table_here", "_law_words", "_law_row", "_law_place"]
def N20 : List Str := ["_law_one", "_law_other", "_law_pairs", "_law_a", "_law_sums", "_law_names_here", "_law_b", "_law_c", "_law_d"]
def N21 : List Str := ["_law_script", "_law_source_here", "_law_one", "_law_other", "_law_made_here", "_law_k", "_law_both"]
def mNm : Nat → Str
  | 0 => "__eq__"
  | 1 => "__contains__"
  | 3 => "members"
  | 4 => "place"
  | 5 => "plus"
  | 6 => "total"
  | n => if n = mEq then "__eq__" else if n = mIn then "__contains__" else "__no__"
def iniT : Nat → Option Nat
  | 4 => some 3
  | 5 => some 11
  | 6 => some 12
  | _ => none
def kwT : Nat → Option Str
  | 5 => some "zero"
  | _ => none
def spsT : Sp → Bool
  | .cls 4 => true
  | _ => false
def ge : GEnv := ⟨[("is_member_name", 10), ("first_fault", 13), ("_law_source", 14), ("_law_pick", 15), ("_law_names", 16), ("_law_due", 17), ("_law_table", 18), ("_law_made", 19), ("_law_paired", 20), ("law", 21)], [("Monoid", 4), ("TableMonoid", 5), ("PairMonoid", 6)], [("SIGNS", 0), ("MOST_MEMBERS", 1)], ["len", "abs", "int", "list", "tuple", "max", "min", "any", "all", "range", "enumerate", "isinstance", "super"], mNm, iniT, kwT, spsT⟩
theorem ck3 : chkB ge 30 ⟨N3, defScope s3, notCl⟩ fn3.body (defBody s3) = true := by decide +kernel
theorem ck4 : chkB ge 30 ⟨N4, defScope s4, notCl⟩ fn4.body (defBody s4) = true := by decide +kernel
theorem ck5 : chkB ge 30 ⟨N5, defScope s5, notCl⟩ fn5.body (defBody s5) = true := by decide +kernel
theorem ck6 : chkB ge 30 ⟨N6, defScope s6, notCl⟩ fn6.body (defBody s6) = true := by decide +kernel
theorem ck8 : chkB ge 30 ⟨N8, defScope s8, notCl⟩ fn8.body (defBody s8) = true := by decide +kernel
theorem ck9 : chkB ge 30 ⟨N9, defScope s9, notCl⟩ fn9.body (defBody s9) = true := by decide +kernel
theorem ck10 : chkB ge 30 ⟨N10, defScope s10, notCl⟩ fn10.body (defBody s10) = true := by decide +kernel
theorem ck11 : cBK ge 30 ⟨N11, defScope s11, notCl⟩ 5 3 fn11.body (defBody s11) = true := by decide +kernel
theorem ck12 : cBK ge 30 ⟨N12, defScope s12, notCl⟩ 6 3 fn12.body (defBody s12) = true := by decide +kernel
theorem ck13 : chkB ge 30 ⟨N13, defScope s13, notCl⟩ fn13.body (defBody s13) = true := by decide +kernel
theorem ck14 : chkB ge 30 ⟨N14, defScope s14, notCl⟩ fn14.body (defBody s14) = true := by decide +kernel
theorem ck15 : chkB ge 30 ⟨N15, defScope s15, notCl⟩ fn15.body (defBody s15) = true := by decide +kernel
theorem ck16 : chkB ge 30 ⟨N16, defScope s16, notCl⟩ fn16.body (defBody s16) = true := by decide +kernel
theorem ck17 : chkB ge 30 ⟨N17, defScope s17, notCl⟩ fn17.body (defBody s17) = true := by decide +kernel
theorem ck18 : chkB ge 30 ⟨N18, defScope s18, notCl⟩ fn18.body (defBody s18) = true := by decide +kernel
theorem ck19 : chkB ge 30 ⟨N19, defScope s19, notCl⟩ fn19.body (defBody s19) = true := by decide +kernel
theorem ck20 : chkB ge 30 ⟨N20, defScope s20, notCl⟩ fn20.body (defBody s20) = true := by decide +kernel
theorem ck21 : chkB ge 30 ⟨N21, defScope s21, notCl⟩ fn21.body (defBody s21) = true := by decide +kernel
def fnT : Nat → Option FnD
  | 3 => some fn3
  | 4 => some fn4
  | 5 => some fn5
  | 6 => some fn6
  | 8 => some fn8
  | 9 => some fn9
  | 10 => some fn10
  | 11 => some fn11
  | 12 => some fn12
  | 13 => some fn13
  | 14 => some fn14
  | 15 => some fn15
  | 16 => some fn16
  | 17 => some fn17
  | 18 => some fn18
  | 19 => some fn19
  | 20 => some fn20
  | 21 => some fn21
  | _ => none
def mthT : Nat → Nat → Option Nat
  | 4, 0 => some 9
  | 4, 1 => some 8
  | 4, 3 => some 4
  | 4, 4 => some 5
  | 4, 5 => some 6
  | 5, 0 => some 9
  | 5, 1 => some 8
  | 5, 3 => some 4
  | 5, 4 => some 5
  | 5, 5 => some 6
  | 6, 0 => some 9
  | 6, 1 => some 8
  | 6, 3 => some 4
  | 6, 4 => some 5
  | 6, 5 => some 6
  | _, _ => none
def nrC : Nat → Nat
  | 5 => 5
  | 6 => 6
  | _ => 4
def isa0 : Nat → Nat → Bool
  | 4, 4 => true
  | 5, 4 => true
  | 5, 5 => true
  | 6, 4 => true
  | 6, 6 => true
  | _, _ => false
def isaT (c d : Nat) : Bool := isa0 (nrC c) (nrC d)
def glT : Nat → Option T
  | 0 => some (.str "abcdefghijklmnopqrstuvwxyz0123456789")
  | 1 => some (.int 12)
  | _ => none
def psT : Nat → List Str
  | 3 => ["self", "names", "sums", "zero"]
  | 4 => ["self"]
  | 5 => ["self", "name"]
  | 6 => ["self", "first", "second"]
  | 8 => ["self", "name"]
  | 9 => ["self", "other"]
  | 10 => ["name"]
  | 11 => ["self", "names", "sums", "zero"]
  | 12 => ["self", "left", "right"]
  | 13 => ["monoid"]
  | 14 => ["_law_script"]
  | 15 => ["_law_source_here", "_law_many"]
  | 16 => ["_law_source_here", "_law_many"]
  | 17 => ["_law_names_here", "_law_sums", "_law_low"]
  | 18 => ["_law_source_here"]
  | 19 => ["_law_table_here"]
  | 20 => ["_law_one", "_law_other"]
  | 21 => ["_law_script"]
  | _ => []
def posT : Nat → Bool
  | 11 => false
  | _ => true
def G : Tab := ⟨fnT, mthT, iniT, isaT, glT⟩
def cA0 (C4 C5 C6 : Addr) : Nat → Addr
  | 5 => C5
  | 6 => C6
  | _ => C4
def fA0 (f3 f4 f5 f6 f8 f9 f10 f11 f12 f13 f14 f15 f16 f17 f18 f19 f20 f21 : Addr) : Nat → Addr
  | 3 => f3
  | 4 => f4
  | 5 => f5
  | 6 => f6
  | 8 => f8
  | 9 => f9
  | 10 => f10
  | 11 => f11
  | 12 => f12
  | 13 => f13
  | 14 => f14
  | 15 => f15
  | 16 => f16
  | 17 => f17
  | 18 => f18
  | 19 => f19
  | 20 => f20
  | 21 => f21
  | _ => 0
def fd0 (d3 d4 d5 d6 d8 d9 d10 d11 d12 d13 d14 d15 d16 d17 d18 d19 d20 d21 : FuncData) : Nat → FuncData
  | 3 => d3
  | 4 => d4
  | 5 => d5
  | 6 => d6
  | 8 => d8
  | 9 => d9
  | 10 => d10
  | 11 => d11
  | 12 => d12
  | 13 => d13
  | 14 => d14
  | 15 => d15
  | 16 => d16
  | 17 => d17
  | 18 => d18
  | 19 => d19
  | 20 => d20
  | 21 => d21
  | _ => d3
theorem nrC_cases (c : Nat) : nrC c = 4 ∨ nrC c = 5 ∨ nrC c = 6 := by
  unfold nrC
  split <;> simp
theorem ok_fd {fd : FuncData} {K : PySem.W.Frag} {x qual : Str} {st : Stmt} {f : Addr} (F : Fun K x qual st f fd) : ∃ (name qual : Str) (params : Arguments) (dV kV doc pm cdv ct oc : Value) (an od : Option Addr) (osl : Array (Option Value)), fd = PySem.W.fnOf name qual params (defBody st) (defScope st) dV kV doc pm an cdv ct ∧
    K.lookup f = some ⟨oc, od, .func fd, osl⟩ ∧ PySem.W.codeIn K cdv qual = true := by
  obtain ⟨oc, od, kV, doc, pm, an, cdv, ct, osl, e1, e2, e3⟩ := F.ex
  exact ⟨x, qual, defArgs st, .none, kV, doc, pm, cdv, ct, oc, an, od, osl, e1, e2, e3⟩
structure FunK (K : PySem.W.Frag) (x qual : Str) (st : Stmt) (f D : Addr) (fd : FuncData) : Prop where
  ex : ∃ (kV doc pm ct oc : Value) (an od : Option Addr) (osl : Array (Option Value)) (cc cda : Addr) (vs : Array Value) (file : Str) (tf : Tok) (ccl cl : Value) (cdd cld : Option Addr) (ccs csl : Array (Option Value)) (cdD : ClassData),
    fd = PySem.W.fnX x qual (defArgs st) (defBody st) (defScope st) (kcl cc) .none kV doc pm an (.ref cda) ct ∧ K.lookup f = some ⟨oc, od, .func fd, osl⟩ ∧ PySem.W.codeIn K (.ref cda) qual = true ∧
    K.lookup cda = some ⟨ccl, cdd, .fields vs, ccs⟩ ∧ vs[2]? = some (.str file tf) ∧ ((prg.main.file : Str) == file) = true ∧
    K.lookup cc = some ⟨cl, cld, .cell (some (.ref D)), csl⟩ ∧ PySem.W.clsIn K D = some cdD
  kp : PySem.W.keepIn K (.ref f) = true
theorem FunK.binds {K : PySem.W.Frag} {x qual : Str} {st : Stmt} {f D : Addr} {fd : FuncData} {ps : List Str} (F : FunK K x qual st f D fd)
    (h : ∀ (kV doc pm ct : Value) (an : Option Addr) (cc cda : Addr) (us : List Value), us.length = ps.length → bindArgs (PySem.W.fnX x qual (defArgs st) (defBody st) (defScope st) (kcl cc) .none kV doc pm an (.ref cda) ct) ⟨us, []⟩ = pure (ps.zip us)) : Binds K fd ps [] := by
  obtain ⟨kV, doc, pm, ct, oc, an, od, osl, cc, cda, vs, file, tf, ccl, cl, cdd, cld, ccs, csl, cdD, rfl, _⟩ := F.ex
  exact .all (h kV doc pm ct an cc cda)
theorem sc3 : FnScope N3 ["self", "names", "sums", "zero"] (defScope s3) := ⟨rfl, rfl, rfl, by decide +kernel, rfl, by decide +kernel, by decide +kernel⟩
theorem sc4 : FnScope N4 ["self"] (defScope s4) := ⟨rfl, rfl, rfl, by decide +kernel, rfl, by decide +kernel, by decide +kernel⟩
theorem sc5 : FnScope N5 ["self", "name"] (defScope s5) := ⟨rfl, rfl, rfl, by decide +kernel, rfl, by decide +kernel, by decide +kernel⟩
theorem sc6 : FnScope N6 ["self", "first", "second"] (defScope s6) := ⟨rfl, rfl, rfl, by decide +kernel, rfl, by decide +kernel, by decide +kernel⟩
theorem sc8 : FnScope N8 ["self", "name"] (defScope s8) := ⟨rfl, rfl, rfl, by decide +kernel, rfl, by decide +kernel, by decide +kernel⟩
theorem sc9 : FnScope N9 ["self", "other"] (defScope s9) := ⟨rfl, rfl, rfl, by decide +kernel, rfl, by decide +kernel, by decide +kernel⟩
theorem sc10 : FnScope N10 ["name"] (defScope s10) := ⟨rfl, rfl, rfl, by decide +kernel, rfl, by decide +kernel, by decide +kernel⟩
theorem sc11 : KScope N11 ["self", "names", "sums", "zero"] (defScope s11) := ⟨rfl, rfl, rfl, by decide +kernel, rfl, by decide +kernel, by decide +kernel, by decide +kernel⟩
theorem sc12 : KScope N12 ["self", "left", "right"] (defScope s12) := ⟨rfl, rfl, rfl, by decide +kernel, rfl, by decide +kernel, by decide +kernel, by decide +kernel⟩
theorem sc13 : FnScope N13 ["monoid"] (defScope s13) := ⟨rfl, rfl, rfl, by decide +kernel, rfl, by decide +kernel, by decide +kernel⟩
theorem sc14 : FnScope N14 ["_law_script"] (defScope s14) := ⟨rfl, rfl, rfl, by decide +kernel, rfl, by decide +kernel, by decide +kernel⟩
theorem sc15 : FnScope N15 ["_law_source_here", "_law_many"] (defScope s15) := ⟨rfl, rfl, rfl, by decide +kernel, rfl, by decide +kernel, by decide +kernel⟩
theorem sc16 : FnScope N16 ["_law_source_here", "_law_many"] (defScope s16) := ⟨rfl, rfl, rfl, by decide +kernel, rfl, by decide +kernel, by decide +kernel⟩
theorem sc17 : FnScope N17 ["_law_names_here", "_law_sums", "_law_low"] (defScope s17) := ⟨rfl, rfl, rfl, by decide +kernel, rfl, by decide +kernel, by decide +kernel⟩
theorem sc18 : FnScope N18 ["_law_source_here"] (defScope s18) := ⟨rfl, rfl, rfl, by decide +kernel, rfl, by decide +kernel, by decide +kernel⟩
theorem sc19 : FnScope N19 ["_law_table_here"] (defScope s19) := ⟨rfl, rfl, rfl, by decide +kernel, rfl, by decide +kernel, by decide +kernel⟩
theorem sc20 : FnScope N20 ["_law_one", "_law_other"] (defScope s20) := ⟨rfl, rfl, rfl, by decide +kernel, rfl, by decide +kernel, by decide +kernel⟩
theorem sc21 : FnScope N21 ["_law_script"] (defScope s21) := ⟨rfl, rfl, rfl, by decide +kernel, rfl, by decide +kernel, by decide +kernel⟩
end MS

set_option Elab.async false
set_option linter.all false
/-! P03: the plain law of k03, from the leaves up. -/
namespace MS
open PySem
/-- Monoid.members -/
theorem r4 {C : Cl} {c : Nat} {fs : List (Nat × T)} {ns : List T} (e : fs.lookup 1 = some (.tup ns)) : run C fn4 [.t (.ins c fs)] [] = .ok (.t (.lst ns)) [] :=
  run_rt0 rfl (ss_rt (st_ret (pv_op (pvs_cons (pv_op (pvs_cons (pv_var rfl) pvs_nil) fun h => o_fld e) pvs_nil) fun h => o_listt)))
theorem o_idxd {kvs : List (T × T)} {k x : T} {h : List Ob} (hk : ∀ h, keyV (.t k) h = .ok k h) (e : dget (kvs.map fun p => (p.1, Val.t p.2)) k = some (.t x)) : opM .idxd [.t (.dct kvs), .t k] h = .ok (.t x) h := by
  show MH.bind (keyV (.t k)) (fun k => MH.bind (dctV (.t (.dct kvs))) fun kvs => match dget kvs k with | some v => fun h => RH.ok (nrm v h) h | none => bad) h = _
  rw [b_ok (hk h), b_ok (show dctV (.t (.dct kvs)) h = .ok (kvs.map fun p => (p.1, Val.t p.2)) h from rfl), e]
  rfl
theorem pt_innd {C : Cl} {loc : Loc} {neg : Bool} {a b : E} {kvs : List (T × T)} {k : T} {r : Bool} (ha : PV C loc a k) (hb : PV C loc b (.dct kvs)) (hk : ∀ h, keyV (.t k) h = .ok k h) (e : (dget (kvs.map fun p => (p.1, Val.t p.2)) k).isSome = r) : PT C loc (.inn neg a b) (r ^^ neg) := fun h => by
  show MH.bind (evE C a loc) (fun v => MH.bind (evE C b loc) fun w => MH.bind (innM C neg v w) blV) h = _
  rw [b_ok (ha h), b_ok (hb h)]
  have q : innM C neg (.t k) (.t (.dct kvs)) h = .ok (.t (.bl (r ^^ neg))) h := by
    show MH.bind (keyV (.t k)) (fun k => MH.bind (dctV (.t (.dct kvs))) fun kvs => bl ((dget kvs k).isSome ^^ neg)) h = _
    rw [b_ok (hk h), b_ok (show dctV (.t (.dct kvs)) h = .ok (kvs.map fun p => (p.1, Val.t p.2)) h from rfl), e]
    rfl
  rw [b_ok q]
  rfl
/-- Monoid.place -/
theorem r5 {C : Cl} {c : Nat} {fs : List (Nat × T)} {kvs : List (T × T)} {k x : T} (e : fs.lookup 2 = some (.dct kvs)) (hk : ∀ h, keyV (.t k) h = .ok k h) (e2 : dget (kvs.map fun p => (p.1, Val.t p.2)) k = some (.t x)) : run C fn5 [.t (.ins c fs), .t k] [] = .ok (.t x) [] := by
  have hp : PV C (startL fn5 [.t (.ins c fs), .t k]) (.op (.fld 2) [.var 0]) (.dct kvs) := pv_op (pvs_cons (pv_var rfl) pvs_nil) fun h => o_fld e
  have hv : PV C (startL fn5 [.t (.ins c fs), .t k]) (.var 1) k := pv_var rfl
  refine run_rt0 rfl ((ss_nx ((st_iff (pt_innd (r := true) hv hp hk (by rw [e2]; rfl))).trans rfl)).trans (ss_rt (st_ret (pv_op (pvs_cons hp (pvs_cons hv pvs_nil)) fun h => o_idxd hk e2))))
/-- Monoid.plus -/
theorem r6 {C : Cl} {c : Nat} {fs : List (Nat × T)} {sums row names : List T} {a b z : T} {i j k : Nat} {h1 h2 : List Ob} (hm : C.mth c 4 = some 5) (e1 : fs.lookup 1 = some (.tup names)) (e3 : fs.lookup 3 = some (.tup sums))
    (ha : C.fn 5 [.t (.ins c fs), .t a] [] = .ok (.t (.int (i : Int))) h1) (hb : C.fn 5 [.t (.ins c fs), .t b] [] = .ok (.t (.int (j : Int))) h2) (hi : sums[i]? = some (.tup row)) (hj : row[j]? = some (.int (k : Int))) (hz : names[k]? = some z) :
    run C fn6 [.t (.ins c fs), .t a, .t b] [] = .ok (.t z) [] := by
  refine run_rt0 rfl ((ss_nx (st_set (x := .tup row) (pv_op (pvs_cons (pv_op (pvs_cons (pv_var rfl) pvs_nil) fun h => o_fld e3) (pvs_cons (pv_meth (pv_var rfl) (pvs_cons (pv_var rfl) pvs_nil) hm ha) pvs_nil)) fun h => o_idxt hi))).trans (ss_rt (st_ret ?_)))
  exact pv_op (pvs_cons (pv_op (pvs_cons (pv_var rfl) pvs_nil) fun h => o_fld e1) (pvs_cons (pv_op (pvs_cons (pv_var rfl) (pvs_cons (pv_meth (pv_var rfl) (pvs_cons (pv_var rfl) pvs_nil) hm hb) pvs_nil)) fun h => o_idxt hj) pvs_nil)) fun h => o_idxt hz
/-! ### what both searches find -/
def dueS (nm : Nat → T) (n : Nat) (s : Nat → Nat → Nat) : Option T := (List.range n).findSome? fun a => (List.range n).findSome? fun b => if s a b = s b a then none else some (.tup [.str "swap", .tup [nm a, nm b]])
def dueZ (nm : Nat → T) (n : Nat) (s : Nat → Nat → Nat) (low : Nat) : Option T := (List.range n).findSome? fun a => if s a low = a then none else some (.tup [.str "zero", .tup [nm a]])
def dueG (nm : Nat → T) (n : Nat) (s : Nat → Nat → Nat) : Option T := (List.range n).findSome? fun a => (List.range n).findSome? fun b => (List.range n).findSome? fun c =>
  if s (s a b) c = s a (s b c) then none else some (.tup [.str "group", .tup [nm a, nm b, nm c]])
def due (nm : Nat → T) (n : Nat) (s : Nat → Nat → Nat) (low : Nat) : T := match dueS nm n s with
  | some x => x
  | none => match dueZ nm n s low with
    | some x => x
    | none => (dueG nm n s).getD .non
def nmT (nm : Nat → T) (n : Nat) : T := .lst ((List.range n).map nm)
def suT (s : Nat → Nat → Nat) (n : Nat) : T := .lst ((List.range n).map fun a => .lst ((List.range n).map fun b => .int (s a b : Nat)))
def evT_ (n : Nat) : List T := (List.range n).map fun k => .int (k : Nat)
theorem rng_get {A : Type} {n k : Nat} (f : Nat → A) (h : k < n) : ((List.range n).map f)[k]? = some (f k) := by
  rw [List.getElem?_map, List.getElem?_range h]
  rfl
/-- where _law_due stands -/
structure D17 (nm : Nat → T) (n : Nat) (s : Nat → Nat → Nat) (low : Nat) (loc : Loc) : Prop where
  l0 : loc[0]? = some (some (.t (nmT nm n)))
  l1 : loc[1]? = some (some (.t (suT s n)))
  l2 : loc[2]? = some (some (.t (.int (low : Nat))))
  l3 : loc[3]? = some (some (.t (.lst (evT_ n))))
  len : loc.length = 7
theorem D17.set {nm : Nat → T} {n low : Nat} {s : Nat → Nat → Nat} {loc : Loc} (d : D17 nm n s low loc) {i : Nat} (hi : 4 ≤ i) (v : Option Val) : D17 nm n s low (loc.set i v) := by
  refine ⟨?_, ?_, ?_, ?_, ?_⟩
  · rw [List.getElem?_set_ne (by omega)]; exact d.l0
  · rw [List.getElem?_set_ne (by omega)]; exact d.l1
  · rw [List.getElem?_set_ne (by omega)]; exact d.l2
  · rw [List.getElem?_set_ne (by omega)]; exact d.l3
  · rw [List.length_set]; exact d.len
theorem at17 {C : Cl} {nm : Nat → T} {n low : Nat} {s : Nat → Nat → Nat} {loc : Loc} (d : D17 nm n s low loc) {x y : E} {a b : Nat} (hx : PV C loc x (.int (a : Nat))) (hy : PV C loc y (.int (b : Nat))) (ha : a < n) (hb : b < n) : PV C loc (.op .idx [.op .idx [.var 1, x], y]) (.int (s a b : Nat)) :=
  pv_op (pvs_cons (pv_op (pvs_cons (pv_var d.l1) (pvs_cons hx pvs_nil)) fun h => o_idxl (rng_get _ ha)) (pvs_cons hy pvs_nil)) fun h => o_idxl (rng_get _ hb)
theorem nm17 {C : Cl} {nm : Nat → T} {n low : Nat} {s : Nat → Nat → Nat} {loc : Loc} (d : D17 nm n s low loc) {x : E} {a : Nat} (hx : PV C loc x (.int (a : Nat))) (ha : a < n) : PV C loc (.op .idx [.var 0, x]) (nm a) :=
  pv_op (pvs_cons (pv_var d.l0) (pvs_cons hx pvs_nil)) fun h => o_idxl (rng_get _ ha)
theorem sw17 {C : Cl} {nm : Nat → T} {n low : Nat} {s : Nat → Nat → Nat} {loc : Loc} {h : List Ob} {J : Loc → Prop} {a b : Nat} (d : D17 nm n s low loc) (j : J loc) (ha : a < n) (hb : b < n) (l4 : loc[4]? = some (some (.t (.int (a : Nat))))) (l5 : loc[5]? = some (some (.t (.int (b : Nat))))) :
    Found J h (if s a b = s b a then none else some (.tup [.str "swap", .tup [nm a, nm b]])) (exSs C [.iff (.eqq true (.op .idx [(.op .idx [(.var 1), (.var 4)]), (.var 5)]) (.op .idx [(.op .idx [(.var 1), (.var 5)]), (.var 4)])) [.ret false (.tup [(.str "swap"), (.tup [(.op .idx [(.var 0), (.var 4)]), (.op .idx [(.var 0), (.var 5)])])])] []] loc h) := by
  have e := st_iff (h := h) (u := [.ret false (.tup [(.str "swap"), (.tup [(.op .idx [(.var 0), (.var 4)]), (.op .idx [(.var 0), (.var 5)])])])]) (v := []) (pt_eqi (neg := true) (at17 d (pv_var (C := C) l4) (pv_var l5) ha hb) (at17 d (pv_var l5) (pv_var l4) hb ha))
  by_cases q : s a b = s b a
  · rw [if_pos q]
    rw [show decide (((s a b : Nat) : Int) = ((s b a : Nat) : Int)) = true from decide_eq_true (by rw [q])] at e
    exact ⟨loc, (ss_nx e).trans rfl, j⟩
  · rw [if_neg q]
    rw [show decide (((s a b : Nat) : Int) = ((s b a : Nat) : Int)) = false from decide_eq_false (by omega)] at e
    exact ss_rt (e.trans (ss_rt (st_ret (pv_tup (pvs_cons pv_str (pvs_cons (pv_tup (pvs_cons (nm17 d (pv_var l4) ha) (pvs_cons (nm17 d (pv_var l5) hb) pvs_nil))) pvs_nil))))))
/-- the first search of _law_due -/
theorem loopS17 {C : Cl} {nm : Nat → T} {n low : Nat} {s : Nat → Nat → Nat} {loc : Loc} {h : List Ob} (d : D17 nm n s low loc) :
    Found (D17 nm n s low) h (dueS nm n s) (exS C (.fr (.v 4) (.seq (.var 3)) [.fr (.v 5) (.seq (.var 3)) [.iff (.eqq true (.op .idx [(.op .idx [(.var 1), (.var 4)]), (.var 5)]) (.op .idx [(.op .idx [(.var 1), (.var 5)]), (.var 4)])) [.ret false (.tup [(.str "swap"), (.tup [(.op .idx [(.var 0), (.var 4)]), (.op .idx [(.var 0), (.var 5)])])])] []]]) loc h) := by
  rw [st_seq (pi_lst (pv_var d.l3))]
  refine forM_findA (fun k : Nat => T.int (k : Nat)) _ (List.range n) loc (fun a ha loc d => ⟨_, rfl, ?_⟩) d
  have ha : a < n := List.mem_range.mp ha
  have d4 := d.set (i := 4) (Nat.le_refl _) (some (.t (.int (a : Nat))))
  have l4 : (loc.set 4 (some (.t (.int (a : Nat)))))[4]? = some (some (.t (.int (a : Nat)))) := List.getElem?_set_self (by rw [d.len]; decide)
  have q : Found (fun l => D17 nm n s low l ∧ l[4]? = some (some (.t (.int (a : Nat))))) h ((List.range n).findSome? fun b => if s a b = s b a then none else some (.tup [.str "swap", .tup [nm a, nm b]])) (exS C (.fr (.v 5) (.seq (.var 3)) [.iff (.eqq true (.op .idx [(.op .idx [(.var 1), (.var 4)]), (.var 5)]) (.op .idx [(.op .idx [(.var 1), (.var 5)]), (.var 4)])) [.ret false (.tup [(.str "swap"), (.tup [(.op .idx [(.var 0), (.var 4)]), (.op .idx [(.var 0), (.var 5)])])])] []]) (loc.set 4 (some (.t (.int (a : Nat))))) h) := by
    rw [st_seq (pi_lst (pv_var d4.l3))]
    refine forM_findA (fun k : Nat => T.int (k : Nat)) _ (List.range n) _ (fun b hb loc d => ⟨_, rfl, ?_⟩) ⟨d4, l4⟩
    have hb : b < n := List.mem_range.mp hb
    have l4' : (loc.set 5 (some (.t (.int (b : Nat)))))[4]? = some (some (.t (.int (a : Nat)))) := by rw [List.getElem?_set_ne (by decide)]; exact d.2
    exact sw17 (d.1.set (by decide) _) ⟨d.1.set (by decide) _, l4'⟩ ha hb l4' (List.getElem?_set_self (by rw [d.1.len]; decide))
  revert q
  cases (List.range n).findSome? fun b => if s a b = s b a then none else some (T.tup [.str "swap", .tup [nm a, nm b]]) with
  | some x => exact fun q => ss_rt q
  | none => exact fun ⟨l, q, d, _⟩ => ⟨l, (ss_nx q).trans rfl, d⟩
end MS

set_option Elab.async false
set_option linter.all false
set_option maxRecDepth 100000
/-! Q03: the plain law of k03: the source and its picks. -/
namespace MS
open PySem
section
variable {C : Cl} {l m t i : Int} {cs : List Int} {h : List Ob}
@[simp] theorem g_cells : opM .idxd [.ref 0, .t (.str "cells")] (srcO l m t :: intsO cs :: h) = .ok (.ref 1) (srcO l m t :: intsO cs :: h) := id rfl
@[simp] theorem g_left : opM .idxd [.ref 0, .t (.str "left")] (srcO l m t :: h) = .ok (.t (.int l)) (srcO l m t :: h) := id rfl
@[simp] theorem g_mixed : opM .idxd [.ref 0, .t (.str "mixed")] (srcO l m t :: h) = .ok (.t (.int m)) (srcO l m t :: h) := id rfl
@[simp] theorem g_turn : opM .idxd [.ref 0, .t (.str "turn")] (srcO l m t :: h) = .ok (.t (.int t)) (srcO l m t :: h) := id rfl
@[simp] theorem u_left : setDM (.ref 0) (.t (.str "left")) (.t (.int i)) (srcO l m t :: h) = .ok () (srcO i m t :: h) := id rfl
@[simp] theorem u_turn : setDM (.ref 0) (.t (.str "turn")) (.t (.int i)) (srcO l m t :: h) = .ok () (srcO l m i :: h) := id rfl
@[simp] theorem g_len : opM .len [.ref 1] (srcO l m t :: intsO cs :: h) = .ok (.t (.int (cs.length : Nat))) (srcO l m t :: intsO cs :: h) := by
  show RH.ok (Val.t (.int (((cs.map fun i => Val.t (.int i)).length : Nat)))) _ = _
  rw [List.length_map]
@[simp] theorem g_sq (o : Op) : isSeq o.tp (.ref 1) (srcO l m t :: intsO cs :: h) = .ok () (srcO l m t :: intsO cs :: h) := id rfl
@[simp] theorem g_n0 : nrm (.ref 0) (srcO l m t :: h) = .ref 0 := id rfl
@[simp] theorem g_n1 : nrm (.ref 1) (srcO l m t :: intsO cs :: h) = .ref 1 := id rfl
@[simp] theorem g_pop : opM .pop [.ref 1] (srcO l m t :: intsO (cs ++ [i]) :: h) = .ok (.t (.int i)) (srcO l m t :: intsO cs :: h) := by
  have e0 : ((cs ++ [i]).map fun i => Val.t (.int i)) = (cs.map fun i => Val.t (.int i)) ++ [.t (.int i)] := by rw [List.map_append]; rfl
  have e2 : ((cs.map fun i => Val.t (.int i)) ++ [Val.t (.int i)])[((cs.map fun i => Val.t (.int i)) ++ [Val.t (.int i)]).length - 1]? = some (.t (.int i)) := by
    rw [List.length_append]
    simp
  have e1 : cellV (.ref 1) (srcO l m t :: intsO (cs ++ [i]) :: h) = .ok (1, (cs.map fun i => Val.t (.int i)) ++ [.t (.int i)]) (srcO l m t :: intsO (cs ++ [i]) :: h) := by
    show RH.ok (1, ((cs ++ [i]).map fun i => Val.t (.int i))) _ = _
    rw [e0]
  unfold opM
  simp only [x_bind2, e1, e2, List.dropLast_concat]
  rfl
end
theorem cmul_r {i j : Int} (h1 : -(2 ^ 64) < j) (h2 : j < 2 ^ 64) : L2.CMul i j := by
  unfold L2.CMul
  omega

def hp (l m t : Int) (cs : List Int) (rest : List Ob) : List Ob := srcO l m t :: intsO cs :: rest
theorem cdivn {i j : Int} (h1 : 0 < j) (h2 : j < 1073741824) : L2.CDivN i j := by
  unfold L2.CDivN
  omega
theorem w15 {C : Cl} {k : Nat} {m t many : Int} {rest : List Ob} {loc : Loc} (h0 : loc[0]? = some (some (.ref 0))) (h2 : loc[2]? = some (some (.ref 1))) : ∀ (cs : List Int) (l : Int), cs.length < k → ∃ l' cs', cs'.length ≤ cs.length ∧
    whileM (evT C (.and [(.op .lt [(.op .idxd [(.var 0), (.str "left")]), (.int 2)]), (.op .gt [(.op .len [(.var 2)]), (.int 0)])])) (exSs C [.subd (.var 0) (.str "left") (.lm .pop (.var 2) [])]) k loc (srcO l m t :: intsO cs :: rest) = .ok (.nx loc) (srcO l' m t :: intsO cs' :: rest) := by
  induction k with
  | zero => intro cs l h; exact absurd h (Nat.not_lt_zero _)
  | succ k ih =>
    intro cs l hl
    have et : evT C (.and [(.op .lt [(.op .idxd [(.var 0), (.str "left")]), (.int 2)]), (.op .gt [(.op .len [(.var 2)]), (.int 0)])]) loc (srcO l m t :: intsO cs :: rest) = .ok (decide (l < 2) && decide (0 < cs.length)) (srcO l m t :: intsO cs :: rest) := by
      by_cases q1 : l < 2 <;> by_cases q2 : 0 < cs.length <;> simp [q1, q2, h0, h2]
    by_cases q : l < 2 ∧ 0 < cs.length
    · rcases List.eq_nil_or_concat cs with rfl | ⟨cs, c, rfl⟩
      · exact absurd q.2 (by simp)
      · have eb : exSs C [.subd (.var 0) (.str "left") (.lm .pop (.var 2) [])] loc (srcO l m t :: intsO (cs.concat c) :: rest) = .ok (.nx loc) (srcO c m t :: intsO cs :: rest) := by
          simp [h0, h2]
        rw [List.concat_eq_append] at *
        obtain ⟨l', cs', e1, e2⟩ := ih cs c (by simp at hl; omega)
        refine ⟨l', cs', by simp; omega, ?_⟩
        unfold whileM
        rw [et, q.1 |> decide_eq_true, q.2 |> decide_eq_true]
        simp only [Bool.and_self, eb]
        exact e2
    · refine ⟨l, cs, Nat.le_refl _, ?_⟩
      unfold whileM
      rw [et, show (decide (l < 2) && decide (0 < cs.length)) = false by simpa using q]
/-- _law_pick -/
theorem r15 {C : Cl} (hC : 64 ≤ C.wf) {l m t many : Int} {cs : List Int} {rest : List Ob} (hcs : cs.length ≤ 63) (h1 : 1 ≤ many) (h2 : many < 10000000) :
    ∃ r l' m' t' cs', 0 ≤ r ∧ r < many ∧ cs'.length ≤ 63 ∧ run C fn15 [.ref 0, .t (.int many)] (srcO l m t :: intsO cs :: rest) = .ok (.t (.int r)) (srcO l' m' t' :: intsO cs' :: rest) := by
  suffices H : ∃ r l' m' t' cs', 0 ≤ r ∧ r < many ∧ cs'.length ≤ 63 ∧ exSs C fn15.body (startL fn15 [.ref 0, .t (.int many)]) (srcO l m t :: intsO cs :: rest) = .ok (.ret (.t (.int r))) (srcO l' m' t' :: intsO cs' :: rest) by
    obtain ⟨r, l', m', t', cs', a1, a2, a3, e⟩ := H
    refine ⟨r, l', m', t', cs', a1, a2, a3, ?_⟩
    rw [run_rt rfl e, trunc_len (by simp)]
  by_cases q : many < 2
  · exact ⟨0, l, m, t, cs, by omega, by omega, hcs, by simp [fn15, startL, q]⟩
  · obtain ⟨l1, cs1, hl1, ew⟩ := w15 (C := C) (k := C.wf) (m := m) (t := t) (many := many) (rest := rest) (loc := [some (.ref 0), some (.t (.int many)), some (.ref 1), none, none, none]) rfl rfl cs l (by omega)
    by_cases q2 : 1 < l1
    · refine ⟨l1.fmod many, l1.fdiv many, m, t, cs1, Int.fmod_nonneg_of_pos _ (by omega), Int.fmod_lt_of_pos _ (by omega), by omega, ?_⟩
      have hd : L2.CDivN l1 many := cdivn (by omega) (by omega)
      have hz : ¬ many = 0 := by omega
      simp [fn15, startL, q, ew, q2, hd, hz]
    · have hm1 : ∀ x : Int, L2.CMul x 104729 := fun x => cmul_r (by decide) (by decide)
      have hm2 : ∀ x : Int, L2.CMul x 17 := fun x => cmul_r (by decide) (by decide)
      have hm3 : ∀ x : Int, L2.CMul (x.fmod 998244353) (x.fmod 998244353) := fun x => by
        have := Int.fmod_lt_of_pos x (b := 998244353) (by decide)
        have := Int.fmod_nonneg_of_pos x (b := 998244353) (by decide)
        exact cmul_r (by omega) (by omega)
      have hp : L2.CPow 10 7 := by unfold L2.CPow; omega
      have hd : ∀ x, L2.CDivN x 16 := fun x => cdivn (by decide) (by decide)
      have hz : ¬ many = 0 := by omega
      have hb : ¬ (10000000 : Int) < many := by omega
      have e : ∃ r, 0 ≤ r ∧ r < many ∧ exSs C fn15.body (startL fn15 [.ref 0, .t (.int many)]) (srcO l m t :: intsO cs :: rest) = .ok (.ret (.t (.int r))) (srcO l1 m (t + 1) :: intsO cs1 :: rest) := by
        refine ⟨(Int.fdiv (((((m + (t + 1) * 104729).fmod 998244353) * ((m + (t + 1) * 104729).fmod 998244353)) + (t + 1) * 17).fmod 2147483647) 16).fmod many, Int.fmod_nonneg_of_pos _ (by omega), Int.fmod_lt_of_pos _ (by omega), ?_⟩
        simp [fn15, startL, q, ew, q2, hd, hz, hm1, hm2, hm3, hp, hb]
      obtain ⟨r, a, b, e⟩ := e
      exact ⟨r, l1, m, t + 1, cs1, a, b, by omega, e⟩
/-- .. at a call -/
theorem pk {C : Cl} (hC : 64 ≤ C.wf) {rest h : List Ob} (S : Sr rest h) {many : Int} (h1 : 1 ≤ many) (h2 : many < 10000000) : ∃ (r : Nat) (h' : List Ob), (r : Int) < many ∧ Sr rest h' ∧ run C fn15 [.ref 0, .t (.int many)] h = .ok (.t (.int (r : Nat))) h' := by
  obtain ⟨l, m, t, cs, hcs, rfl⟩ := S
  obtain ⟨r, l', m', t', cs', a1, a2, a3, e⟩ := r15 hC (l := l) (m := m) (t := t) (rest := rest) hcs h1 h2
  refine ⟨r.toNat, _, by omega, ⟨l', m', t', cs', a3, rfl⟩, ?_⟩
  rw [e, Int.toNat_of_nonneg a1]
end MS

set_option Elab.async false
set_option linter.all false
set_option maxRecDepth 100000
/-! Q3B: _law_source -/
namespace MS
open PySem
theorem lcM_ints {asgn : Val → Loc → Option Loc} {loc : Loc} {tst : Loc → MH Bool} {elt : Loc → MH Val} (g : Int → Int) : ∀ (xs : List Int) (h : List Ob), (∀ x ∈ xs, ∃ l, asgn (.t (.int x)) loc = some l ∧ (∀ h, tst l h = .ok true h) ∧ ∀ h, elt l h = .ok (.t (.int (g x))) h) →
    lcM asgn loc tst elt (xs.map fun i => .t (.int i)) h = .ok ((xs.map g).map fun i => .t (.int i)) h
  | [], h, _ => rfl
  | x :: xs, h, H => by
    obtain ⟨l, e1, e2, e3⟩ := H x List.mem_cons_self
    have IH := lcM_ints (asgn := asgn) (tst := tst) (elt := elt) g xs h fun y hy => H y (List.mem_cons_of_mem _ hy)
    show (match asgn (.t (.int x)) loc with
      | none => bad
      | some l => MH.bind (tst l) fun b => if b then MH.bind (elt l) fun v => MH.bind (lcM asgn loc tst elt (xs.map fun i => .t (.int i))) fun vs => (pure (v :: vs) : MH (List Val)) else lcM asgn loc tst elt (xs.map fun i => .t (.int i))) h = _
    rw [e1]
    dsimp only
    rw [b_ok (e2 h), if_pos rfl, b_ok (e3 h), b_ok IH]
    rfl
theorem e14 {C : Cl} {a0 a1 c : Option Val} {as : List Int} {k : Nat} (hk : k < as.length) {h : List Ob} : evE C (.op .idx [(.var 3), (.op .sub [(.op .sub [(.op .len [(.var 3)]), (.int 1)]), (.var 4)])]) [a0, a1, c, some (.t (.lst (as.map .int))), some (.t (.int (k : Nat)))] h = .ok (.t (.int (as.getD (as.length - 1 - k) 0))) h := by
  have e : (as.length : Int) - 1 - (k : Nat) = ((as.length - 1 - k : Nat) : Int) := by omega
  have e4 : (as.map T.int)[as.length - 1 - k]? = some (.int (as.getD (as.length - 1 - k) 0)) := by
    rw [List.getElem?_map, List.getD_eq_getElem?_getD, List.getElem?_eq_getElem (by omega)]
    rfl
  simp only [x_op, x_bind, x_cons, x_var, x_nil, x_int, x_pure, List.getElem?_cons_succ, List.getElem?_cons_zero, v_nrmt, p_lenl, List.length_map, p_sub]
  rw [e, p_idxl, e4]
theorem f14 {C : Cl} {a0 a1 c : Option Val} {as : List Int} (hl : as.length ≤ 63) : evE C (.lc true [4] (.v 4) (.rng1 (.op .len [(.var 3)])) [] (.op .idx [(.var 3), (.op .sub [(.op .sub [(.op .len [(.var 3)]), (.int 1)]), (.var 4)])])) [a0, a1, c, some (.t (.lst (as.map .int))), none] [.dct []] = .ok (.ref 1) [.dct [], intsO ((List.range as.length).map fun k => as.getD (as.length - 1 - k) 0)] := by
  have q := lcM_ints (asgn := asg (.v 4)) (loc := wipeL [a0, a1, c, some (.t (.lst (as.map .int))), none] [4]) (tst := evTs C []) (elt := evE C (.op .idx [(.var 3), (.op .sub [(.op .sub [(.op .len [(.var 3)]), (.int 1)]), (.var 4)])])) (fun i => as.getD (as.length - 1 - i.toNat) 0) ((List.range as.length).map fun k => ((k : Nat) : Int)) [.dct []] fun i hi => ⟨_, rfl, fun _ => rfl, fun h => by
    obtain ⟨k, hk, rfl⟩ := List.mem_map.mp hi
    exact e14 (List.mem_range.mp hk)⟩
  refine (lc_keep (h1 := [.dct []]) (h2 := [.dct []]) ?_ ?_ q).trans ?_
  · rw [i_rngN (n := as.length) (h1 := [.dct []]) (by simp) (by omega)]
    simp
  · simp
    exact Nat.le_trans hl (by decide)
  · simp [intsO]
theorem d14 {C : Cl} {loc : Loc} {h h1 : List Ob} {e : E} {v : Val} {x : Int} (hv : evE C e loc (h ++ [.dct []]) = .ok v h1) (hx : loc[1]? = some (some (.t (.int x)))) (h0 : h1[h.length]? = some (.dct [])) : evE C (.dsp true [(.str "cells"), e, (.str "left"), (.int 1), (.str "mixed"), (.var 1), (.str "turn"), (.int 0)]) loc h =
    .ok (.ref h.length) (h1.set h.length (.dct [(.str "cells", v), (.str "left", .t (.int 1)), (.str "mixed", .t (.int x)), (.str "turn", .t (.int 0))])) := by
  show MH.bind (newN (.dct [])) (fun n => MH.bind (evPs C [(.str "cells"), e, (.str "left"), (.int 1), (.str "mixed"), (.var 1), (.str "turn"), (.int 0)] loc []) fun acc => MH.bind (fillD n acc) fun _ => (pure (.ref n) : MH Val)) h = _
  rw [b_ok (show newN (.dct []) h = .ok h.length (h ++ [.dct []]) from rfl)]
  have e : evPs C [(.str "cells"), e, (.str "left"), (.int 1), (.str "mixed"), (.var 1), (.str "turn"), (.int 0)] loc [] (h ++ [.dct []]) = .ok [(.str "cells", v), (.str "left", .t (.int 1)), (.str "mixed", .t (.int x)), (.str "turn", .t (.int 0))] h1 := by
    show MH.bind (evE C e loc) (fun v => MH.bind (evE C (.var 1) loc) fun x => (pure (dput (dput (dput (dput [] (.str "cells") v) (.str "left") (.t (.int 1))) (.str "mixed") x) (.str "turn") (.t (.int 0))) : MH _)) _ = _
    rw [b_ok hv, b_ok (show evE C (.var 1) loc h1 = .ok (.t (.int x)) h1 by rw [x_var, hx]; rfl)]
    rfl
  rw [b_ok e]
  rw [b_ok (fill_ok h0)]
  rfl
theorem g14 {C : Cl} {ns : List Int} : ∃ x c, forM (.v 2) (exSs C [.set 1 (.op .mod [(.op .int1 [(.op .add [(.op .add [(.op .mul [(.var 1), (.int 69069)]), (.op .mul [(.var 2), (.int 31)])]), (.int 5)])]), (.int 2147483629)])]) (ns.map fun i => .t (.int i)) [some (.t (.scr ns)), some (.t (.int 11)), none, none, none] [] =
      .ok (.nx [some (.t (.scr ns)), some (.t (.int x)), c, none, none]) [] := by
  have hm1 : ∀ x : Int, L2.CMul x 69069 := fun x => cmul_r (by decide) (by decide)
  have hm2 : ∀ x : Int, L2.CMul x 31 := fun x => cmul_r (by decide) (by decide)
  refine forM_inv (J := fun xs loc h => (∀ v ∈ xs, ∃ i, v = .t (.int i)) ∧ ∃ x c, loc = [some (.t (.scr ns)), some (.t (.int x)), c, none, none] ∧ h = []) (R := fun r => ∃ x c, r = .ok (.nx [some (.t (.scr ns)), some (.t (.int x)), c, none, none]) []) ?_ ?_ _ _ _ ⟨?_, 11, none, rfl, rfl⟩
  · rintro v xs loc h ⟨hv, x, c, rfl, rfl⟩
    obtain ⟨i, rfl⟩ := hv v List.mem_cons_self
    refine ⟨_, rfl, ?_⟩
    have e : exSs C [.set 1 (.op .mod [(.op .int1 [(.op .add [(.op .add [(.op .mul [(.var 1), (.int 69069)]), (.op .mul [(.var 2), (.int 31)])]), (.int 5)])]), (.int 2147483629)])] ([some (.t (.scr ns)), some (.t (.int x)), c, none, none].set 2 (some (nrm (.t (.int i)) []))) [] = .ok (.nx [some (.t (.scr ns)), some (.t (.int ((x * 69069 + i * 31 + 5).fmod 2147483629))), some (.t (.int i)), none, none]) [] := by
      simp [hm1, hm2]
    rw [e]
    exact ⟨fun v hv' => hv v (List.mem_cons_of_mem _ hv'), _, _, rfl, rfl⟩
  · rintro loc h ⟨_, x, c, rfl, rfl⟩
    exact ⟨x, c, rfl⟩
  · intro v hv
    obtain ⟨i, _, e⟩ := List.mem_map.mp hv
    exact ⟨i, e.symm⟩
theorem h14 {C : Cl} {ns : List Int} {x : Int} {c : Option Val} (hn : ns.length ≤ 63) : evE C (.lc false [2] (.v 2) (.seq (.var 0)) [] (.op .abs [(.var 2)])) [some (.t (.scr ns)), some (.t (.int x)), c, none, none] [] = .ok (.t (.lst ((ns.map fun i => if i < 0 then -i else i).map .int))) [] := by
    have q := lcM_ints (asgn := asg (.v 2)) (loc := wipeL [some (.t (.scr ns)), some (.t (.int x)), c, none, none] [2]) (tst := evTs C []) (elt := evE C (.op .abs [(.var 2)])) (fun i => if i < 0 then -i else i) ns [] fun i _ => ⟨_, rfl, fun _ => rfl, fun h => by simp⟩
    rw [lc_frz (us := (ns.map fun i => if i < 0 then -i else i).map .int) (h1 := []) (h2 := []) (by simp) (by rw [List.length_map]; exact Nat.le_trans hn (by decide)) (q.trans ?_)]
    simp
theorem t14 {C : Cl} {ns : List Int} {x : Int} {c : Option Val} (hn : ns.length ≤ 63) : ∃ as : List Int, as.length ≤ 63 ∧ exS C (.set 3 (.lc false [2] (.v 2) (.seq (.var 0)) [] (.op .abs [(.var 2)]))) [some (.t (.scr ns)), some (.t (.int x)), c, none, none] [] = .ok (.nx [some (.t (.scr ns)), some (.t (.int x)), c, some (.t (.lst (as.map .int))), none]) [] := by
  refine ⟨ns.map fun i => if i < 0 then -i else i, by simpa using hn, ?_⟩
  exact k_set (h14 hn)
theorem v14 {C : Cl} {ns : List Int} {as : List Int} {x : Int} {c : Option Val} (hl : as.length ≤ 63) : ∃ h, Sr [] h ∧ exS C (.ret true (.dsp true [(.str "cells"), (.lc true [4] (.v 4) (.rng1 (.op .len [(.var 3)])) [] (.op .idx [(.var 3), (.op .sub [(.op .sub [(.op .len [(.var 3)]), (.int 1)]), (.var 4)])])), (.str "left"), (.int 1), (.str "mixed"), (.var 1), (.str "turn"), (.int 0)])) [some (.t (.scr ns)), some (.t (.int x)), c, some (.t (.lst (as.map .int))), none] [] = .ok (.ret (.ref 0)) h := by
  have e3 := d14 (C := C) (h := []) (f14 (C := C) (a0 := some (.t (.scr ns))) (a1 := some (.t (.int x))) (c := c) hl) (x := x) rfl rfl
  refine ⟨[srcO 1 x 0, intsO ((List.range as.length).map fun k => as.getD (as.length - 1 - k) 0)], ⟨1, x, 0, _, ?_, rfl⟩, ?_⟩
  · rw [List.length_map, List.length_range]
    exact hl
  · exact k_rett e3
theorem r14 {C : Cl} {ns : List Int} (hn : ns.length ≤ 63) : ∃ h, Sr [] h ∧ run C fn14 [.t (.scr ns)] [] = .ok (.ref 0) h := by
  obtain ⟨x, c, e1⟩ := g14 (C := C) (ns := ns)
  obtain ⟨as, hl, e2⟩ := t14 (C := C) (ns := ns) (x := x) (c := c) hn
  obtain ⟨h, S, e3⟩ := v14 (C := C) (ns := ns) (x := x) (c := c) hl
  refine ⟨h, S, run_rf rfl ((ss_nx (l := [some (.t (.scr ns)), some (.t (.int 11)), none, none, none]) (h1 := []) rfl).trans ((ss_nx (l := [some (.t (.scr ns)), some (.t (.int x)), c, none, none]) (h1 := []) ?_).trans ((ss_nx e2).trans (ss_rt e3))))⟩
  rw [s_seq, t_thenE, i_seq, b_ok (show evE C (.var 0) [some (.t (.scr ns)), some (.t (.int 11)), none, none, none] [] = .ok (.t (.scr ns)) [] from rfl), v_walkS]
  exact e1
end MS

set_option Elab.async false
set_option linter.all false
set_option maxRecDepth 100000
/-! Q3C: _law_names -/
namespace MS
open PySem
def sg : List Nat := [97, 98, 99, 100, 101, 102, 103, 104, 105, 106, 107, 108, 109, 110, 111, 112, 113, 114, 115, 116, 117, 118, 119, 120, 121, 122, 48, 49, 50, 51, 52, 53, 54, 55, 56, 57]
theorem sgE : ("abcdefghijklmnopqrstuvwxyz0123456789" : Str) = stL sg := by decide +kernel
def sgAt (i : Nat) : Nat := sg.getD i 0
theorem sg_at {i : Nat} (h : i < 36) : sg[i]? = some (sgAt i) := by
  unfold sgAt
  rw [List.getD_eq_getElem?_getD, List.getElem?_eq_getElem (by exact h)]
  rfl
theorem sg_mem {i : Nat} (h : i < 36) : sgAt i ∈ sg := List.mem_of_getElem? (sg_at h)
theorem sg_dig : ∀ i < 10, ∀ j < 10, sgAt (26 + i) = sgAt (26 + j) → i = j := by decide
section
variable {C : Cl} {loc : Loc} {h h1 h2 : List Ob}
theorem ev_op1 {o : Op} {a : E} {v : Val} (e1 : evE C a loc h = .ok v h1) : evE C (.op o [a]) loc h = opM o [v] h1 := by
  show MH.bind (MH.bind (evE C a loc) (fun v => MH.bind (evEs C [] loc) fun vs => pure (v :: vs))) (fun vs => opM o vs) h = _
  have : MH.bind (evE C a loc) (fun v => MH.bind (evEs C [] loc) fun vs => (pure (v :: vs) : MH _)) h = .ok [v] h1 := by rw [b_ok e1]; rfl
  rw [b_ok this]
theorem ev_op2 {o : Op} {a b : E} {v w : Val} (e1 : evE C a loc h = .ok v h1) (e2 : evE C b loc h1 = .ok w h2) : evE C (.op o [a, b]) loc h = opM o [v, w] h2 := by
  show MH.bind (MH.bind (evE C a loc) (fun v => MH.bind (MH.bind (evE C b loc) (fun v => MH.bind (evEs C [] loc) fun vs => pure (v :: vs))) fun vs => pure (v :: vs))) (fun vs => opM o vs) h = _
  have q2 : MH.bind (evE C b loc) (fun v => MH.bind (evEs C [] loc) fun vs => (pure (v :: vs) : MH _)) h1 = .ok [w] h2 := by rw [b_ok e2]; rfl
  have q1 : MH.bind (evE C a loc) (fun v => MH.bind (MH.bind (evE C b loc) (fun v => MH.bind (evEs C [] loc) fun vs => pure (v :: vs))) fun vs => (pure (v :: vs) : MH _)) h = .ok [v, w] h2 := by rw [b_ok e1, b_ok q2]; rfl
  rw [b_ok q1]
theorem ev_var {i : Nat} {x : T} (e : loc[i]? = some (some (.t x))) : evE C (.var i) loc h = .ok (.t x) h := by rw [x_var, e]; rfl
theorem ev_ref {i n : Nat} (e : loc[i]? = some (some (.ref n))) (hn : nrm (.ref n) h = .ref n) : evE C (.var i) loc h = .ok (.ref n) h := by rw [x_var, e]; show RH.ok (nrm (.ref n) h) h = _; rw [hn]
theorem ev_call2 {f : Nat} {a b : E} {v w r : Val} (e1 : evE C a loc h = .ok v h) (e2 : evE C b loc h = .ok w h) (e : C.fn f [v, w] h = .ok r h1) : evE C (.call true f [a, b]) loc h = .ok r h1 := by
  show MH.bind (MH.bind (evE C a loc) (fun v => MH.bind (MH.bind (evE C b loc) (fun v => MH.bind (evEs C [] loc) fun vs => pure (v :: vs))) fun vs => pure (v :: vs))) (fun vs => C.fn f vs) h = _
  have q2 : MH.bind (evE C b loc) (fun v => MH.bind (evEs C [] loc) fun vs => (pure (v :: vs) : MH _)) h = .ok [w] h := by rw [b_ok e2]; rfl
  have q1 : MH.bind (evE C a loc) (fun v => MH.bind (MH.bind (evE C b loc) (fun v => MH.bind (evEs C [] loc) fun vs => pure (v :: vs))) fun vs => (pure (v :: vs) : MH _)) h = .ok [v, w] h := by rw [b_ok e1, b_ok q2]; rfl
  rw [b_ok q1, e]
/-- one sign -/
theorem ev_sign {e : E} {i : Int} {k : Nat} (e1 : evE C e loc h = .ok (.t (.int i)) h1) (h2 : loc[2]? = some (some (.t (.str (stL sg))))) (hi : i = (k : Nat)) (hk : k < 36) : evE C (.op .idx [.var 2, e]) loc h = .ok (.t (.str (stL [sgAt k]))) h1 := by
  rw [ev_op2 (ev_var h2) e1]
  exact st_idx (by decide) hi (sg_at hk)
theorem ev_cat {a b : E} {x y : List Nat} (e1 : evE C a loc h = .ok (.t (.str (stL x))) h1) (e2 : evE C b loc h1 = .ok (.t (.str (stL y))) h2) (hl : x.length + y.length ≤ 1000) : evE C (.op .add [a, b]) loc h = .ok (.t (.str (stL (x ++ y)))) h2 := by
  rw [ev_op2 e1 e2, p_adds, if_pos (by rw [st_len, st_len]; exact Nat.le_trans hl (by decide)), st_app]
end
/-- what calls are at a level -/
structure Pk (C : Cl) : Prop where
  pk : ∀ (rest h : List Ob) (many : Int), Sr rest h → 1 ≤ many → many < 10000000 → ∃ (r : Nat) (h' : List Ob), (r : Int) < many ∧ Sr rest h' ∧ C.fn 15 [.ref 0, .t (.int many)] h = .ok (.t (.int (r : Nat))) h'
theorem Pk.ev {C : Cl} (P : Pk C) {loc : Loc} {rest h : List Ob} (S : Sr rest h) (h0 : loc[0]? = some (some (.ref 0))) {e : E} {many : Int} (he : evE C e loc h = .ok (.t (.int many)) h) (h1 : 1 ≤ many) (h2 : many < 10000000) :
    ∃ (r : Nat) (h' : List Ob), (r : Int) < many ∧ Sr rest h' ∧ evE C (.call true 15 [.var 0, e]) loc h = .ok (.t (.int (r : Nat))) h' := by
  obtain ⟨r, h', a, b, c⟩ := P.pk rest h many S h1 h2
  exact ⟨r, h', a, b, ev_call2 (ev_ref h0 S.n0) he c⟩
def NmOk (num : Nat) (s : Str) : Prop := ∃ c tl, s = stL (c :: sgAt (26 + num / 10) :: sgAt (26 + num % 10) :: tl) ∧ c ∈ sg ∧ tl.length ≤ 9 ∧ ∀ x ∈ tl, x ∈ sg
theorem NmOk.inj {a b : Nat} {s : Str} (h1 : NmOk a s) (h2 : NmOk b s) (ha : a < 100) (hb : b < 100) : a = b := by
  obtain ⟨c, tl, rfl, _⟩ := h1
  obtain ⟨c', tl', e, _⟩ := h2
  have e := st_inj e
  injection e with _ e
  injection e with e1 e
  injection e with e2 _
  have q1 := sg_dig _ (by omega) _ (by omega) e1
  have q2 := sg_dig _ (by omega) _ (by omega) e2
  omega
/-- more signs at the end of a name -/
theorem more16 {C : Cl} (P : Pk C) {l0 l1 l3 l4 l5 l6 l7 l9 : Option Val} {rest h : List Ob} {pre : List Nat} (hp : pre.length ≤ 9) (S : Sr rest h) (h0 : l0 = some (.ref 0)) (vs : List Val) (hv : vs.length ≤ 9) :
    ∃ tl x9 h', tl.length ≤ vs.length ∧ (∀ x ∈ tl, x ∈ sg) ∧ Sr rest h' ∧ forM (.v 9) (exSs C [.set 8 (.op .add [(.var 8), (.op .idx [(.var 2), (.call true 15 [(.var 0), (.int 36)])])])]) vs [l0, l1, some (.t (.str (stL sg))), l3, l4, l5, l6, l7, some (.t (.str (stL pre))), l9] h =
      .ok (.nx [l0, l1, some (.t (.str (stL sg))), l3, l4, l5, l6, l7, some (.t (.str (stL (pre ++ tl)))), x9]) h' := by
  subst h0
  refine forM_inv (J := fun xs loc h => ∃ tl x9, tl.length + xs.length = vs.length ∧ (∀ x ∈ tl, x ∈ sg) ∧ Sr rest h ∧ loc = [some (.ref 0), l1, some (.t (.str (stL sg))), l3, l4, l5, l6, l7, some (.t (.str (stL (pre ++ tl)))), x9])
    (R := fun r => ∃ tl x9 h', tl.length ≤ vs.length ∧ (∀ x ∈ tl, x ∈ sg) ∧ Sr rest h' ∧ r = .ok (.nx [some (.ref 0), l1, some (.t (.str (stL sg))), l3, l4, l5, l6, l7, some (.t (.str (stL (pre ++ tl)))), x9]) h') ?_ ?_ vs _ h ⟨[], l9, Nat.zero_add _, (by intro x hx; cases hx), S, by rw [List.append_nil]⟩
  · rintro x xs loc h ⟨tl, x9, hl, hs, S, rfl⟩
    refine ⟨_, rfl, ?_⟩
    obtain ⟨r, h1, hr, S1, e1⟩ := P.ev (loc := [some (.ref 0), l1, some (.t (.str (stL sg))), l3, l4, l5, l6, l7, some (.t (.str (stL (pre ++ tl)))), some (nrm x h)]) S rfl (e := .int 36) rfl (by decide) (by decide)
    have e2 := ev_sign e1 rfl (k := r) rfl (by omega)
    have hl' : tl.length + (xs.length + 1) = vs.length := by simpa using hl
    have e3 := ev_cat (ev_var (i := 8) (x := .str (stL (pre ++ tl))) rfl) e2 (by rw [List.length_append]; simp; omega)
    have e4 := k_set (i := 8) e3
    have e5 : exSs C [.set 8 (.op .add [(.var 8), (.op .idx [(.var 2), (.call true 15 [(.var 0), (.int 36)])])])] [some (.ref 0), l1, some (.t (.str (stL sg))), l3, l4, l5, l6, l7, some (.t (.str (stL (pre ++ tl)))), some (nrm x h)] h = .ok (.nx _) h1 := (ss_nx e4).trans rfl
    show turn _ _ (exSs C _ [some (.ref 0), l1, some (.t (.str (stL sg))), l3, l4, l5, l6, l7, some (.t (.str (stL (pre ++ tl)))), some (nrm x h)] h)
    rw [e5]
    refine ⟨tl ++ [sgAt r], some (nrm x h), ?_, ?_, S1, ?_⟩
    · rw [List.length_append]; simp; omega
    · intro y hy
      rcases List.mem_append.mp hy with q | q
      · exact hs y q
      · rw [List.mem_singleton.mp q]
        exact sg_mem (by omega)
    · rw [← List.append_assoc]; rfl
  · rintro loc h ⟨tl, x9, hl, hs, S, rfl⟩
    exact ⟨tl, x9, h, by simp at hl; omega, hs, S, rfl⟩
end MS

set_option Elab.async false
set_option linter.all false
set_option maxRecDepth 100000
namespace MS
open PySem
theorem ev_lm1 {C : Cl} {loc : Loc} {h h1 : List Ob} {o : Op} {l a : E} {v w : Val} (e1 : evE C l loc h = .ok v h) (e2 : isSeq o.tp v h = .ok () h) (e3 : evE C a loc h = .ok w h1) : evE C (.lm o l [a]) loc h = opM o [v, w] h1 := by
  show MH.bind (evE C l loc) (fun a' => MH.bind (isSeq o.tp a') fun _ => MH.bind (MH.bind (evE C a loc) (fun v => MH.bind (evEs C [] loc) fun vs => pure (v :: vs))) fun vs => opM o (a' :: vs)) h = _
  have q2 : MH.bind (evE C a loc) (fun v => MH.bind (evEs C [] loc) fun vs => (pure (v :: vs) : MH _)) h = .ok [w] h1 := by rw [b_ok e3]; rfl
  rw [b_ok e1, b_ok e2, b_ok q2]
theorem cmul_l {i j : Int} (h1 : -(2 ^ 64) < i) (h2 : i < 2 ^ 64) : L2.CMul i j := by
  unfold L2.CMul
  omega
theorem ss_one {C : Cl} {s : S} {loc l : Loc} {h h1 : List Ob} (a : exS C s loc h = .ok (.nx l) h1) : exSs C [s] loc h = .ok (.nx l) h1 := (ss_nx a).trans rfl
def B16 : List S := [.set 7 (.op .mod [(.op .int1 [(.op .add [(.var 3), (.op .mul [(.int 37), (.var 6)])])]), (.int 100)]),
    .set 8 (.op .add [(.op .add [(.op .idx [(.var 2), (.call true 15 [(.var 0), (.int 26)])]), (.op .idx [(.var 2), (.op .add [(.int 26), (.op .fdv [(.var 7), (.int 10)])])])]), (.op .idx [(.var 2), (.op .add [(.int 26), (.op .mod [(.op .int1 [(.var 7)]), (.int 10)])])])]),
    .fr (.v 9) (.rng1 (.ifx (.var 4) (.op .pow [(.call true 15 [(.var 0), (.int 4)]), (.int 2)]) (.int 0))) [.set 8 (.op .add [(.var 8), (.op .idx [(.var 2), (.call true 15 [(.var 0), (.int 36)])])])],
    .ex (.lm .append (.var 5) [(.var 8)])]
def nmO (nms : List Str) : Ob := .lst (nms.map fun s => .t (.str s))
set_option maxHeartbeats 4000000 in
theorem one16 {C : Cl} (P : Pk C) {l1 x7 x8 x9 : Option Val} {rest h : List Ob} {sh k : Nat} {long : Bool} {nms : List Str} (hn : nms.length ≤ 100) (S : Sr (rest ++ [nmO nms]) h) :
    ∃ s y7 y8 y9 h', NmOk ((sh + 37 * k) % 100) s ∧ Sr (rest ++ [nmO (nms ++ [s])]) h' ∧ exSs C B16 [some (.ref 0), l1, some (.t (.str (stL sg))), some (.t (.int (sh : Nat))), some (.t (.bl long)), some (.ref (rest.length + 2)), some (.t (.int (k : Nat))), x7, x8, x9] h =
      .ok (.nx [some (.ref 0), l1, some (.t (.str (stL sg))), some (.t (.int (sh : Nat))), some (.t (.bl long)), some (.ref (rest.length + 2)), some (.t (.int (k : Nat))), y7, y8, y9]) h' := by
  have hm : ∀ x, L2.CMul 37 x := fun x => cmul_l (by decide) (by decide)
  have en : Int.fmod ((sh : Nat) + 37 * (k : Nat)) 100 = (((sh + 37 * k) % 100 : Nat) : Int) := by
    rw [Int.fmod_eq_emod_of_nonneg _ (by decide)]
    omega
  obtain ⟨num, hnum⟩ : ∃ num, num = (sh + 37 * k) % 100 := ⟨_, rfl⟩
  rw [← hnum] at en ⊢
  have hb : num < 100 := by omega
  have s1 : exS C (.set 7 (.op .mod [(.op .int1 [(.op .add [(.var 3), (.op .mul [(.int 37), (.var 6)])])]), (.int 100)])) [some (.ref 0), l1, some (.t (.str (stL sg))), some (.t (.int (sh : Nat))), some (.t (.bl long)), some (.ref (rest.length + 2)), some (.t (.int (k : Nat))), x7, x8, x9] h =
      .ok (.nx [some (.ref 0), l1, some (.t (.str (stL sg))), some (.t (.int (sh : Nat))), some (.t (.bl long)), some (.ref (rest.length + 2)), some (.t (.int (k : Nat))), some (.t (.int (num : Nat))), x8, x9]) h := by
    simp [hm, en]
  obtain ⟨r1, h1, hr1, S1, e1⟩ := P.ev (loc := [some (.ref 0), l1, some (.t (.str (stL sg))), some (.t (.int (sh : Nat))), some (.t (.bl long)), some (.ref (rest.length + 2)), some (.t (.int (k : Nat))), some (.t (.int (num : Nat))), x8, x9]) S rfl (e := .int 26) rfl (by decide) (by decide)
  have d1 := ev_sign e1 rfl (k := r1) rfl (by omega)
  have hd : L2.CDivN (num : Int) 10 := cdivn (by decide) (by decide)
  have e2 : evE C (.op .add [(.int 26), (.op .fdv [(.var 7), (.int 10)])]) [some (.ref 0), l1, some (.t (.str (stL sg))), some (.t (.int (sh : Nat))), some (.t (.bl long)), some (.ref (rest.length + 2)), some (.t (.int (k : Nat))), some (.t (.int (num : Nat))), x8, x9] h1 = .ok (.t (.int (26 + Int.fdiv (num : Nat) 10))) h1 := by simp [hd]
  have d2 := ev_sign (k := 26 + num / 10) e2 rfl (by rw [Int.fdiv_eq_ediv_of_nonneg _ (by decide)]; omega) (by omega)
  have e3 : evE C (.op .add [(.int 26), (.op .mod [(.op .int1 [(.var 7)]), (.int 10)])]) [some (.ref 0), l1, some (.t (.str (stL sg))), some (.t (.int (sh : Nat))), some (.t (.bl long)), some (.ref (rest.length + 2)), some (.t (.int (k : Nat))), some (.t (.int (num : Nat))), x8, x9] h1 = .ok (.t (.int (26 + Int.fmod (num : Nat) 10))) h1 := by simp
  have d3 := ev_sign (k := 26 + num % 10) e3 rfl (by rw [Int.fmod_eq_emod_of_nonneg _ (by decide)]; omega) (by omega)
  have s2 := k_set (i := 8) (ev_cat (ev_cat d1 d2 (by simp)) d3 (by simp))
  obtain ⟨q, h2, hq, S2, e4⟩ : ∃ (q : Nat) (h2 : List Ob), q ≤ 9 ∧ Sr (rest ++ [nmO nms]) h2 ∧ evE C (.ifx (.var 4) (.op .pow [(.call true 15 [(.var 0), (.int 4)]), (.int 2)]) (.int 0)) [some (.ref 0), l1, some (.t (.str (stL sg))), some (.t (.int (sh : Nat))), some (.t (.bl long)), some (.ref (rest.length + 2)), some (.t (.int (k : Nat))), some (.t (.int (num : Nat))), some (.t (.str (stL ([sgAt r1] ++ [sgAt (26 + num / 10)] ++ [sgAt (26 + num % 10)])))), x9] h1 = .ok (.t (.int (q : Nat))) h2 := by
    cases long with
    | false => exact ⟨0, h1, by omega, S1, rfl⟩
    | true =>
      obtain ⟨r2, h2, hr2, S2, e5⟩ := P.ev (loc := [some (.ref 0), l1, some (.t (.str (stL sg))), some (.t (.int (sh : Nat))), some (.t (.bl true)), some (.ref (rest.length + 2)), some (.t (.int (k : Nat))), some (.t (.int (num : Nat))), some (.t (.str (stL ([sgAt r1] ++ [sgAt (26 + num / 10)] ++ [sgAt (26 + num % 10)])))), x9]) S1 rfl (e := .int 4) rfl (by decide) (by decide)
      have hp : L2.CPow (r2 : Int) 2 := by unfold L2.CPow; omega
      refine ⟨r2 * r2, h2, ?_, S2, ?_⟩
      · have : r2 ≤ 3 := by omega
        exact Nat.mul_le_mul this this
      · have e6 := ev_op2 (o := .pow) (C := C) e5 (x_int (loc := [some (.ref 0), l1, some (.t (.str (stL sg))), some (.t (.int (sh : Nat))), some (.t (.bl true)), some (.ref (rest.length + 2)), some (.t (.int (k : Nat))), some (.t (.int (num : Nat))), some (.t (.str (stL ([sgAt r1] ++ [sgAt (26 + num / 10)] ++ [sgAt (26 + num % 10)])))), x9]) (h := h2) 2)
        rw [p_pow, if_pos hp] at e6
        rw [x_ifx, b_ok (show evT C (.var 4) _ h1 = .ok true h1 from rfl), if_pos rfl, e6]
        rw [show ((r2 : Int) ^ (2 : Int).toNat) = ((r2 * r2 : Nat) : Int) from by show (r2 : Int) ^ 2 = _; rw [Int.pow_succ, Int.pow_succ, Int.pow_zero, Int.one_mul]; rfl]
  have s3 := k_rng (C := C) (tg := .v 9) (b := [.set 8 (.op .add [(.var 8), (.op .idx [(.var 2), (.call true 15 [(.var 0), (.int 36)])])])]) e4 (by omega)
  obtain ⟨tl, y9, h3, htl, htm, S3, e7⟩ := more16 P (l1 := l1) (l3 := some (.t (.int (sh : Nat)))) (l4 := some (.t (.bl long))) (l5 := some (.ref (rest.length + 2))) (l6 := some (.t (.int (k : Nat)))) (l7 := some (.t (.int (num : Nat)))) (l9 := x9) (pre := [sgAt r1] ++ [sgAt (26 + num / 10)] ++ [sgAt (26 + num % 10)]) (by simp) S2 rfl ((List.range q).map fun i => .t (.int (i : Nat))) (by simpa using hq)
  rw [e7] at s3
  have ec : h3[rest.length + 2]? = some (nmO nms) := by rw [S3.at]; simp
  have s4 := k_ex (C := C) ((ev_lm1 (o := .append) (l := .var 5) (a := .var 8) (loc := [some (.ref 0), l1, some (.t (.str (stL sg))), some (.t (.int (sh : Nat))), some (.t (.bl long)), some (.ref (rest.length + 2)), some (.t (.int (k : Nat))), some (.t (.int (num : Nat))), some (.t (.str (stL ([sgAt r1] ++ [sgAt (26 + num / 10)] ++ [sgAt (26 + num % 10)] ++ tl)))), y9]) (ev_ref rfl (nr_cell ec)) (sq_cell ec) (ev_var rfl)).trans (ap_cell ec (by rw [List.length_map]; exact Nat.lt_of_le_of_lt hn (by decide))))
  have s5 := (ss_nx s1).trans ((ss_nx s2).trans ((ss_nx s3).trans (ss_one s4)))
  have s6 : exSs C B16 _ _ = _ := s5
  refine ⟨stL ([sgAt r1] ++ [sgAt (26 + num / 10)] ++ [sgAt (26 + num % 10)] ++ tl), _, _, y9, _, ⟨sgAt r1, tl, rfl, sg_mem (by omega), by simp at htl; omega, htm⟩, ?_, s6⟩
  have := S3.set rest.length (.lst ((nms.map fun s => Val.t (.str s)) ++ [.t (.str (stL ([sgAt r1] ++ [sgAt (26 + num / 10)] ++ [sgAt (26 + num % 10)] ++ tl)))]))
  rw [show (rest ++ [nmO nms]).set rest.length (.lst ((nms.map fun s => Val.t (.str s)) ++ [.t (.str (stL ([sgAt r1] ++ [sgAt (26 + num / 10)] ++ [sgAt (26 + num % 10)] ++ tl)))])) = rest ++ [nmO (nms ++ [stL ([sgAt r1] ++ [sgAt (26 + num / 10)] ++ [sgAt (26 + num % 10)] ++ tl)])] by simp [nmO]] at this
  exact this
theorem loop16 {C : Cl} (P : Pk C) {l1 : Option Val} {rest h : List Ob} {sh n : Nat} {long : Bool} (hn : n ≤ 100) (S : Sr (rest ++ [nmO []]) h) :
    ∃ nms x6 x7 x8 x9 h', nms.length = n ∧ (∀ i (hi : i < nms.length), NmOk ((sh + 37 * i) % 100) nms[i]) ∧ Sr (rest ++ [nmO nms]) h' ∧ forM (.v 6) (exSs C B16) ((List.range n).map fun i => .t (.int (i : Nat))) [some (.ref 0), l1, some (.t (.str (stL sg))), some (.t (.int (sh : Nat))), some (.t (.bl long)), some (.ref (rest.length + 2)), none, none, none, none] h =
      .ok (.nx [some (.ref 0), l1, some (.t (.str (stL sg))), some (.t (.int (sh : Nat))), some (.t (.bl long)), some (.ref (rest.length + 2)), x6, x7, x8, x9]) h' := by
  rw [List.range_eq_range']
  refine forM_inv (J := fun xs loc h => ∃ k m nms x6 x7 x8 x9, k + m = n ∧ xs = ((List.range' k m).map fun i => Val.t (.int (i : Nat))) ∧ nms.length = k ∧ (∀ i (hi : i < nms.length), NmOk ((sh + 37 * i) % 100) nms[i]) ∧ Sr (rest ++ [nmO nms]) h ∧ loc = [some (.ref 0), l1, some (.t (.str (stL sg))), some (.t (.int (sh : Nat))), some (.t (.bl long)), some (.ref (rest.length + 2)), x6, x7, x8, x9])
    (R := fun r => ∃ nms x6 x7 x8 x9 h', nms.length = n ∧ (∀ i (hi : i < nms.length), NmOk ((sh + 37 * i) % 100) nms[i]) ∧ Sr (rest ++ [nmO nms]) h' ∧ r = .ok (.nx [some (.ref 0), l1, some (.t (.str (stL sg))), some (.t (.int (sh : Nat))), some (.t (.bl long)), some (.ref (rest.length + 2)), x6, x7, x8, x9]) h') ?_ ?_ _ _ _ ⟨0, n, [], none, none, none, none, Nat.zero_add _, rfl, rfl, (fun i hi => nomatch hi), S, rfl⟩
  · rintro x xs loc h ⟨k, m, nms, x6, x7, x8, x9, hkm, hx, hl, hok, S, rfl⟩
    cases m with
    | zero => cases hx
    | succ m =>
      rw [List.range'_succ, List.map_cons] at hx
      injection hx with hx1 hx2
      subst hx1
      refine ⟨_, rfl, ?_⟩
      obtain ⟨s, y7, y8, y9, h', hs, S', e⟩ := one16 P (l1 := l1) (x7 := x7) (x8 := x8) (x9 := x9) (sh := sh) (k := k) (long := long) (by omega) S
      show turn _ _ (exSs C B16 [some (.ref 0), l1, some (.t (.str (stL sg))), some (.t (.int (sh : Nat))), some (.t (.bl long)), some (.ref (rest.length + 2)), some (.t (.int (k : Nat))), x7, x8, x9] h)
      rw [e]
      refine ⟨k + 1, m, nms ++ [s], _, y7, y8, y9, by omega, hx2, by rw [List.length_append, hl]; rfl, ?_, S', rfl⟩
      intro i hi
      rw [List.length_append] at hi
      rcases Nat.lt_or_ge i nms.length with q | q
      · rw [List.getElem_append_left q]
        exact hok i q
      · have : i = nms.length := by simp at hi; omega
        subst this
        rw [List.getElem_append_right (Nat.le_refl _)]
        simp only [Nat.sub_self, List.getElem_cons_zero]
        rw [hl]
        exact hs
  · rintro loc h ⟨k, m, nms, x6, x7, x8, x9, hkm, hx, hl, hok, S, rfl⟩
    have : m = 0 := by
      have := congrArg List.length hx
      simp at this
      omega
    exact ⟨nms, x6, x7, x8, x9, h, by omega, hok, S, rfl⟩
end MS

set_option Elab.async false
set_option linter.all false
set_option maxRecDepth 100000
namespace MS
open PySem
theorem k_retr {C : Cl} {loc : Loc} {h h1 : List Ob} {e : E} {p : Nat} {ts : List T} (a : evE C e loc h = .ok (.ref p) h1) (ec : h1[p]? = some (.lst (ts.map .t))) : exS C (.ret false e) loc h = .ok (.ret (.t (.lst ts))) (h1.set p (.frz (.lst ts))) := th_ok (m := MH.bind (evE C e loc) fun v => MH.bind (pur v) fun x => (pure (Val.t x) : MH Val)) (by rw [b_ok a, b_ok (show pur (.ref p) h1 = _ from fz_cell ec)]; rfl)
theorem r16 {C : Cl} (P : Pk C) {rest h : List Ob} {n : Nat} (hn : n ≤ 100) (S : Sr rest h) :
    ∃ (nms : List Str) (y h' : List Ob), nms.length = n ∧ (∃ sh, ∀ i (hi : i < nms.length), NmOk ((sh + 37 * i) % 100) nms[i]) ∧ Sr (rest ++ y) h' ∧ run C fn16 [.ref 0, .t (.int (n : Nat))] h = .ok (.t (.lst (nms.map .str))) h' := by
  have s1 : exS C (.set 2 (.str "abcdefghijklmnopqrstuvwxyz0123456789")) [some (.ref 0), some (.t (.int (n : Nat))), none, none, none, none, none, none, none, none] h = .ok (.nx [some (.ref 0), some (.t (.int (n : Nat))), some (.t (.str (stL sg))), none, none, none, none, none, none, none]) h := by
    rw [sgE]; rfl
  obtain ⟨sh, h1, hsh, S1, e1⟩ := P.ev (loc := [some (.ref 0), some (.t (.int (n : Nat))), some (.t (.str (stL sg))), none, none, none, none, none, none, none]) S rfl (e := .int 100) rfl (by decide) (by decide)
  have s2 := k_set (i := 3) e1
  obtain ⟨q, h2, hq, S2, e2⟩ := P.ev (loc := [some (.ref 0), some (.t (.int (n : Nat))), some (.t (.str (stL sg))), some (.t (.int (sh : Nat))), none, none, none, none, none, none]) S1 rfl (e := .int 4) rfl (by decide) (by decide)
  have e3 : evE C (.eqq false (.call true 15 [(.var 0), (.int 4)]) (.int 0)) [some (.ref 0), some (.t (.int (n : Nat))), some (.t (.str (stL sg))), some (.t (.int (sh : Nat))), none, none, none, none, none, none] h1 = .ok (.t (.bl (decide ((q : Int) = 0) ^^ false))) h2 := by
    rw [x_eqq, b_ok e2, b_ok (x_int 0), p_eqi]
  have s3 := k_set (i := 4) e3
  have s4 : exS C (.set 5 (.lst true [])) [some (.ref 0), some (.t (.int (n : Nat))), some (.t (.str (stL sg))), some (.t (.int (sh : Nat))), some (.t (.bl (decide ((q : Int) = 0) ^^ false))), none, none, none, none, none] h2 = .ok (.nx [some (.ref 0), some (.t (.int (n : Nat))), some (.t (.str (stL sg))), some (.t (.int (sh : Nat))), some (.t (.bl (decide ((q : Int) = 0) ^^ false))), some (.ref (rest.length + 2)), none, none, none, none]) (h2 ++ [nmO []]) := by
    have e4 : evE C (.lst true []) [some (.ref 0), some (.t (.int (n : Nat))), some (.t (.str (stL sg))), some (.t (.int (sh : Nat))), some (.t (.bl (decide ((q : Int) = 0) ^^ false))), none, none, none, none, none] h2 = .ok (.ref h2.length) (h2 ++ [.lst []]) := rfl
    rw [S2.len] at e4
    exact k_set e4
  obtain ⟨nms, x6, x7, x8, x9, h3, hl, hok, S3, e5⟩ := loop16 P (l1 := some (.t (.int (n : Nat)))) (sh := sh) (long := decide ((q : Int) = 0) ^^ false) hn (S2.app [nmO []])
  have s5 := k_rng (C := C) (tg := .v 6) (b := B16) (loc := [some (.ref 0), some (.t (.int (n : Nat))), some (.t (.str (stL sg))), some (.t (.int (sh : Nat))), some (.t (.bl (decide ((q : Int) = 0) ^^ false))), some (.ref (rest.length + 2)), none, none, none, none]) (e := .var 1) (h := h2 ++ [nmO []]) (ev_var rfl) (show n < 2 ^ 62 by omega)
  rw [e5] at s5
  have ec : h3[rest.length + 2]? = some (.lst ((nms.map T.str).map .t)) := by rw [S3.at]; simp [nmO]
  have s6 := k_retr (C := C) (loc := [some (.ref 0), some (.t (.int (n : Nat))), some (.t (.str (stL sg))), some (.t (.int (sh : Nat))), some (.t (.bl (decide ((q : Int) = 0) ^^ false))), some (.ref (rest.length + 2)), x6, x7, x8, x9]) (e := .var 5) (ev_ref rfl (nr_cell ec)) ec
  have s7 := (ss_nx s1).trans ((ss_nx s2).trans ((ss_nx s3).trans ((ss_nx s4).trans ((ss_nx s5).trans (ss_rt (ss := []) s6)))))
  have s8 := run_rt (d := fn16) (vs := [.ref 0, .t (.int (n : Nat))]) rfl s7
  have S4 := S3.set rest.length (.frz (.lst (nms.map .str)))
  rw [show (rest ++ [nmO nms]).set rest.length (.frz (.lst (nms.map .str))) = rest ++ [.frz (.lst (nms.map .str))] by simp] at S4
  obtain ⟨y, S5⟩ := S4.trunc S.len
  exact ⟨nms, y, _, hl, ⟨sh, hok⟩, S5, s8⟩
end MS

set_option Elab.async false
set_option linter.all false
set_option maxRecDepth 100000
/-! Q3F: tables in cells -/
namespace MS
open PySem
def rowO (r : List Nat) : Ob := .lst (r.map fun v => .t (.int (v : Nat)))
def rowT (r : List Nat) : T := .lst (r.map fun v => .int (v : Nat))
def refs (c n : Nat) : Ob := .lst ((List.range n).map fun a => .ref (c + a + 2))
def RowOk (n : Nat) (r : List Nat) : Prop := r.length = n ∧ ∀ v ∈ r, v < n
def everyT (n : Nat) : T := .lst ((List.range n).map fun k => .int (k : Nat))
theorem it_every {C : Cl} {loc : Loc} {h : List Ob} {n i : Nat} (e : loc[i]? = some (some (.t (everyT n)))) : evIt C (.seq (.var i)) loc h = .ok ((List.range n).map fun k => .t (.int (k : Nat))) h := by
  rw [i_seq, b_ok (ev_var e)]
  unfold everyT
  rw [v_walkL, List.map_map]
  rfl
/-- one row -/
theorem row18 {C : Cl} {l0 l1 l3 l4 l5 l6 l7 l8 l9 : Option Val} {n : Nat} {e : E} {rest h : List Ob} (hn : n ≤ 100) (S : Sr rest h)
    (He : ∀ b < n, ∀ h, Sr rest h → ∃ v < n, ∃ h', Sr rest h' ∧ evE C e [l0, l1, some (.t (everyT n)), l3, l4, l5, l6, l7, l8, some (.t (.int (b : Nat)))] h = .ok (.t (.int (v : Nat))) h') :
    ∃ (r : List Nat) (h' : List Ob), RowOk n r ∧ Sr (rest ++ [rowO r]) h' ∧ evE C (.lc true [9] (.v 9) (.seq (.var 2)) [] e) [l0, l1, some (.t (everyT n)), l3, l4, l5, l6, l7, l8, l9] h = .ok (.ref (rest.length + 2)) h' := by
  obtain ⟨us, h', e1, j⟩ := lcM_inv (asgn := asg (.v 9)) (loc := wipeL [l0, l1, some (.t (everyT n)), l3, l4, l5, l6, l7, l8, l9] [9]) (tst := evTs C []) (elt := evE C e)
    (J := fun xs vs h => ∃ k m r, k + m = n ∧ xs = ((List.range' k m).map fun i => Val.t (.int (i : Nat))) ∧ r.length = k ∧ (∀ v ∈ r, v < n) ∧ vs = (r.map fun v => Val.t (.int (v : Nat))) ∧ Sr rest h)
    (by
      rintro x xs vs h ⟨k, m, r, hkm, hx, hl, hv, rfl, S⟩
      cases m with
      | zero => cases hx
      | succ m =>
        rw [List.range'_succ, List.map_cons] at hx
        injection hx with hx1 hx2
        subst hx1
        obtain ⟨v, hv', h', S', e2⟩ := He k (by omega) h S
        refine ⟨_, .t (.int (v : Nat)), h', rfl, rfl, e2, k + 1, m, r ++ [v], by omega, hx2, by rw [List.length_append, hl]; rfl, ?_, by simp, S'⟩
        intro w hw
        rcases List.mem_append.mp hw with q | q
        · exact hv w q
        · rw [List.mem_singleton.mp q]; exact hv')
    ((List.range n).map fun k => .t (.int (k : Nat))) [] h ⟨0, n, [], Nat.zero_add _, by rw [List.range_eq_range'], rfl, (fun v hv => nomatch hv), rfl, S⟩
  obtain ⟨k, m, r, hkm, hx, hl, hv, hus, S'⟩ := j
  have hm : m = 0 := by
    have := congrArg List.length hx
    simp at this
    omega
  rw [List.nil_append] at hus
  subst hus
  have e3 := lc_keep (C := C) (it_every (n := n) (i := 2) rfl) (by rw [List.length_map, List.length_range]; exact Nat.le_trans hn (by decide)) e1
  rw [S'.len] at e3
  exact ⟨r, _, ⟨by omega, hv⟩, S'.app _, e3⟩
/-- a table -/
theorem mat18 {C : Cl} {l1 l3 l4 l5 l6 l7 l8 l9 : Option Val} {n : Nat} {e : E} {rest h : List Ob} (hn : n ≤ 100) (S : Sr rest h)
    (He : ∀ a < n, ∀ b < n, ∀ rest h, Sr rest h → ∃ v < n, ∃ h', Sr rest h' ∧ evE C e [some (.ref 0), l1, some (.t (everyT n)), l3, l4, l5, l6, l7, some (.t (.int (a : Nat))), some (.t (.int (b : Nat)))] h = .ok (.t (.int (v : Nat))) h') :
    ∃ (rows : List (List Nat)) (h' : List Ob), rows.length = n ∧ (∀ r ∈ rows, RowOk n r) ∧ Sr (rest ++ rows.map rowO ++ [refs rest.length n]) h' ∧ evE C (.lc true [8] (.v 8) (.seq (.var 2)) [] (.lc true [9] (.v 9) (.seq (.var 2)) [] e)) [some (.ref 0), l1, some (.t (everyT n)), l3, l4, l5, l6, l7, l8, l9] h = .ok (.ref (rest.length + n + 2)) h' := by
  obtain ⟨us, h', e1, j⟩ := lcM_inv (asgn := asg (.v 8)) (loc := wipeL [some (.ref 0), l1, some (.t (everyT n)), l3, l4, l5, l6, l7, l8, l9] [8]) (tst := evTs C []) (elt := evE C (.lc true [9] (.v 9) (.seq (.var 2)) [] e))
    (J := fun xs vs h => ∃ k m rows, k + m = n ∧ xs = ((List.range' k m).map fun i => Val.t (.int (i : Nat))) ∧ rows.length = k ∧ (∀ r ∈ rows, RowOk n r) ∧ vs = ((List.range k).map fun a => Val.ref (rest.length + a + 2)) ∧ Sr (rest ++ rows.map rowO) h)
    (by
      rintro x xs vs h ⟨k, m, rows, hkm, hx, hl, hv, rfl, S⟩
      cases m with
      | zero => cases hx
      | succ m =>
        rw [List.range'_succ, List.map_cons] at hx
        injection hx with hx1 hx2
        subst hx1
        obtain ⟨r, h', hr, S', e2⟩ := row18 (C := C) (l0 := some (.ref 0)) (l1 := l1) (l3 := l3) (l4 := l4) (l5 := l5) (l6 := l6) (l7 := l7) (l8 := some (.t (.int (k : Nat)))) (l9 := l9) hn S (fun b hb h S => He k (by omega) b hb _ h S)
        rw [List.length_append, List.length_map, hl] at e2
        refine ⟨_, _, h', rfl, rfl, e2, k + 1, m, rows ++ [r], by omega, hx2, by rw [List.length_append, hl]; rfl, ?_, by rw [List.range_succ, List.map_append]; rfl, by rw [List.map_append, ← List.append_assoc]; exact S'⟩
        intro w hw
        rcases List.mem_append.mp hw with q | q
        · exact hv w q
        · rw [List.mem_singleton.mp q]; exact hr)
    ((List.range n).map fun k => .t (.int (k : Nat))) [] h ⟨0, n, [], Nat.zero_add _, by rw [List.range_eq_range'], rfl, (fun v hv => nomatch hv), rfl, by simpa using S⟩
  obtain ⟨k, m, rows, hkm, hx, hl, hv, hus, S'⟩ := j
  have hm : m = 0 := by
    have := congrArg List.length hx
    simp at this
    omega
  have hk : k = n := by omega
  subst hk
  rw [List.nil_append] at hus
  subst hus
  have e3 := lc_keep (C := C) (own := [8]) (tg := .v 8) (it_every (n := k) (i := 2) rfl) (by rw [List.length_map, List.length_range]; exact Nat.le_trans hn (by decide)) e1
  rw [S'.len, List.length_append, List.length_map, hl] at e3
  exact ⟨rows, _, hl, hv, S'.app _, e3⟩
/-- a table in cells -/
structure Mat (R : List Ob) (c : Nat) (rows : List (List Nat)) : Prop where
  out : R[c + rows.length]? = some (refs c rows.length)
  row : ∀ a r, rows[a]? = some r → R[c + a]? = some (rowO r)
theorem mat_of {rest : List Ob} {rows : List (List Nat)} {n : Nat} (hn : rows.length = n) : Mat (rest ++ rows.map rowO ++ [refs rest.length n]) rest.length rows := by
  subst hn
  constructor
  · rw [List.getElem?_append_right (by simp)]
    simp
  · intro a r e
    have ha : a < rows.length := (List.getElem?_eq_some_iff.mp e).1
    rw [List.getElem?_append_left (by simp; omega), List.getElem?_append_right (by omega), List.getElem?_map, show rest.length + a - rest.length = a by omega, e]
    rfl
theorem Mat.app {R : List Ob} {c : Nat} {rows : List (List Nat)} (M : Mat R c rows) (x : List Ob) : Mat (R ++ x) c rows := by
  have q : ∀ (i : Nat) (o : Ob), R[i]? = some o → (R ++ x)[i]? = some o := fun i o e => by
    rw [List.getElem?_append_left (List.getElem?_eq_some_iff.mp e).1]
    exact e
  exact ⟨q _ _ M.out, fun a r e => q _ _ (M.row a r e)⟩
theorem Mat.upd {R : List Ob} {c a b v : Nat} {rows : List (List Nat)} {r : List Nat} (M : Mat R c rows) (e : rows[a]? = some r) : Mat (R.set (c + a) (rowO (r.set b v))) c (rows.set a (r.set b v)) := by
  have ha : a < rows.length := (List.getElem?_eq_some_iff.mp e).1
  have hR : c + a < R.length := (List.getElem?_eq_some_iff.mp (M.row a r e)).1
  constructor
  · rw [List.length_set, List.getElem?_set_ne (by omega)]
    exact M.out
  · intro i r' e'
    rcases Nat.decEq i a with q | q
    · rw [List.getElem?_set_ne (by omega)] at e' ⊢
      exact M.row i r' e'
    · subst q
      rw [List.getElem?_set_self ha] at e'
      cases e'
      rw [List.getElem?_set_self hR]
end MS

set_option Elab.async false
set_option linter.all false
set_option maxRecDepth 100000
/-! Q3G: changes of a table -/
namespace MS
open PySem
theorem idx_cell {h : List Ob} {p k : Nat} {vs : List Val} {v : Val} (e : h[p]? = some (.lst vs)) (ek : vs[k]? = some v) : opM .idx [.ref p, .t (.int (k : Nat))] h = .ok (nrm v h) h := by
  show MH.bind (seqV (.ref p)) (fun ys => match L2.atI ys (k : Int) with | some v => fun h => RH.ok (nrm v h) h | none => bad) h = _
  have e1 : seqV (.ref p) h = .ok vs h := by
    show (match h[p]? with
    | some (.lst vs) => RH.ok vs h
    | some (.frz (.lst xs)) => .ok (xs.map .t) h
    | _ => .bad) = _
    rw [e]
  rw [b_ok e1, atI_nat', ek]
theorem ref_at {c n a : Nat} (h : a < n) : ((List.range n).map fun a => Val.ref (c + a + 2))[a]? = some (.ref (c + a + 2)) := rng_get _ h
theorem rng_get' {A : Type} {n k : Nat} (f : Nat → A) (h : k < n) : ((List.range n).map f)[k]? = some (f k) := rng_get f h
section
variable {C : Cl} {loc : Loc} {R h h1 : List Ob} {c a b v : Nat} {rows : List (List Nat)} {r : List Nat}
theorem Mat.cell (M : Mat R c rows) (S : Sr R h) : h[c + rows.length + 2]? = some (.lst ((List.range rows.length).map fun a => .ref (c + a + 2))) := by
  rw [S.at]; exact M.out
theorem Mat.rcell (M : Mat R c rows) (S : Sr R h) (e : rows[a]? = some r) : h[c + a + 2]? = some (rowO r) := by
  rw [S.at]; exact M.row a r e
theorem Mat.var (M : Mat R c rows) (S : Sr R h) {i : Nat} (l4 : loc[i]? = some (some (.ref (c + rows.length + 2)))) : evE C (.var i) loc h = .ok (.ref (c + rows.length + 2)) h := ev_ref l4 (nr_cell (M.cell S))
theorem ev_row (M : Mat R c rows) (S : Sr R h) {x : E} (l4 : loc[4]? = some (some (.ref (c + rows.length + 2)))) (hx : evE C x loc h = .ok (.t (.int (a : Nat))) h) (e : rows[a]? = some r) : evE C (.op .idx [.var 4, x]) loc h = .ok (.ref (c + a + 2)) h := by
  rw [ev_op2 (M.var S l4) hx, idx_cell (M.cell S) (ref_at (List.getElem?_eq_some_iff.mp e).1), nr_cell (M.rcell S e)]
theorem ev_at (M : Mat R c rows) (S : Sr R h) {x y : E} (l4 : loc[4]? = some (some (.ref (c + rows.length + 2)))) (hx : evE C x loc h = .ok (.t (.int (a : Nat))) h) (hy : evE C y loc h = .ok (.t (.int (b : Nat))) h) (e : rows[a]? = some r) (er : r[b]? = some v) : evE C (.op .idx [.op .idx [.var 4, x], y]) loc h = .ok (.t (.int (v : Nat))) h := by
  rw [ev_op2 (ev_row M S l4 hx e) hy, idx_cell (v := .t (.int (v : Nat))) (M.rcell S e) (by rw [List.getElem?_map, er]; rfl)]
  rfl
theorem k_sub (M : Mat R c rows) (S : Sr R h1) {x y e' : E} (l4 : loc[4]? = some (some (.ref (c + rows.length + 2)))) (he : evE C e' loc h = .ok (.t (.int (v : Nat))) h1) (hx : evE C x loc h1 = .ok (.t (.int (a : Nat))) h1) (hy : evE C y loc h1 = .ok (.t (.int (b : Nat))) h1) (e : rows[a]? = some r) (hb : b < r.length) :
    exS C (.sub (.op .idx [.var 4, x]) y e') loc h = .ok (.nx loc) (h1.set (c + a + 2) (rowO (r.set b v))) := by
  have e1 : cellV (.ref (c + a + 2)) h1 = .ok (c + a + 2, r.map fun v => Val.t (.int (v : Nat))) h1 := by
    show (match h1[c + a + 2]? with | some (.lst vs) => RH.ok (c + a + 2, vs) h1 | _ => .bad) = _
    rw [M.rcell S e]
    rfl
  have e2 : setItM (.ref (c + a + 2)) (.t (.int (b : Nat))) (.t (.int (v : Nat))) h1 = .ok () (h1.set (c + a + 2) (rowO (r.set b v))) := by
    unfold setItM
    simp only [x_bind2, e1, v_intV, L2.ixN]
    rw [if_pos (Int.natCast_nonneg b), if_pos (by rw [List.length_map]; omega)]
    show RH.ok () _ = _
    unfold rowO
    rw [List.map_set]
    rfl
  exact th_ok (m := MH.bind (evE C e' loc) fun v => MH.bind (evE C (.op .idx [.var 4, x]) loc) fun a => MH.bind (evE C y loc) fun i => setItM a i v) (by
    rw [b_ok he, b_ok (ev_row M S l4 hx e), b_ok hy, e2])
end
theorem pre_set {rest R : List Ob} {i : Nat} {o : Ob} (h : rest <+: R) (hi : rest.length ≤ i) : rest <+: R.set i o := by
  obtain ⟨M, rfl⟩ := h
  rw [List.set_append_right _ _ hi]
  exact List.prefix_append _ _
theorem rows_set {n a b v : Nat} {rows : List (List Nat)} {r : List Nat} (H : ∀ r ∈ rows, RowOk n r) (e : rows[a]? = some r) (hv : v < n) : ∀ r' ∈ rows.set a (r.set b v), RowOk n r' := by
  intro r' hr'
  rcases List.mem_or_eq_of_mem_set hr' with q | q
  · exact H r' q
  · subst q
    have q := H r (List.mem_of_getElem? e)
    refine ⟨by rw [List.length_set]; exact q.1, fun w hw => ?_⟩
    rcases List.mem_or_eq_of_mem_set hw with z | z
    · exact q.2 w z
    · omega
def B18 : List S := [.set 7 (.call true 15 [(.var 0), (.int 4)]),
    .iff (.eqq false (.var 7) (.int 0)) [.set 5 (.call true 15 [(.var 0), (.var 1)])] [.set 8 (.call true 15 [(.var 0), (.var 1)]),
    .set 9 (.call true 15 [(.var 0), (.var 1)]),
    .sub (.op .idx [(.var 4), (.var 8)]) (.var 9) (.call true 15 [(.var 0), (.var 1)]),
    .iff (.op .gt [(.var 7), (.int 1)]) [.sub (.op .idx [(.var 4), (.var 9)]) (.var 8) (.op .idx [(.op .idx [(.var 4), (.var 8)]), (.var 9)])] []]]
set_option maxHeartbeats 4000000 in
theorem one18 {C : Cl} (P : Pk C) {l2 l3 x6 x7 x8 x9 : Option Val} {rest R h : List Ob} {c n low : Nat} {rows : List (List Nat)} (h1 : 1 ≤ n) (hn : n ≤ 100) (hlow : low < n) (hl : rows.length = n) (H : ∀ r ∈ rows, RowOk n r) (hc : rest.length ≤ c) (hp : rest <+: R) (M : Mat R c rows) (S : Sr R h) :
    ∃ R' rows' low' y7 y8 y9 h', low' < n ∧ rows'.length = n ∧ (∀ r ∈ rows', RowOk n r) ∧ rest <+: R' ∧ Mat R' c rows' ∧ Sr R' h' ∧
      exSs C B18 [some (.ref 0), some (.t (.int (n : Nat))), l2, l3, some (.ref (c + n + 2)), some (.t (.int (low : Nat))), x6, x7, x8, x9] h = .ok (.nx [some (.ref 0), some (.t (.int (n : Nat))), l2, l3, some (.ref (c + n + 2)), some (.t (.int (low' : Nat))), x6, y7, y8, y9]) h' := by
  subst hl
  obtain ⟨q, g1, hq, S1, e1⟩ := P.ev (loc := [some (.ref 0), some (.t (.int (rows.length : Nat))), l2, l3, some (.ref (c + rows.length + 2)), some (.t (.int (low : Nat))), x6, x7, x8, x9]) S rfl (e := .int 4) rfl (by decide) (by decide)
  have s1 := k_set (i := 7) e1
  have et : evT C (.eqq false (.var 7) (.int 0)) [some (.ref 0), some (.t (.int (rows.length : Nat))), l2, l3, some (.ref (c + rows.length + 2)), some (.t (.int (low : Nat))), x6, some (.t (.int (q : Nat))), x8, x9] g1 = .ok (decide ((q : Int) = 0) ^^ false) g1 := pt_eqi (neg := false) (pv_var rfl) pv_int g1
  have sI := k_iff (u := [.set 5 (.call true 15 [(.var 0), (.var 1)])]) (w := [.set 8 (.call true 15 [(.var 0), (.var 1)]),
    .set 9 (.call true 15 [(.var 0), (.var 1)]),
    .sub (.op .idx [(.var 4), (.var 8)]) (.var 9) (.call true 15 [(.var 0), (.var 1)]),
    .iff (.op .gt [(.var 7), (.int 1)]) [.sub (.op .idx [(.var 4), (.var 9)]) (.var 8) (.op .idx [(.op .idx [(.var 4), (.var 8)]), (.var 9)])] []]) et
  by_cases hq0 : q = 0
  · rw [show (decide ((q : Int) = 0) ^^ false) = true by simp [hq0], if_pos rfl] at sI
    obtain ⟨r1, g2, hr1, S2, e2⟩ := P.ev (loc := [some (.ref 0), some (.t (.int (rows.length : Nat))), l2, l3, some (.ref (c + rows.length + 2)), some (.t (.int (low : Nat))), x6, some (.t (.int (q : Nat))), x8, x9]) S1 rfl (e := .var 1) (ev_var rfl) (by omega) (by omega)
    have s2 := ss_one (k_set (i := 5) e2)
    exact ⟨R, rows, r1, _, _, _, g2, by omega, rfl, H, hp, M, S2, (ss_nx s1).trans (ss_one (sI.trans s2))⟩
  · rw [show (decide ((q : Int) = 0) ^^ false) = false by simp [hq0], if_neg (by decide)] at sI
    obtain ⟨a, g2, ha, S2, e2⟩ := P.ev (loc := [some (.ref 0), some (.t (.int (rows.length : Nat))), l2, l3, some (.ref (c + rows.length + 2)), some (.t (.int (low : Nat))), x6, some (.t (.int (q : Nat))), x8, x9]) S1 rfl (e := .var 1) (ev_var rfl) (by omega) (by omega)
    have s2 := k_set (i := 8) e2
    obtain ⟨b, g3, hb, S3, e3⟩ := P.ev (loc := [some (.ref 0), some (.t (.int (rows.length : Nat))), l2, l3, some (.ref (c + rows.length + 2)), some (.t (.int (low : Nat))), x6, some (.t (.int (q : Nat))), some (.t (.int (a : Nat))), x9]) S2 rfl (e := .var 1) (ev_var rfl) (by omega) (by omega)
    have s3 := k_set (i := 9) e3
    obtain ⟨v, g4, hv, S4, e4⟩ := P.ev (loc := [some (.ref 0), some (.t (.int (rows.length : Nat))), l2, l3, some (.ref (c + rows.length + 2)), some (.t (.int (low : Nat))), x6, some (.t (.int (q : Nat))), some (.t (.int (a : Nat))), some (.t (.int (b : Nat)))]) S3 rfl (e := .var 1) (ev_var rfl) (by omega) (by omega)
    have ha' : a < rows.length := by omega
    have hb' : b < rows.length := by omega
    obtain ⟨r, er⟩ : ∃ r, rows[a]? = some r := ⟨_, List.getElem?_eq_getElem ha'⟩
    have hr := H r (List.mem_of_getElem? er)
    have s4 := k_sub (x := .var 8) (y := .var 9) M S4 rfl e4 (ev_var (x := .int (a : Nat)) rfl) (ev_var (x := .int (b : Nat)) rfl) er (by rw [hr.1]; exact hb')
    have S5 := S4.set (c + a) (rowO (r.set b v))
    have M5 := M.upd (b := b) (v := v) er
    have H5 := rows_set (b := b) (v := v) H er (by omega)
    have p5 : rest <+: R.set (c + a) (rowO (r.set b v)) := pre_set hp (by omega)
    have hlen : (rows.set a (r.set b v)).length = rows.length := List.length_set
    have eg : evT C (.op .gt [(.var 7), (.int 1)]) [some (.ref 0), some (.t (.int (rows.length : Nat))), l2, l3, some (.ref (c + rows.length + 2)), some (.t (.int (low : Nat))), x6, some (.t (.int (q : Nat))), some (.t (.int (a : Nat))), some (.t (.int (b : Nat)))] (g4.set (c + a + 2) (rowO (r.set b v))) = .ok (decide (1 < (q : Int))) (g4.set (c + a + 2) (rowO (r.set b v))) :=
      pt_op (pvs_cons (pv_var rfl) (pvs_cons pv_int pvs_nil)) rfl (fun h => o_gt) _
    have sJ := k_iff (u := [.sub (.op .idx [(.var 4), (.var 9)]) (.var 8) (.op .idx [(.op .idx [(.var 4), (.var 8)]), (.var 9)])]) (w := []) eg
    by_cases hq1 : 1 < q
    · rw [show decide (1 < (q : Int)) = true by simp; omega, if_pos rfl] at sJ
      have er5 : (rows.set a (r.set b v))[a]? = some (r.set b v) := List.getElem?_set_self ha'
      obtain ⟨r2, er2⟩ : ∃ r2, (rows.set a (r.set b v))[b]? = some r2 := ⟨_, List.getElem?_eq_getElem (by rw [hlen]; exact hb')⟩
      have hr2 := H5 r2 (List.mem_of_getElem? er2)
      have l4 : ([some (.ref 0), some (.t (.int (rows.length : Nat))), l2, l3, some (.ref (c + rows.length + 2)), some (.t (.int (low : Nat))), x6, some (.t (.int (q : Nat))), some (.t (.int (a : Nat))), some (.t (.int (b : Nat)))] : Loc)[4]? = some (some (.ref (c + (rows.set a (r.set b v)).length + 2))) := by rw [hlen]; rfl
      have e6 := ev_at (C := C) (x := .var 8) (y := .var 9) M5 S5 l4 (ev_var (x := .int (a : Nat)) rfl) (ev_var (x := .int (b : Nat)) rfl) er5 (v := v) (List.getElem?_set_self (by rw [hr.1]; exact hb'))
      have s6 := k_sub (x := .var 9) (y := .var 8) M5 S5 l4 e6 (ev_var (x := .int (b : Nat)) rfl) (ev_var (x := .int (a : Nat)) rfl) er2 (by rw [hr2.1]; exact ha')
      refine ⟨_, _, low, _, _, _, _, hlow, ?_, rows_set (b := a) (v := v) H5 er2 (by omega), pre_set p5 (by omega), M5.upd er2, S5.set (c + b) _, (ss_nx s1).trans (ss_one (sI.trans ((ss_nx s2).trans ((ss_nx s3).trans ((ss_nx s4).trans (ss_one (sJ.trans (ss_one s6))))))))⟩
      rw [List.length_set, hlen]
    · rw [show decide (1 < (q : Int)) = false by simp; omega, if_neg (by decide)] at sJ
      exact ⟨_, _, low, _, _, _, _, hlow, hlen, H5, p5, M5, S5, (ss_nx s1).trans (ss_one (sI.trans ((ss_nx s2).trans ((ss_nx s3).trans ((ss_nx s4).trans (ss_one (sJ.trans rfl)))))))⟩
end MS

set_option Elab.async false
set_option linter.all false
set_option maxRecDepth 100000
/-! Q3H: _law_table -/
namespace MS
open PySem
theorem loop18 {C : Cl} (P : Pk C) {l2 l3 : Option Val} {rest R h : List Ob} {c n : Nat} {rows : List (List Nat)} (h1 : 1 ≤ n) (hn : n ≤ 100) (hl : rows.length = n) (H : ∀ r ∈ rows, RowOk n r) (hc : rest.length ≤ c) (hp : rest <+: R) (M : Mat R c rows) (S : Sr R h) (vs : List Val) :
    ∃ R' rows' low' x6 x7 x8 x9 h', low' < n ∧ rows'.length = n ∧ (∀ r ∈ rows', RowOk n r) ∧ rest <+: R' ∧ Mat R' c rows' ∧ Sr R' h' ∧
      forM (.v 6) (exSs C B18) vs [some (.ref 0), some (.t (.int (n : Nat))), l2, l3, some (.ref (c + n + 2)), some (.t (.int 0)), none, none, none, none] h = .ok (.nx [some (.ref 0), some (.t (.int (n : Nat))), l2, l3, some (.ref (c + n + 2)), some (.t (.int (low' : Nat))), x6, x7, x8, x9]) h' := by
  refine forM_inv (J := fun xs loc h => ∃ R' rows' low' x6 x7 x8 x9, low' < n ∧ rows'.length = n ∧ (∀ r ∈ rows', RowOk n r) ∧ rest <+: R' ∧ Mat R' c rows' ∧ Sr R' h ∧ loc = [some (.ref 0), some (.t (.int (n : Nat))), l2, l3, some (.ref (c + n + 2)), some (.t (.int ((low' : Nat) : Int))), x6, x7, x8, x9])
    (R := fun r => ∃ R' rows' low' x6 x7 x8 x9 h', low' < n ∧ rows'.length = n ∧ (∀ r ∈ rows', RowOk n r) ∧ rest <+: R' ∧ Mat R' c rows' ∧ Sr R' h' ∧ r = .ok (.nx [some (.ref 0), some (.t (.int (n : Nat))), l2, l3, some (.ref (c + n + 2)), some (.t (.int (low' : Nat))), x6, x7, x8, x9]) h') ?_ ?_ _ _ _ ⟨R, rows, 0, none, none, none, none, by omega, hl, H, hp, M, S, rfl⟩
  · rintro x xs loc h ⟨R', rows', low', x6, x7, x8, x9, a1, a2, a3, a4, a5, a6, rfl⟩
    refine ⟨_, rfl, ?_⟩
    obtain ⟨R2, rows2, low2, y7, y8, y9, h2, b1, b2, b3, b4, b5, b6, e⟩ := one18 P (l2 := l2) (l3 := l3) (x6 := some (nrm x h)) (x7 := x7) (x8 := x8) (x9 := x9) h1 hn a1 a2 a3 hc a4 a5 a6
    show turn _ _ (exSs C B18 [some (.ref 0), some (.t (.int (n : Nat))), l2, l3, some (.ref (c + n + 2)), some (.t (.int ((low' : Nat) : Int))), some (nrm x h), x7, x8, x9] h)
    rw [e]
    exact ⟨R2, rows2, low2, _, _, _, _, b1, b2, b3, b4, b5, b6, rfl⟩
  · rintro loc h ⟨R', rows', low', x6, x7, x8, x9, a1, a2, a3, a4, a5, a6, rfl⟩
    exact ⟨R', rows', low', x6, x7, x8, x9, h, a1, a2, a3, a4, a5, a6, rfl⟩
/-- all rows frozen -/
theorem fz_rows {rest : List Ob} {c j : Nat} (hc : rest.length ≤ c) : ∀ (rs : List (List Nat)) (k : Nat) (R h : List Ob), Sr R h → rest <+: R → (∀ i r, rs[i]? = some r → R[c + k + i]? = some (rowO r)) →
    ∃ R' h', Sr R' h' ∧ rest <+: R' ∧ R'.length = R.length ∧ mp (fzn (j + 1)) ((List.range' k rs.length).map fun a => Val.ref (c + a + 2)) h = .ok (rs.map rowT) h'
  | [], k, R, h, S, hp, _ => ⟨R, h, S, hp, rfl, rfl⟩
  | r :: rs, k, R, h, S, hp, H => by
    have e0 : h[c + k + 2]? = some (.lst ((r.map fun v => T.int (v : Nat)).map .t)) := by
      rw [S.at, show R[c + k]? = some (rowO r) from H 0 r rfl]
      unfold rowO
      rw [List.map_map]
      rfl
    have e1 := fz_cell (k := j) e0
    have S1 := S.set (c + k) (.frz (.lst (r.map fun v => T.int (v : Nat))))
    obtain ⟨R', h', S2, p2, l2, e2⟩ := fz_rows (j := j) hc rs (k + 1) _ _ S1 (pre_set hp (by omega)) (fun i r' hr' => by
      rw [List.getElem?_set_ne (by omega), show c + (k + 1) + i = c + k + (i + 1) by omega]
      exact H (i + 1) r' hr')
    refine ⟨R', h', S2, p2, by rw [l2, List.length_set], ?_⟩
    rw [List.length_cons, List.range'_succ, List.map_cons, List.map_cons]
    show MH.bind (fzn (j + 1) (.ref (c + k + 2))) (fun y => MH.bind (mp (fzn (j + 1)) ((List.range' (k + 1) rs.length).map fun a => Val.ref (c + a + 2))) fun ys => (pure (y :: ys) : MH (List T))) h = _
    rw [b_ok e1, b_ok e2]
    rfl
theorem pur_mat {rest R h : List Ob} {c : Nat} {rows : List (List Nat)} (hc : rest.length ≤ c) (hp : rest <+: R) (M : Mat R c rows) (S : Sr R h) : ∃ R' h', Sr R' h' ∧ rest <+: R' ∧ pur (.ref (c + rows.length + 2)) h = .ok (.lst (rows.map rowT)) h' := by
  obtain ⟨R', h', S2, p2, l2, e2⟩ := fz_rows (j := 6) hc rows 0 R h S hp (fun i r e => M.row i r e)
  refine ⟨R'.set (c + rows.length) (.frz (.lst (rows.map rowT))), h'.set (c + rows.length + 2) (.frz (.lst (rows.map rowT))), S2.set _ _, pre_set p2 (by omega), ?_⟩
  have e3 : fzn 8 (.ref (c + rows.length + 2)) h = MH.bind (mp (fzn 7) ((List.range rows.length).map fun a => Val.ref (c + a + 2))) (fun ts => fzw (c + rows.length + 2) (.lst ts)) h := by
    unfold fzn
    simp only [M.cell S]
  unfold pur
  rw [e3, List.range_eq_range', b_ok e2]
  rfl
/-- another table, or the one there was -/
theorem alt18 {C : Cl} {rest R h : List Ob} {c n q : Nat} {m : Int} {e : E} {rows : List (List Nat)} (h1 : 1 ≤ n) (hn : n ≤ 100) (hl : rows.length = n) (H : ∀ r ∈ rows, RowOk n r) (hc : rest.length ≤ c) (hp : rest <+: R) (M : Mat R c rows) (S : Sr R h)
    (He : ∀ l3 l4 l5 l6 l7, ∀ a < n, ∀ b < n, ∀ rest h, Sr rest h → ∃ v < n, ∃ h', Sr rest h' ∧ evE C e [some (.ref 0), some (.t (.int (n : Nat))), some (.t (everyT n)), l3, l4, l5, l6, l7, some (.t (.int (a : Nat))), some (.t (.int (b : Nat)))] h = .ok (.t (.int (v : Nat))) h') :
    ∃ R' c' rows' h', rows'.length = n ∧ (∀ r ∈ rows', RowOk n r) ∧ rest.length ≤ c' ∧ rest <+: R' ∧ Mat R' c' rows' ∧ Sr R' h' ∧
      exS C (.iff (.eqq false (.var 3) (.int m)) [.set 4 (.lc true [8] (.v 8) (.seq (.var 2)) [] (.lc true [9] (.v 9) (.seq (.var 2)) [] e))] []) [some (.ref 0), some (.t (.int (n : Nat))), some (.t (everyT n)), some (.t (.int (q : Nat))), some (.ref (c + n + 2)), none, none, none, none, none] h =
        .ok (.nx [some (.ref 0), some (.t (.int (n : Nat))), some (.t (everyT n)), some (.t (.int (q : Nat))), some (.ref (c' + n + 2)), none, none, none, none, none]) h' := by
  have et : evT C (.eqq false (.var 3) (.int m)) [some (.ref 0), some (.t (.int (n : Nat))), some (.t (everyT n)), some (.t (.int (q : Nat))), some (.ref (c + n + 2)), none, none, none, none, none] h = .ok (decide ((q : Int) = m) ^^ false) h := pt_eqi (neg := false) (pv_var rfl) pv_int h
  have sI := k_iff (u := [.set 4 (.lc true [8] (.v 8) (.seq (.var 2)) [] (.lc true [9] (.v 9) (.seq (.var 2)) [] e))]) (w := []) et
  by_cases hq : (q : Int) = m
  · rw [show (decide ((q : Int) = m) ^^ false) = true by simp [hq], if_pos rfl] at sI
    obtain ⟨rows', h', a1, a2, a3, e1⟩ := mat18 (C := C) (l1 := some (.t (.int (n : Nat)))) (l3 := some (.t (.int (q : Nat)))) (l4 := some (.ref (c + n + 2))) (l5 := none) (l6 := none) (l7 := none) (l8 := none) (l9 := none) hn S (He _ _ _ _ _)
    refine ⟨_, R.length, rows', h', a1, a2, ?_, ?_, mat_of a1, a3, sI.trans (ss_one (k_set (i := 4) e1))⟩
    · exact hp.length_le
    · rw [List.append_assoc]
      exact hp.trans (List.prefix_append _ _)
  · rw [show (decide ((q : Int) = m) ^^ false) = false by simp [hq], if_neg (by decide)] at sI
    exact ⟨R, c, rows, h, hl, H, hc, hp, M, S, sI.trans rfl⟩
section
variable {C : Cl} {n a b : Nat} {rest h : List Ob} {l3 l4 l5 l6 l7 : Option Val}
theorem he1 (h1 : 1 ≤ n) (ha : a < n) (hb : b < n) (S : Sr rest h) : ∃ v < n, ∃ h', Sr rest h' ∧ evE C (.op .min2 [(.op .add [(.var 8), (.var 9)]), (.op .sub [(.var 1), (.int 1)])]) [some (.ref 0), some (.t (.int (n : Nat))), some (.t (everyT n)), l3, l4, l5, l6, l7, some (.t (.int (a : Nat))), some (.t (.int (b : Nat)))] h = .ok (.t (.int (v : Nat))) h' := by
  have e : evE C (.op .min2 [(.op .add [(.var 8), (.var 9)]), (.op .sub [(.var 1), (.int 1)])]) [some (.ref 0), some (.t (.int (n : Nat))), some (.t (everyT n)), l3, l4, l5, l6, l7, some (.t (.int (a : Nat))), some (.t (.int (b : Nat)))] h = .ok (.t (.int (if (n : Int) - 1 < (a : Int) + b then (n : Int) - 1 else (a : Int) + b))) h := by simp
  have q : (if (n : Int) - 1 < (a : Int) + b then (n : Int) - 1 else (a : Int) + b) = ((min (a + b) (n - 1) : Nat) : Int) := by split <;> omega
  rw [q] at e
  exact ⟨_, by omega, h, S, e⟩
theorem he2 (h1 : 1 ≤ n) (ha : a < n) (hb : b < n) (S : Sr rest h) : ∃ v < n, ∃ h', Sr rest h' ∧ evE C (.op .mod [(.op .int1 [(.op .add [(.var 8), (.var 9)])]), (.var 1)]) [some (.ref 0), some (.t (.int (n : Nat))), some (.t (everyT n)), l3, l4, l5, l6, l7, some (.t (.int (a : Nat))), some (.t (.int (b : Nat)))] h = .ok (.t (.int (v : Nat))) h' := by
  have hz : ¬ n = 0 := by omega
  have e : evE C (.op .mod [(.op .int1 [(.op .add [(.var 8), (.var 9)])]), (.var 1)]) [some (.ref 0), some (.t (.int (n : Nat))), some (.t (everyT n)), l3, l4, l5, l6, l7, some (.t (.int (a : Nat))), some (.t (.int (b : Nat)))] h = .ok (.t (.int (Int.fmod ((a : Int) + b) (n : Nat)))) h := by simp [hz]
  have q : Int.fmod ((a : Int) + b) (n : Nat) = (((a + b) % n : Nat) : Int) := by
    rw [Int.fmod_eq_emod_of_nonneg _ (by omega)]
    rfl
  rw [q] at e
  exact ⟨_, Nat.mod_lt _ (by omega), h, S, e⟩
theorem he3 (h1 : 1 ≤ n) (ha : a < n) (hb : b < n) (S : Sr rest h) : ∃ v < n, ∃ h', Sr rest h' ∧ evE C (.op .max2 [(.var 8), (.var 9)]) [some (.ref 0), some (.t (.int (n : Nat))), some (.t (everyT n)), l3, l4, l5, l6, l7, some (.t (.int (a : Nat))), some (.t (.int (b : Nat)))] h = .ok (.t (.int (v : Nat))) h' := by
  have e : evE C (.op .max2 [(.var 8), (.var 9)]) [some (.ref 0), some (.t (.int (n : Nat))), some (.t (everyT n)), l3, l4, l5, l6, l7, some (.t (.int (a : Nat))), some (.t (.int (b : Nat)))] h = .ok (.t (.int (if (b : Int) > a then (b : Int) else a))) h := by
    simp only [x_op, x_bind, x_cons, x_var, x_nil, x_pure, List.getElem?_cons_succ, List.getElem?_cons_zero, v_nrmt, p_max]
  have q : (if (b : Int) > a then (b : Int) else a) = ((max a b : Nat) : Int) := by split <;> omega
  rw [q] at e
  exact ⟨_, by omega, h, S, e⟩
theorem he4 (P : Pk C) (h1 : 1 ≤ n) (hn : n ≤ 100) (S : Sr rest h) : ∃ v < n, ∃ h', Sr rest h' ∧ evE C (.call true 15 [(.var 0), (.var 1)]) [some (.ref 0), some (.t (.int (n : Nat))), some (.t (everyT n)), l3, l4, l5, l6, l7, some (.t (.int (a : Nat))), some (.t (.int (b : Nat)))] h = .ok (.t (.int (v : Nat))) h' := by
  obtain ⟨v, h', hv, S', e⟩ := P.ev (loc := [some (.ref 0), some (.t (.int (n : Nat))), some (.t (everyT n)), l3, l4, l5, l6, l7, some (.t (.int (a : Nat))), some (.t (.int (b : Nat)))]) S rfl (e := .var 1) (ev_var rfl) (by omega) (by omega)
  exact ⟨v, by omega, h', S', e⟩
end
end MS

set_option Elab.async false
set_option linter.all false
set_option maxRecDepth 100000
/-! Q3I: _law_table, whole -/
namespace MS
open PySem
def tabT (nms : List Str) (rows : List (List Nat)) (low : Nat) : T := .lst [.lst (nms.map .str), .lst (rows.map rowT), .int (low : Nat)]
/-- what _law_table hands back -/
structure TabOk (n : Nat) (nms : List Str) (rows : List (List Nat)) (low : Nat) : Prop where
  n1 : 1 ≤ n
  n4 : n ≤ 4
  nl : nms.length = n
  nm : ∃ sh, ∀ i (hi : i < nms.length), NmOk ((sh + 37 * i) % 100) nms[i]
  rl : rows.length = n
  rk : ∀ r ∈ rows, RowOk n r
  lo : low < n
structure Pk2 (C : Cl) : Prop extends Pk C where
  nm : ∀ (rest h : List Ob) (n : Nat), n ≤ 100 → Sr rest h → ∃ (nms : List Str) (y h' : List Ob), nms.length = n ∧ (∃ sh, ∀ i (hi : i < nms.length), NmOk ((sh + 37 * i) % 100) nms[i]) ∧ Sr (rest ++ y) h' ∧ C.fn 16 [.ref 0, .t (.int (n : Nat))] h = .ok (.t (.lst (nms.map .str))) h'
set_option maxHeartbeats 4000000 in
theorem r18 {C : Cl} (P : Pk2 C) {rest h : List Ob} (S : Sr rest h) :
    ∃ n nms rows low y h', TabOk n nms rows low ∧ Sr (rest ++ y) h' ∧ run C fn18 [.ref 0] h = .ok (.t (tabT nms rows low)) h' := by
  obtain ⟨r, h1, hr, S1, e1⟩ := P.ev (loc := [some (.ref 0), none, none, none, none, none, none, none, none, none]) S rfl (e := .int 4) rfl (by decide) (by decide)
  obtain ⟨n, hn⟩ : ∃ n, n = 1 + r := ⟨_, rfl⟩
  have hn1 : 1 ≤ n := by omega
  have hn4 : n ≤ 4 := by omega
  have hn9 : n ≤ 100 := by omega
  have e1' : evE C (.op .add [(.int 1), (.call true 15 [(.var 0), (.int 4)])]) [some (.ref 0), none, none, none, none, none, none, none, none, none] h = .ok (.t (.int (n : Nat))) h1 := by
    rw [ev_op2 (x_int 1) e1, p_add, hn]
    norm_cast
  have s1 := k_set (i := 1) e1'
  have s2 : exS C (.set 2 (.op (.lrng false) [(.var 1)])) [some (.ref 0), some (.t (.int (n : Nat))), none, none, none, none, none, none, none, none] h1 = .ok (.nx [some (.ref 0), some (.t (.int (n : Nat))), some (.t (everyT n)), none, none, none, none, none, none, none]) h1 := by
    have e : evE C (.op (.lrng false) [(.var 1)]) [some (.ref 0), some (.t (.int (n : Nat))), none, none, none, none, none, none, none, none] h1 = .ok (.t (everyT n)) h1 := by
      rw [ev_op1 (ev_var (i := 1) (x := .int (n : Nat)) rfl), p_lrng, if_pos (by omega)]
      rfl
    exact k_set e
  obtain ⟨q, h2, hq, S2, e3⟩ := P.ev (loc := [some (.ref 0), some (.t (.int (n : Nat))), some (.t (everyT n)), none, none, none, none, none, none, none]) S1 rfl (e := .int 4) rfl (by decide) (by decide)
  have s3 := k_set (i := 3) e3
  obtain ⟨rows1, h3, a1, a2, a3, e4⟩ := mat18 (C := C) (l1 := some (.t (.int (n : Nat)))) (l3 := some (.t (.int (q : Nat)))) (l4 := none) (l5 := none) (l6 := none) (l7 := none) (l8 := none) (l9 := none) hn9 S2 (fun a ha b hb rest h S => he1 hn1 ha hb S)
  have s4 := k_set (i := 4) e4
  have M3 := mat_of (rest := rest) a1
  have p3 : rest <+: rest ++ rows1.map rowO ++ [refs rest.length n] := by rw [List.append_assoc]; exact List.prefix_append _ _
  obtain ⟨R4, c4, rows4, h4, b1, b2, b3, b4, b5, b6, s5⟩ := alt18 (C := C) (q := q) (m := 1) hn1 hn9 a1 a2 (Nat.le_refl _) p3 M3 a3 (fun l3 l4 l5 l6 l7 a ha b hb rest h S => he2 hn1 ha hb S)
  obtain ⟨R5, c5, rows5, h5, d1, d2, d3, d4, d5, d6, s6⟩ := alt18 (C := C) (q := q) (m := 2) hn1 hn9 b1 b2 b3 b4 b5 b6 (fun l3 l4 l5 l6 l7 a ha b hb rest h S => he3 hn1 ha hb S)
  obtain ⟨R6, c6, rows6, h6, f1, f2, f3, f4, f5, f6, s7⟩ := alt18 (C := C) (q := q) (m := 3) hn1 hn9 d1 d2 d3 d4 d5 d6 (fun l3 l4 l5 l6 l7 a ha b hb rest h S => he4 P.toPk hn1 hn9 S)
  have s8 : exS C (.set 5 (.int 0)) [some (.ref 0), some (.t (.int (n : Nat))), some (.t (everyT n)), some (.t (.int (q : Nat))), some (.ref (c6 + n + 2)), none, none, none, none, none] h6 = .ok (.nx [some (.ref 0), some (.t (.int (n : Nat))), some (.t (everyT n)), some (.t (.int (q : Nat))), some (.ref (c6 + n + 2)), some (.t (.int 0)), none, none, none, none]) h6 := rfl
  obtain ⟨m, h7, hm, S7, e8⟩ := P.ev (loc := [some (.ref 0), some (.t (.int (n : Nat))), some (.t (everyT n)), some (.t (.int (q : Nat))), some (.ref (c6 + n + 2)), some (.t (.int 0)), none, none, none, none]) f6 rfl (e := .int 4) rfl (by decide) (by decide)
  have s9 := k_rng (C := C) (tg := .v 6) (b := B18) e8 (by omega)
  obtain ⟨R8, rows, low, x6, x7, x8, x9, h8, g1, g2, g3, g4, g5, g6, e9⟩ := loop18 P.toPk (l2 := some (.t (everyT n))) (l3 := some (.t (.int (q : Nat)))) hn1 hn9 f1 f2 f3 f4 f5 S7 ((List.range m).map fun i => .t (.int (i : Nat)))
  rw [e9] at s9
  subst g2
  obtain ⟨nms, y, h9, n1, n2, S9, e10⟩ := P.nm R8 h8 rows.length hn9 g6
  have e11 : evE C (.call true 16 [(.var 0), (.var 1)]) [some (.ref 0), some (.t (.int (rows.length : Nat))), some (.t (everyT rows.length)), some (.t (.int (q : Nat))), some (.ref (c6 + rows.length + 2)), some (.t (.int (low : Nat))), x6, x7, x8, x9] h8 = .ok (.t (.lst (nms.map .str))) h9 := ev_call2 (ev_ref rfl g6.n0) (ev_var rfl) e10
  have M9 := g5.app y
  have p9 : rest <+: R8 ++ y := g4.trans (List.prefix_append _ _)
  obtain ⟨R10, h10, S10, p10, e12⟩ := pur_mat f3 p9 M9 S9
  have e13 : evE C (.lst false [(.call true 16 [(.var 0), (.var 1)]), (.var 4), (.var 5)]) [some (.ref 0), some (.t (.int (rows.length : Nat))), some (.t (everyT rows.length)), some (.t (.int (q : Nat))), some (.ref (c6 + rows.length + 2)), some (.t (.int (low : Nat))), x6, x7, x8, x9] h8 = .ok (.t (tabT nms rows low)) h10 := by
    have w1 : evEs C [(.call true 16 [(.var 0), (.var 1)]), (.var 4), (.var 5)] [some (.ref 0), some (.t (.int (rows.length : Nat))), some (.t (everyT rows.length)), some (.t (.int (q : Nat))), some (.ref (c6 + rows.length + 2)), some (.t (.int (low : Nat))), x6, x7, x8, x9] h8 = .ok [.t (.lst (nms.map .str)), .ref (c6 + rows.length + 2), .t (.int (low : Nat))] h9 := by
      rw [x_cons, b_ok e11]
      rw [b_ok (show evEs C [(.var 4), (.var 5)] _ h9 = .ok [.ref (c6 + rows.length + 2), .t (.int (low : Nat))] h9 by
        rw [x_cons, b_ok (M9.var S9 (i := 4) rfl)]; rfl)]
      rfl
    rw [x_lst, b_ok w1, v_keepf]
    have w2 : mp pur [.t (.lst (nms.map .str)), .ref (c6 + rows.length + 2), .t (.int (low : Nat))] h9 = .ok [.lst (nms.map .str), .lst (rows.map rowT), .int (low : Nat)] h10 := by
      rw [v_mp1, b_ok (v_pur _)]
      rw [b_ok (show mp pur [.ref (c6 + rows.length + 2), .t (.int (low : Nat))] h9 = .ok [.lst (rows.map rowT), .int (low : Nat)] h10 by
        rw [v_mp1, b_ok e12]; rfl)]
      rfl
    rw [b_ok w2]
    rfl
  have s10 := k_retf e13
  have s11 := (ss_nx s1).trans ((ss_nx s2).trans ((ss_nx s3).trans ((ss_nx s4).trans ((ss_nx s5).trans ((ss_nx s6).trans ((ss_nx s7).trans ((ss_nx s8).trans ((ss_nx s9).trans (ss_rt (ss := []) s10)))))))))
  have s12 := run_rt (d := fn18) (vs := [.ref 0]) rfl s11
  obtain ⟨z, hz⟩ := p10
  rw [← hz] at S10
  obtain ⟨w, S11⟩ := S10.trunc S.len
  exact ⟨rows.length, nms, rows, low, w, _, ⟨hn1, hn4, n1, n2, rfl, g3, g1⟩, S11, s12⟩
end MS

set_option Elab.async false
set_option linter.all false
set_option maxRecDepth 100000
/-! Q3J: the searches of _law_due and first_fault -/
namespace MS
open PySem
section
variable {C : Cl} {loc : Loc} {h : List Ob}
theorem leaf {J : Loc → Prop} {p : Prop} [Decidable p] {A B X : E} {x : T} (j : J loc) (ht : PT C loc (.eqq true A B) (decide p ^^ true)) (hx : PV C loc X x) : Found J h (if p then none else some x) (exSs C [.iff (.eqq true A B) [.ret false X] []] loc h) := by
  have e := st_iff (h := h) (u := [.ret false X]) (v := []) ht
  by_cases q : p
  · rw [if_pos q]
    rw [decide_eq_true q] at e
    exact ⟨loc, (ss_nx e).trans rfl, j⟩
  · rw [if_neg q]
    rw [decide_eq_false q] at e
    exact ss_rt (e.trans (ss_rt (st_ret hx)))
theorem nest {J : Loc → Prop} {item : Nat → T} {n i e : Nat} {body : List S} {f : Nat → Option T} (H : ∀ a < n, ∀ loc, J loc → Found J h (f a) (exSs C body (loc.set i (some (.t (item a)))) h)) (je : ∀ loc, J loc → loc[e]? = some (some (.t (.lst ((List.range n).map item))))) (j : J loc) :
    Found J h ((List.range n).findSome? f) (exS C (.fr (.v i) (.seq (.var e)) body) loc h) := by
  rw [st_seq (pi_lst (pv_var (je loc j)))]
  exact forM_findA item f (List.range n) loc (fun a ha loc d => ⟨_, rfl, H a (List.mem_range.mp ha) loc d⟩) j
theorem single {J J' : Loc → Prop} {o : Option T} {s : S} (q : Found J' h o (exS C s loc h)) (m : ∀ l, J' l → J l) : Found J h o (exSs C [s] loc h) := by
  cases o with
  | some x => exact ss_rt q
  | none =>
    obtain ⟨l, e, d⟩ := q
    exact ⟨l, (ss_nx e).trans rfl, m l d⟩
theorem seqF {J : Loc → Prop} {o : Option T} {s : S} {ss : List S} {d : T} (q : Found J h o (exS C s loc h)) (k : ∀ l, J l → exSs C ss l h = .ok (.ret (.t d)) h) : exSs C (s :: ss) loc h = .ok (.ret (.t (o.getD d))) h := by
  cases o with
  | some x => exact ss_rt q
  | none =>
    obtain ⟨l, e, j⟩ := q
    exact (ss_nx e).trans (k l j)
end
/-- what both find -/
def fault (nm : Nat → T) (n : Nat) (s : Nat → Nat → Nat) (low : Nat) : T := (dueS nm n s).getD ((dueZ nm n s low).getD ((dueG nm n s).getD .non))
/-- a base that stays when the variables from k on are set -/
structure Base (D : Loc → Prop) (k len : Nat) : Prop where
  st : ∀ loc i v, k ≤ i → D loc → D (loc.set i v)
  ln : ∀ loc, D loc → loc.length = len
def At (D : Loc → Prop) (i : Nat) (x : T) (loc : Loc) : Prop := D loc ∧ loc[i]? = some (some (.t x))
theorem at_set {D : Loc → Prop} {k len i : Nat} {x : T} {loc : Loc} (B : Base D k len) (hi : k ≤ i) (hl : i < len) (d : D loc) : At D i x (loc.set i (some (.t x))) := ⟨B.st _ _ _ hi d, List.getElem?_set_self (by rw [B.ln _ d]; exact hl)⟩
theorem At.base {D : Loc → Prop} {k len i : Nat} {x : T} (B : Base D k len) (hi : i < k) : Base (At D i x) k len := ⟨fun loc j v hj d => ⟨B.st _ _ _ hj d.1, by rw [List.getElem?_set_ne (by omega)]; exact d.2⟩, fun loc d => B.ln _ d.1⟩
theorem Base.up {D : Loc → Prop} {k len : Nat} (B : Base D k len) : Base D (k + 1) len := ⟨fun loc i v hi d => B.st loc i v (by omega) d, B.ln⟩
theorem D17.base {nm : Nat → T} {n low : Nat} {s : Nat → Nat → Nat} : Base (D17 nm n s low) 4 7 := ⟨fun loc i v hi d => d.set hi v, fun loc d => d.len⟩
theorem r17 {C : Cl} {nm : Nat → T} {n low : Nat} {s : Nat → Nat → Nat} (hn : n ≤ 100) (hs : ∀ a < n, ∀ b < n, s a b < n) (hl : low < n) : run C fn17 [.t (nmT nm n), .t (suT s n), .t (.int (low : Nat))] [] = .ok (.t (fault nm n s low)) [] := by
  have e1 : evE C (.op .len [(.var 0)]) [some (.t (nmT nm n)), some (.t (suT s n)), some (.t (.int (low : Nat))), none, none, none, none] [] = .ok (.t (.int (n : Nat))) [] := by
    rw [ev_op1 (ev_var (i := 0) (x := nmT nm n) rfl)]
    unfold nmT
    rw [p_lenl, List.length_map, List.length_range]
  have s1 : exS C (.set 3 (.op (.lrng false) [(.op .len [(.var 0)])])) [some (.t (nmT nm n)), some (.t (suT s n)), some (.t (.int (low : Nat))), none, none, none, none] [] = .ok (.nx [some (.t (nmT nm n)), some (.t (suT s n)), some (.t (.int (low : Nat))), some (.t (.lst (evT_ n))), none, none, none]) [] := by
    refine k_set (v := .t (.lst (evT_ n))) ?_
    rw [ev_op1 e1, p_lrng, if_pos (by omega)]
    rfl
  have d0 : D17 nm n s low [some (.t (nmT nm n)), some (.t (suT s n)), some (.t (.int (low : Nat))), some (.t (.lst (evT_ n))), none, none, none] := ⟨rfl, rfl, rfl, rfl, rfl⟩
  have B := D17.base (nm := nm) (n := n) (low := low) (s := s)
  refine run_rt0 rfl ((ss_nx s1).trans (seqF (J := D17 nm n s low) (loopS17 d0) fun l1 d1 => seqF (J := D17 nm n s low) (o := dueZ nm n s low) ?_ fun l2 d2 => seqF (J := D17 nm n s low) (o := dueG nm n s) ?_ fun l3 d3 => ss_rt (st_ret pv_non)))
  · refine nest (item := fun k => T.int (k : Nat)) (fun a ha loc d => ?_) (fun _ d => d.l3) d1
    have A := at_set (i := 4) (x := .int (a : Nat)) B (by omega) (by omega) d
    refine leaf (B.st _ _ _ (by omega) d) ?_ (pv_tup (pvs_cons pv_str (pvs_cons (pv_tup (pvs_cons (nm17 A.1 (pv_var A.2) ha) pvs_nil)) pvs_nil)))
    rw [show decide (s a low = a) = decide (((s a low : Nat) : Int) = (a : Nat)) by simp only [Int.natCast_inj]]
    exact pt_eqi (at17 A.1 (pv_var A.2) (pv_var A.1.l2) ha hl) (pv_var A.2)
  · refine nest (item := fun k => T.int (k : Nat)) (fun a ha loc d => ?_) (fun _ d => d.l3) d2
    have A := at_set (i := 4) (x := .int (a : Nat)) B (by omega) (by omega) d
    have BA := (B.up).up.up
    have B1 : Base (At (D17 nm n s low) 4 (.int (a : Nat))) 5 7 := At.base (B.up) (by omega)
    refine single (J' := At (D17 nm n s low) 4 (.int (a : Nat))) ?_ fun l x => x.1
    refine nest (item := fun k => T.int (k : Nat)) (fun b hb loc d => ?_) (fun _ d => d.1.l3) A
    have A2 := at_set (i := 5) (x := .int (b : Nat)) B1 (by omega) (by omega) d
    have B2 : Base (At (At (D17 nm n s low) 4 (.int (a : Nat))) 5 (.int (b : Nat))) 6 7 := At.base (B1.up) (by omega)
    refine single (J' := At (At (D17 nm n s low) 4 (.int (a : Nat))) 5 (.int (b : Nat))) ?_ fun l x => x.1
    refine nest (item := fun k => T.int (k : Nat)) (fun c hc loc d => ?_) (fun _ d => d.1.1.l3) A2
    have A3 := at_set (i := 6) (x := .int (c : Nat)) B2 (by omega) (by omega) d
    have D := A3.1.1.1
    have va := pv_var (C := C) A3.1.1.2
    have vb := pv_var (C := C) A3.1.2
    have vc := pv_var (C := C) A3.2
    refine leaf A3.1 ?_ (pv_tup (pvs_cons pv_str (pvs_cons (pv_tup (pvs_cons (nm17 D va ha) (pvs_cons (nm17 D vb hb) (pvs_cons (nm17 D vc hc) pvs_nil)))) pvs_nil)))
    rw [show decide (s (s a b) c = s a (s b c)) = decide (((s (s a b) c : Nat) : Int) = (s a (s b c) : Nat)) by simp only [Int.natCast_inj]]
    exact pt_eqi (at17 D (at17 D va vb ha hb) vc (hs a ha b hb) hc) (pv_op (pvs_cons (pv_op (pvs_cons (pv_var D.l1) (pvs_cons va pvs_nil)) fun h => o_idxl (rng_get _ ha)) (pvs_cons (at17 D vb vc hb hc) pvs_nil)) fun h => o_idxl (rng_get _ (hs b hb c hc)))
/-! ### a monoid as a tree -/
def plT (nm : Nat → Str) (n : Nat) : List (T × T) := (List.range n).map fun a => (.str (nm a), .int (a : Nat))
def nmL (nm : Nat → Str) (n : Nat) : List T := (List.range n).map fun a => .str (nm a)
def suL (s : Nat → Nat → Nat) (n : Nat) : List T := (List.range n).map fun a => .tup ((List.range n).map fun b => .int (s a b : Nat))
def mFs (nm : Nat → Str) (n : Nat) (s : Nat → Nat → Nat) (low : Nat) : List (Nat × T) := [(1, .tup (nmL nm n)), (2, .dct (plT nm n)), (3, .tup (suL s n)), (4, .str (nm low)), (5, .tup [.tup (nmL nm n), .tup (suL s n), .str (nm low)])]
def Inj (nm : Nat → Str) (n : Nat) : Prop := ∀ a < n, ∀ b < n, nm a = nm b → a = b
theorem dget_nm {nm : Nat → Str} {n a : Nat} (hi : Inj nm n) (ha : a < n) : dget ((plT nm n).map fun p => (p.1, Val.t p.2)) (.str (nm a)) = some (.t (.int (a : Nat))) := by
  unfold dget plT
  rw [List.map_map]
  have : ((List.range n).map ((fun p : T × T => (p.1, Val.t p.2)) ∘ fun a => (T.str (nm a), T.int (a : Nat)))).find? (fun p => keyEq p.1 (.str (nm a))) = some (.str (nm a), .t (.int (a : Nat))) := by
    rw [List.find?_map]
    have e : (List.range n).find? ((fun p : T × Val => keyEq p.1 (.str (nm a))) ∘ ((fun p : T × T => (p.1, Val.t p.2)) ∘ fun a => (T.str (nm a), T.int (a : Nat)))) = some a := by
      rw [List.find?_eq_some_iff_getElem]
      refine ⟨?_, a, by rw [List.length_range]; exact ha, by rw [List.getElem_range], ?_⟩
      · simp [keyEq]
      · intro j hj
        simp only [Function.comp, keyEq, keyOf, List.getElem_range, Option.some.injEq, Sum.inr.injEq, Bool.not_eq_eq_eq_not, Bool.not_true, decide_eq_false_iff_not]
        intro e
        exact absurd (hi j (by omega) a ha e) (by omega)
    rw [e]
    rfl
  rw [this]
  rfl
end MS

set_option Elab.async false
set_option linter.all false
set_option maxRecDepth 100000
/-! Q3K: the calls of a monoid; first_fault -/
namespace MS
open PySem
def cc (k : Nat) : Cl := G.cl (G.ff k).1 (G.ff k).2
def mT (c : Nat) (nm : Nat → Str) (n : Nat) (s : Nat → Nat → Nat) (low : Nat) (ex : List (Nat × T)) : T := .ins c (mFs nm n s low ++ ex)
def Mo (c : Nat) : Prop := c = 5 ∨ c = 6
section
variable {k c n low : Nat} {nm : Nat → Str} {s : Nat → Nat → Nat} {ex : List (Nat × T)} {loc : Loc}
theorem Mo.m3 (h : Mo c) : (cc k).mth c 3 = some 4 := by rcases h with rfl | rfl <;> rfl
theorem Mo.m4 (h : Mo c) : (cc k).mth c 4 = some 5 := by rcases h with rfl | rfl <;> rfl
theorem Mo.m5 (h : Mo c) : (cc k).mth c 5 = some 6 := by rcases h with rfl | rfl <;> rfl
theorem q5 (hi : Inj nm n) {a : Nat} (ha : a < n) : (cc (k + 1)).fn 5 [.t (mT c nm n s low ex), .t (.str (nm a))] [] = .ok (.t (.int (a : Nat))) [] :=
  r5 (C := cc k) (kvs := plT nm n) rfl (fun _ => rfl) (dget_nm hi ha)
theorem q4 : (cc (k + 1)).fn 4 [.t (mT c nm n s low ex)] [] = .ok (.t (.lst (nmL nm n))) [] := r4 (C := cc k) rfl
theorem q6 (hc : Mo c) (hi : Inj nm n) (hs : ∀ a < n, ∀ b < n, s a b < n) {a b : Nat} (ha : a < n) (hb : b < n) : (cc (k + 2)).fn 6 [.t (mT c nm n s low ex), .t (.str (nm a)), .t (.str (nm b))] [] = .ok (.t (.str (nm (s a b)))) [] :=
  r6 (C := cc (k + 1)) (sums := suL s n) (names := nmL nm n) (row := (List.range n).map fun b => .int (s a b : Nat)) (i := a) (j := b) (k := s a b) hc.m4 rfl rfl (q5 hi ha) (q5 hi hb) (rng_get _ ha) (rng_get _ hb) (rng_get _ (hs a ha b hb))
theorem pv_plus (hc : Mo c) (hi : Inj nm n) (hs : ∀ a < n, ∀ b < n, s a b < n) {m x y : E} {a b : Nat} (hm : PV (cc (k + 2)) loc m (mT c nm n s low ex)) (hx : PV (cc (k + 2)) loc x (.str (nm a))) (hy : PV (cc (k + 2)) loc y (.str (nm b))) (ha : a < n) (hb : b < n) : PV (cc (k + 2)) loc (.meth false m 5 [x, y]) (.str (nm (s a b))) :=
  pv_meth hm (pvs_cons hx (pvs_cons hy pvs_nil)) hc.m5 (q6 hc hi hs ha hb)
theorem pv_members (hc : Mo c) {m : E} (hm : PV (cc (k + 1)) loc m (mT c nm n s low ex)) : PV (cc (k + 1)) loc (.meth false m 3 []) (.lst (nmL nm n)) :=
  pv_meth hm pvs_nil hc.m3 q4
theorem pv_zero {C : Cl} {m : E} (hm : PV C loc m (mT c nm n s low ex)) : PV C loc (.op (.fld 4) [m]) (.str (nm low)) := pv_op (pvs_cons hm pvs_nil) fun h => o_fld rfl
end
structure D13 (M L : T) (loc : Loc) : Prop where
  l0 : loc[0]? = some (some (.t M))
  l1 : loc[1]? = some (some (.t L))
  len : loc.length = 5
theorem D13.base {M L : T} : Base (D13 M L) 2 5 := ⟨fun loc i v hi d => ⟨by rw [List.getElem?_set_ne (by omega)]; exact d.l0, by rw [List.getElem?_set_ne (by omega)]; exact d.l1, by rw [List.length_set]; exact d.len⟩, fun loc d => d.len⟩
theorem dec_nm {nm : Nat → Str} {n a b : Nat} (hi : Inj nm n) (ha : a < n) (hb : b < n) : decide (a = b) = decide (nm a = nm b) := by
  by_cases q : a = b
  · subst q; simp
  · rw [decide_eq_false q, decide_eq_false fun e => q (hi a ha b hb e)]
theorem r13 {k c n low : Nat} {nm : Nat → Str} {s : Nat → Nat → Nat} {ex : List (Nat × T)} (hc : Mo c) (hi : Inj nm n) (hs : ∀ a < n, ∀ b < n, s a b < n) (hl : low < n) :
    run (cc (k + 2)) fn13 [.t (mT c nm n s low ex)] [] = .ok (.t (fault (fun a => .str (nm a)) n s low)) [] := by
  have s1 : exS (cc (k + 2)) (.set 1 (.meth false (.var 0) 3 [])) [some (.t (mT c nm n s low ex)), none, none, none, none] [] = .ok (.nx [some (.t (mT c nm n s low ex)), some (.t (.lst (nmL nm n))), none, none, none]) [] := st_set (pv_members hc (pv_var rfl))
  have d0 : D13 (mT c nm n s low ex) (.lst (nmL nm n)) [some (.t (mT c nm n s low ex)), some (.t (.lst (nmL nm n))), none, none, none] := ⟨rfl, rfl, rfl⟩
  have B := D13.base (M := mT c nm n s low ex) (L := .lst (nmL nm n))
  refine run_rt0 rfl ((ss_nx s1).trans (seqF (J := D13 (mT c nm n s low ex) (.lst (nmL nm n))) (o := dueS (fun a => .str (nm a)) n s) ?_ fun l1 d1 => seqF (J := D13 (mT c nm n s low ex) (.lst (nmL nm n))) (o := dueZ (fun a => .str (nm a)) n s low) ?_ fun l2 d2 => seqF (J := D13 (mT c nm n s low ex) (.lst (nmL nm n))) (o := dueG (fun a => .str (nm a)) n s) ?_ fun l3 d3 => ss_rt (st_ret pv_non)))
  · refine nest (item := fun k => T.str (nm k)) (fun a ha loc d => ?_) (fun _ d => d.l1) d0
    have A := at_set (i := 2) (x := .str (nm a)) B (by omega) (by omega) d
    have B1 : Base (At (D13 (mT c nm n s low ex) (.lst (nmL nm n))) 2 (.str (nm a))) 3 5 := At.base (B.up) (by omega)
    refine single (J' := At (D13 (mT c nm n s low ex) (.lst (nmL nm n))) 2 (.str (nm a))) ?_ fun l x => x.1
    refine nest (item := fun k => T.str (nm k)) (fun b hb loc d => ?_) (fun _ d => d.1.l1) A
    have A2 := at_set (i := 3) (x := .str (nm b)) B1 (by omega) (by omega) d
    have D := A2.1.1
    have vm := pv_var (C := cc (k + 2)) D.l0
    have va := pv_var (C := cc (k + 2)) A2.1.2
    have vb := pv_var (C := cc (k + 2)) A2.2
    refine leaf A2.1 ?_ (pv_tup (pvs_cons pv_str (pvs_cons (pv_tup (pvs_cons va (pvs_cons vb pvs_nil))) pvs_nil)))
    rw [dec_nm hi (hs a ha b hb) (hs b hb a ha)]
    exact pt_eqs (pv_plus hc hi hs vm va vb ha hb) (pv_plus hc hi hs vm vb va hb ha)
  · refine nest (item := fun k => T.str (nm k)) (fun a ha loc d => ?_) (fun _ d => d.l1) d1
    have A := at_set (i := 2) (x := .str (nm a)) B (by omega) (by omega) d
    have vm := pv_var (C := cc (k + 2)) A.1.l0
    have va := pv_var (C := cc (k + 2)) A.2
    refine leaf A.1 ?_ (pv_tup (pvs_cons pv_str (pvs_cons (pv_tup (pvs_cons va pvs_nil)) pvs_nil)))
    rw [dec_nm hi (hs a ha low hl) ha]
    exact pt_eqs (pv_plus hc hi hs vm va (pv_zero vm) ha hl) va
  · refine nest (item := fun k => T.str (nm k)) (fun a ha loc d => ?_) (fun _ d => d.l1) d2
    have A := at_set (i := 2) (x := .str (nm a)) B (by omega) (by omega) d
    have B1 : Base (At (D13 (mT c nm n s low ex) (.lst (nmL nm n))) 2 (.str (nm a))) 3 5 := At.base (B.up) (by omega)
    refine single (J' := At (D13 (mT c nm n s low ex) (.lst (nmL nm n))) 2 (.str (nm a))) ?_ fun l x => x.1
    refine nest (item := fun k => T.str (nm k)) (fun b hb loc d => ?_) (fun _ d => d.1.l1) A
    have A2 := at_set (i := 3) (x := .str (nm b)) B1 (by omega) (by omega) d
    have B2 : Base (At (At (D13 (mT c nm n s low ex) (.lst (nmL nm n))) 2 (.str (nm a))) 3 (.str (nm b))) 4 5 := At.base (B1.up) (by omega)
    refine single (J' := At (At (D13 (mT c nm n s low ex) (.lst (nmL nm n))) 2 (.str (nm a))) 3 (.str (nm b))) ?_ fun l x => x.1
    refine nest (item := fun k => T.str (nm k)) (fun e he loc d => ?_) (fun _ d => d.1.1.l1) A2
    have A3 := at_set (i := 4) (x := .str (nm e)) B2 (by omega) (by omega) d
    have D := A3.1.1.1
    have vm := pv_var (C := cc (k + 2)) D.l0
    have va := pv_var (C := cc (k + 2)) A3.1.1.2
    have vb := pv_var (C := cc (k + 2)) A3.1.2
    have ve := pv_var (C := cc (k + 2)) A3.2
    refine leaf A3.1 ?_ (pv_tup (pvs_cons pv_str (pvs_cons (pv_tup (pvs_cons va (pvs_cons vb (pvs_cons ve pvs_nil)))) pvs_nil)))
    rw [dec_nm hi (hs _ (hs a ha b hb) e he) (hs a ha _ (hs b hb e he))]
    exact pt_eqs (pv_plus hc hi hs vm (pv_plus hc hi hs vm va vb ha hb) ve (hs a ha b hb) he) (pv_plus hc hi hs vm va (pv_plus hc hi hs vm vb ve hb he) ha (hs b hb e he))
end MS

set_option Elab.async false
set_option linter.all false
set_option maxRecDepth 100000
/-! Q3L: Monoid.__init__ -/
namespace MS
open PySem
theorem run_nx {C : Cl} {d : FnD} {vs : List Val} {h h1 : List Ob} {l : Loc} (hl : vs.length = d.np) (a : exSs C d.body (startL d vs) h = .ok (.nx l) h1) (e : h1.length = h.length) : run C d vs h = .ok (.t .non) h1 := by
  unfold run
  rw [if_pos hl, a]
  show RH.ok _ (trunc h.length h1) = _
  rw [trunc_len e]
theorem k_fset {C : Cl} {loc : Loc} {h : List Ob} {a e : E} {f p c : Nat} {v : Val} {fs : List (Nat × Val)} (he : evE C e loc h = .ok v h) (ha : evE C a loc h = .ok (.ref p) h) (hp : h[p]? = some (.ins c fs)) (hl : fs.length < 100) : exS C (.fset a f e) loc h = .ok (.nx loc) (h.set p (.ins c (putF f v fs))) :=
  th_ok (m := MH.bind (evE C e loc) fun v => MH.bind (evE C a loc) fun a => setFM f a v) (by
    rw [b_ok he, b_ok ha]
    show (match h[p]? with
      | some (.ins c fs) => if fs.length < 100 then put p (.ins c (putF f v fs)) h else .bad
      | _ => .bad) = _
    rw [hp]
    show (if fs.length < 100 then put p (.ins c (putF f v fs)) h else .bad) = _
    rw [if_pos hl]
    rfl)
theorem enum_map : ∀ (n k : Nat) (f : Nat → T), enumT k ((List.range' k n).map f) = (List.range' k n).map fun i => .tup [.int (i : Nat), f i]
  | 0, k, f => rfl
  | n + 1, k, f => by
    rw [List.range'_succ, List.map_cons, List.map_cons]
    show T.tup [.int (k : Nat), f k] :: enumT (k + 1) _ = _
    rw [enum_map n (k + 1) f]
theorem dput_new {nm : Nat → Str} {n k : Nat} {v : Val} (hi : Inj nm n) (hk : k < n) : dput ((List.range k).map fun a => (T.str (nm a), Val.t (.int (a : Nat)))) (.str (nm k)) v = ((List.range k).map fun a => (T.str (nm a), Val.t (.int (a : Nat)))) ++ [(.str (nm k), v)] := by
  unfold dput
  rw [if_neg]
  rw [List.any_map, List.any_eq_true]
  rintro ⟨a, ha, e⟩
  have ha := List.mem_range.mp ha
  simp only [Function.comp, keyEq, keyOf, Option.some.injEq, Sum.inr.injEq, decide_eq_true_eq] at e
  exact absurd (hi a (by omega) k hk e) (by omega)
theorem dcM_nm {asgn : Val → Loc → Option Loc} {loc : Loc} {ke ve : Loc → MH Val} {nm : Nat → Str} {n : Nat} (hi : Inj nm n) (H : ∀ a < n, ∃ l, asgn (.t (.tup [.int (a : Nat), .str (nm a)])) loc = some l ∧ (∀ h, ke l h = .ok (.t (.str (nm a))) h) ∧ (∀ h, ve l h = .ok (.t (.int (a : Nat))) h)) (h : List Ob) :
    ∀ m k, k + m = n → dcM asgn loc ke ve (((List.range' k m).map fun i => T.tup [.int (i : Nat), .str (nm i)]).map .t) ((List.range k).map fun a => (T.str (nm a), Val.t (.int (a : Nat)))) h = .ok ((List.range n).map fun a => (T.str (nm a), Val.t (.int (a : Nat)))) h
  | 0, k, hk => by
    have : k = n := by omega
    subst this
    rfl
  | m + 1, k, hk => by
    obtain ⟨l, e1, e2, e3⟩ := H k (by omega)
    have IH := dcM_nm (asgn := asgn) (loc := loc) (ke := ke) (ve := ve) hi H h m (k + 1) (by omega)
    rw [List.range'_succ, List.map_cons, List.map_cons]
    show (match asgn (.t (.tup [.int (k : Nat), .str (nm k)])) loc with
    | none => bad
    | some l => MH.bind (ke l) fun kk => MH.bind (keyV kk) fun kk => MH.bind (ve l) fun v => dcM asgn loc ke ve (((List.range' (k + 1) m).map fun i => T.tup [.int (i : Nat), .str (nm i)]).map .t) (dput ((List.range k).map fun a => (T.str (nm a), Val.t (.int (a : Nat)))) kk v)) h = _
    rw [e1]
    dsimp only
    rw [b_ok (e2 h), b_ok (v_keys (nm k)), b_ok (e3 h), dput_new hi (by omega)]
    rw [List.range_succ, List.map_append] at IH
    exact IH
theorem dc_nm {C : Cl} {nm : Nat → Str} {n : Nat} {l0 l2 l3 l4 l5 l6 : Option Val} {h : List Ob} (hi : Inj nm n) (hn : n ≤ 100) : evE C (.dc [4, 5] (.tp [(.v 4), (.v 5)]) (.enum (.var 1)) (.var 5) (.var 4)) [l0, some (.t (.lst (nmL nm n))), l2, l3, l4, l5, l6] h = .ok (.t (.dct (plT nm n))) h := by
  show MH.bind (evIt C (.enum (.var 1)) [l0, some (.t (.lst (nmL nm n))), l2, l3, l4, l5, l6]) (fun xs => if xs.length ≤ SL then noexc (MH.bind (dcM (asg (.tp [(.v 4), (.v 5)])) (wipeL [l0, some (.t (.lst (nmL nm n))), l2, l3, l4, l5, l6] [4, 5]) (evE C (.var 5)) (evE C (.var 4)) xs []) fun kvs =>
      MH.bind (mp pur (kvs.map (·.2))) fun ts => (pure (.t (.dct ((kvs.map (·.1)).zip ts))) : MH Val)) else bad) h = _
  have e1 : evIt C (.enum (.var 1)) [l0, some (.t (.lst (nmL nm n))), l2, l3, l4, l5, l6] h = .ok (((List.range' 0 n).map fun i => T.tup [.int (i : Nat), .str (nm i)]).map .t) h := by
    rw [i_enum, b_ok (ev_var (i := 1) (x := .lst (nmL nm n)) rfl), b_ok (v_lstP _)]
    unfold nmL
    rw [List.range_eq_range', enum_map]
    rfl
  rw [b_ok e1, if_pos (by rw [List.length_map, List.length_map, List.length_range']; exact Nat.le_trans hn (by decide))]
  have q := dcM_nm (asgn := asg (.tp [(.v 4), (.v 5)])) (loc := wipeL [l0, some (.t (.lst (nmL nm n))), l2, l3, l4, l5, l6] [4, 5]) (ke := evE C (.var 5)) (ve := evE C (.var 4)) hi (fun a _ => ⟨_, rfl, fun _ => rfl, fun _ => rfl⟩) h n 0 (Nat.zero_add n)
  rw [List.range_zero, List.map_nil] at q
  unfold noexc
  rw [b_ok q]
  have e2 : mp pur (((List.range n).map fun a => (T.str (nm a), Val.t (.int (a : Nat)))).map (·.2)) h = .ok ((List.range n).map fun a => T.int (a : Nat)) h := by
    rw [List.map_map]
    have := mp_t ((List.range n).map fun a => T.int (a : Nat)) h
    rw [List.map_map] at this
    exact this
  rw [b_ok e2]
  show RH.ok _ h = _
  rw [List.map_map]
  unfold plT
  congr 3
  rw [List.zip_map']
  rfl
def toV (fs : List (Nat × T)) : List (Nat × Val) := fs.map fun p => (p.1, .t p.2)
theorem r3 {C : Cl} {c n low : Nat} {nm : Nat → Str} {s : Nat → Nat → Nat} (hC : C.gl 1 = some (.int 12)) (h1 : 1 ≤ n) (hn : n ≤ 12) (hi : Inj nm n) (hl : low < n) :
    run C fn3 [.ref 0, .t (.lst (nmL nm n)), .t (suT s n), .t (.int (low : Nat))] [.ins c []] = .ok (.t .non) [.ins c (toV (mFs nm n s low))] := by
  have s0 : exS C (.iff (.nott (.ch .le .le (.int 1) (.op .len [(.var 1)]) (.gl 1))) [.no] []) [some (.ref 0), some (.t (.lst (nmL nm n))), some (.t (suT s n)), some (.t (.int (low : Nat))), none, none, none] [.ins c []] = .ok (.nx [some (.ref 0), some (.t (.lst (nmL nm n))), some (.t (suT s n)), some (.t (.int (low : Nat))), none, none, none]) [.ins c []] := by
    have hlen : (nmL nm n).length = n := by unfold nmL; rw [List.length_map, List.length_range]
    have e : evT C (.nott (.ch .le .le (.int 1) (.op .len [(.var 1)]) (.gl 1))) [some (.ref 0), some (.t (.lst (nmL nm n))), some (.t (suT s n)), some (.t (.int (low : Nat))), none, none, none] [.ins c []] = .ok false [.ins c []] := by
      have q1 : (1 : Int) ≤ n := by omega
      have q2 : (n : Int) ≤ 12 := by omega
      simp [hlen, hC, q1, q2]
    exact (k_iff e).trans rfl
  have hv : ∀ c' fs, evE C (.var 0) [some (.ref 0), some (.t (.lst (nmL nm n))), some (.t (suT s n)), some (.t (.int (low : Nat))), none, none, none] [.ins c' fs] = .ok (.ref 0) [.ins c' fs] := fun _ _ => rfl
  have s1 : exS C (.fset (.var 0) 1 (.op .tuple [(.var 1)])) [some (.ref 0), some (.t (.lst (nmL nm n))), some (.t (suT s n)), some (.t (.int (low : Nat))), none, none, none] [.ins c []] = .ok (.nx [some (.ref 0), some (.t (.lst (nmL nm n))), some (.t (suT s n)), some (.t (.int (low : Nat))), none, none, none]) [.ins c [(1, .t (.tup (nmL nm n)))]] :=
    k_fset (p := 0) (by rw [ev_op1 (ev_var (i := 1) (x := .lst (nmL nm n)) rfl), p_tupl]) (hv _ _) rfl (by simp)
  have s2 : exS C (.fset (.var 0) 2 (.dc [4, 5] (.tp [(.v 4), (.v 5)]) (.enum (.var 1)) (.var 5) (.var 4))) [some (.ref 0), some (.t (.lst (nmL nm n))), some (.t (suT s n)), some (.t (.int (low : Nat))), none, none, none] [.ins c [(1, .t (.tup (nmL nm n)))]] = .ok (.nx [some (.ref 0), some (.t (.lst (nmL nm n))), some (.t (suT s n)), some (.t (.int (low : Nat))), none, none, none]) [.ins c [(1, .t (.tup (nmL nm n))), (2, .t (.dct (plT nm n)))]] :=
    k_fset (p := 0) (dc_nm hi (by omega)) (hv _ _) rfl (by simp)
  have s3 : exS C (.fset (.var 0) 3 (.op .tuple [(.lc false [6] (.v 6) (.seq (.var 2)) [] (.op .tuple [(.var 6)]))])) [some (.ref 0), some (.t (.lst (nmL nm n))), some (.t (suT s n)), some (.t (.int (low : Nat))), none, none, none] [.ins c [(1, .t (.tup (nmL nm n))), (2, .t (.dct (plT nm n)))]] = .ok (.nx [some (.ref 0), some (.t (.lst (nmL nm n))), some (.t (suT s n)), some (.t (.int (low : Nat))), none, none, none]) [.ins c [(1, .t (.tup (nmL nm n))), (2, .t (.dct (plT nm n))), (3, .t (.tup (suL s n)))]] := by
    refine k_fset (p := 0) ?_ (hv _ _) rfl (by simp)
    have e : PV C [some (.ref 0), some (.t (.lst (nmL nm n))), some (.t (suT s n)), some (.t (.int (low : Nat))), none, none, none] (.lc false [6] (.v 6) (.seq (.var 2)) [] (.op .tuple [(.var 6)])) (.lst (((List.range n).map fun a => T.lst ((List.range n).map fun b => .int (s a b : Nat))).map fun x => match x with | .lst xs => .tup xs | x => x)) := by
      refine pv_lc _ (pi_lst (pv_var rfl)) (by rw [List.length_map, List.length_range]; exact Nat.le_trans hn (by decide)) fun x hx => ?_
      obtain ⟨a, _, rfl⟩ := List.mem_map.mp hx
      exact ⟨_, rfl, pv_op (pvs_cons (pv_var rfl) pvs_nil) fun h => p_tupl _⟩
    rw [List.map_map] at e
    rw [ev_op1 (e _), p_tupl]
    rfl
  have s4 : exS C (.fset (.var 0) 4 (.op .idx [(.var 1), (.var 3)])) [some (.ref 0), some (.t (.lst (nmL nm n))), some (.t (suT s n)), some (.t (.int (low : Nat))), none, none, none] [.ins c [(1, .t (.tup (nmL nm n))), (2, .t (.dct (plT nm n))), (3, .t (.tup (suL s n)))]] = .ok (.nx [some (.ref 0), some (.t (.lst (nmL nm n))), some (.t (suT s n)), some (.t (.int (low : Nat))), none, none, none]) [.ins c [(1, .t (.tup (nmL nm n))), (2, .t (.dct (plT nm n))), (3, .t (.tup (suL s n))), (4, .t (.str (nm low)))]] :=
    k_fset (p := 0) (v := .t (.str (nm low))) (fs := [(1, .t (.tup (nmL nm n))), (2, .t (.dct (plT nm n))), (3, .t (.tup (suL s n)))]) ((pv_op (pvs_cons (pv_var rfl) (pvs_cons (pv_var rfl) pvs_nil)) fun h => o_idxl (rng_get (fun a => T.str (nm a)) hl)) _) (hv _ _) rfl (show 3 < 100 by decide)
  have s5 : exS C (.fset (.var 0) 5 (.tup [(.op (.fld 1) [(.var 0)]), (.op (.fld 3) [(.var 0)]), (.op (.fld 4) [(.var 0)])])) [some (.ref 0), some (.t (.lst (nmL nm n))), some (.t (suT s n)), some (.t (.int (low : Nat))), none, none, none] [.ins c [(1, .t (.tup (nmL nm n))), (2, .t (.dct (plT nm n))), (3, .t (.tup (suL s n))), (4, .t (.str (nm low)))]] = .ok (.nx [some (.ref 0), some (.t (.lst (nmL nm n))), some (.t (suT s n)), some (.t (.int (low : Nat))), none, none, none]) [.ins c (toV (mFs nm n s low))] :=
    k_fset (p := 0) rfl (hv _ _) rfl (show 4 < 100 by decide)
  have s6 := (ss_nx s0).trans ((ss_nx s1).trans ((ss_nx s2).trans ((ss_nx s3).trans ((ss_nx s4).trans (ss_one s5)))))
  exact run_nx (d := fn3) (vs := [.ref 0, .t (.lst (nmL nm n)), .t (suT s n), .t (.int (low : Nat))]) rfl s6 rfl
end MS

set_option Elab.async false
set_option linter.all false
set_option maxRecDepth 100000
/-! Q3M: is_member_name, TableMonoid.__init__ -/
namespace MS
open PySem
/-- a good name -/
def Gn (s : Str) : Prop := ∃ l, s = stL l ∧ 1 ≤ l.length ∧ l.length ≤ 12 ∧ ∀ c ∈ l, c ∈ sg
theorem sg_ok : ∀ c ∈ sg, c < 0x110000 := by decide
theorem stOk {l : List Nat} (h : ∀ c ∈ l, c < 0x110000) : PyData.strOk (stL l) = true := by
  unfold PyData.strOk stL
  rw [← Array.all_toList]
  exact List.all_eq_true.mpr fun c hc => decide_eq_true (h c hc)
theorem Gn.ok {s : Str} (h : Gn s) : PyData.strOk s = true := by
  obtain ⟨l, rfl, _, _, h⟩ := h
  exact stOk fun c hc => sg_ok c (h c hc)
theorem pl_str {k : Nat} {s : Str} (h : PyData.strOk s = true) : (T.str s).pl k = true := by cases k <;> exact h
theorem r10 {C : Cl} {s : Str} (hC : C.gl 0 = some (.str "abcdefghijklmnopqrstuvwxyz0123456789")) (hg : Gn s) : run C fn10 [.t (.str s)] [] = .ok (.t (.bl true)) [] := by
  obtain ⟨l, rfl, h1, h2, h3⟩ := hg
  rw [sgE] at hC
  refine run_rt0 rfl (ss_rt (st_ret ?_))
  have e1 : PV C (startL fn10 [.t (.str (stL l))]) (.ch .le .le (.int 1) (.op .len [(.var 0)]) (.int 12)) (.bl (true && true)) := by
    refine pv_ch (k := true) (l := true) pv_int (pv_op (pvs_cons (pv_var (x := .str (stL l)) rfl) pvs_nil) fun h => (p_lens (stL l)).trans (if_pos ?_)) pv_int (fun h => ?_) (fun _ h => ?_)
    · rw [st_len]; exact Nat.le_trans h2 (by decide)
    · rw [p_le, st_len, decide_eq_true (by omega)]
    · rw [p_le, st_len, decide_eq_true (by omega)]
  refine pv_and2 e1 fun _ => pv_all1 (pi_str (by omega) (pv_var rfl)) (by rw [List.length_map]; exact Nat.le_trans h2 (by decide)) fun x hx => ?_
  obtain ⟨c, hc, rfl⟩ := List.mem_map.mp hx
  exact ⟨_, rfl, pv_inc (r := true) (neg := false) (pv_var rfl) (pv_gl hC) ⟨fun _ => h3 c hc, fun _ => rfl⟩⟩
/-- the words of a table -/
def woT (nm : Nat → Str) (s : Nat → Nat → Nat) (n : Nat) : T := .lst ((List.range n).map fun a => .lst ((List.range n).map fun b => .str (nm (s a b))))
theorem nmL_len {nm : Nat → Str} {n : Nat} : (nmL nm n).length = n := by unfold nmL; rw [List.length_map, List.length_range]
theorem nmL_get {nm : Nat → Str} {n a : Nat} (h : a < n) : (nmL nm n)[a]? = some (.str (nm a)) := rng_get (fun a => T.str (nm a)) h
theorem nmL_mem {nm : Nat → Str} {n a : Nat} (h : a < n) : T.str (nm a) ∈ nmL nm n := List.mem_of_getElem? (nmL_get h)
theorem nmL_nd {nm : Nat → Str} {n : Nat} (hi : Inj nm n) : (nmL nm n).Nodup := by
  unfold nmL
  rw [List.nodup_iff_pairwise_ne, List.pairwise_map]
  refine List.Pairwise.imp_of_mem ?_ (List.nodup_range (n := n))
  intro a b ha hb hab e
  injection e with e
  exact hab (hi a (List.mem_range.mp ha) b (List.mem_range.mp hb) e)
theorem nmL_pl {nm : Nat → Str} {n : Nat} (hk : ∀ a < n, PyData.strOk (nm a) = true) : ∀ y ∈ nmL nm n, y.pl 0 = true := by
  intro y hy
  obtain ⟨a, ha, rfl⟩ := List.mem_map.mp hy
  exact hk a (List.mem_range.mp ha)
theorem r11 {k n low : Nat} {nm : Nat → Str} {s : Nat → Nat → Nat} (h1 : 1 ≤ n) (hn : n ≤ 12) (hi : Inj nm n) (hg : ∀ a < n, Gn (nm a)) (hs : ∀ a < n, ∀ b < n, s a b < n) (hl : low < n) :
    run (cc (k + 1)) fn11 [.ref 0, .t (.lst (nmL nm n)), .t (woT nm s n), .t (.str (nm low))] [.ins 5 []] = .ok (.t .non) [.ins 5 (toV (mFs nm n s low))] := by
  have hk : ∀ a < n, PyData.strOk (nm a) = true := fun a ha => (hg a ha).ok
  have hL : (12 : Nat) ≤ SL := by decide
  have hg0 : ∀ j, (cc j).gl 0 = some (.str "abcdefghijklmnopqrstuvwxyz0123456789") := fun _ => rfl
  have hg1 : ∀ j, (cc j).gl 1 = some (.int 12) := fun _ => rfl
  let L : Loc := [some (.ref 0), some (.t (.lst (nmL nm n))), some (.t (woT nm s n)), some (.t (.str (nm low))), none, none]
  have v1 : PV (cc (k + 1)) L (.var 1) (.lst (nmL nm n)) := pv_var rfl
  have v2 : PV (cc (k + 1)) L (.var 2) (woT nm s n) := pv_var rfl
  have v3 : PV (cc (k + 1)) L (.var 3) (.str (nm low)) := pv_var rfl
  have s0 : exS (cc (k + 1)) (.set 1 (.op (.list false) [(.var 1)])) L [.ins 5 []] = .ok (.nx L) [.ins 5 []] := st_set (pv_op (pvs_cons v1 pvs_nil) fun h => o_listl)
  have s1 : exS (cc (k + 1)) (.iff (.op .any [(.lc false [4] (.v 4) (.seq (.var 1)) [] (.or [(.nott (.call false 10 [(.var 4)])), (.op .gt [(.lm .count (.var 1) [(.var 4)]), (.int 1)])]))]) [.no] []) L [.ins 5 []] = .ok (.nx L) [.ins 5 []] := by
    refine (st_iff (k := false) (pt_any0 (pi_lst v1) (by rw [nmL_len]; omega) fun x hx => ?_)).trans rfl
    obtain ⟨a, ha, rfl⟩ := List.mem_map.mp hx
    have ha := List.mem_range.mp ha
    refine ⟨_, rfl, pv_or2 (k := false) (l := false) (pv_nott (k := true) (pv_call (pvs_cons (pv_var rfl) pvs_nil) (r10 (C := cc k) (hg0 _) (hg a ha)))) fun _ => pv_op (pvs_cons (pv_count (pv_var rfl) (pv_var rfl) (pl_str (k := 0) (hk a ha)) (nmL_pl hk) (by decide) (nmL_mem ha) (nmL_nd hi)) (pvs_cons pv_int pvs_nil)) fun h => rfl⟩
  have s2 : exS (cc (k + 1)) (.iff (.or [(.op .gt [(.op .len [(.var 1)]), (.gl 1)]), (.inn true (.var 3) (.var 1))]) [.no] []) L [.ins 5 []] = .ok (.nx L) [.ins 5 []] := by
    refine (st_iff (k := false) (pt_or2 (k := false) (l := false) (pt_op (pvs_cons (pv_op (pvs_cons v1 pvs_nil) fun h => o_lenl) (pvs_cons (pv_gl (hg1 _)) pvs_nil)) rfl fun h => ?_) fun _ => pt_in (r := true) v3 v1 (pl_str (k := 0) (hk low hl)) (nmL_pl hk) (by decide) ⟨fun _ => nmL_mem hl, fun _ => rfl⟩)).trans rfl
    exact o_gt.trans (by rw [nmL_len, decide_eq_false (by omega)])
  have hw : (woT nm s n) = .lst ((List.range n).map fun a => .lst ((List.range n).map fun b => .str (nm (s a b)))) := rfl
  have v2' : PV (cc (k + 1)) L (.var 2) (.lst ((List.range n).map fun a => .lst ((List.range n).map fun b => .str (nm (s a b))))) := v2
  have s3 : exS (cc (k + 1)) (.iff (.or [(.eqq true (.op .len [(.var 2)]) (.op .len [(.var 1)])), (.op .any [(.lc false [5] (.v 5) (.seq (.var 2)) [] (.eqq true (.op .len [(.var 5)]) (.op .len [(.var 1)])))])]) [.no] []) L [.ins 5 []] = .ok (.nx L) [.ins 5 []] := by
    refine (st_iff (k := false) (pt_or2 (k := false) (l := false) ?_ fun _ => pt_any0 (pi_lst v2') (by rw [List.length_map, List.length_range]; omega) fun x hx => ?_)).trans rfl
    · have := pt_eqi (neg := true) (pv_op (pvs_cons v2' pvs_nil) fun h => o_lenl) (pv_op (pvs_cons v1 pvs_nil) fun h => o_lenl)
      rw [nmL_len, List.length_map, List.length_range, decide_eq_true rfl] at this
      exact this
    · obtain ⟨a, ha, rfl⟩ := List.mem_map.mp hx
      refine ⟨_, rfl, ?_⟩
      have := pv_eqp (C := cc (k + 1)) (loc := [some (.ref 0), some (.t (.lst (nmL nm n))), some (.t (woT nm s n)), some (.t (.str (nm low))), none, some (.t (.lst ((List.range n).map fun b => .str (nm (s a b)))))]) (k := 0) (m := 0) (neg := true) (b := true) (u := .op .len [(.var 5)]) (v := .op .len [(.var 1)]) (pv_op (pvs_cons (pv_var rfl) pvs_nil) fun h => o_lenl) (pv_op (pvs_cons (pv_var rfl) pvs_nil) fun h => o_lenl) rfl rfl (by decide) (by decide) ⟨fun _ => by rw [nmL_len, List.length_map, List.length_range], fun _ => rfl⟩
      exact this
  have s4 : exS (cc (k + 1)) (.iff (.op .any [(.lc2 false [5, 4] (.v 5) (.seq (.var 2)) [] (.v 4) (.seq (.var 5)) [] (.inn true (.var 4) (.var 1)))]) [.no] []) L [.ins 5 []] = .ok (.nx L) [.ins 5 []] := by
    refine (st_iff (k := false) (pt_any02 (fun x => match x with | .lst xs => xs | _ => []) (pi_lst v2') (by rw [List.length_map, List.length_range]; omega) fun x hx => ?_)).trans rfl
    obtain ⟨a, ha, rfl⟩ := List.mem_map.mp hx
    have ha := List.mem_range.mp ha
    refine ⟨_, rfl, pi_lst (pv_var rfl), by rw [List.length_map, List.length_range]; omega, fun y hy => ?_⟩
    obtain ⟨b, hb, rfl⟩ := List.mem_map.mp hy
    have hb := List.mem_range.mp hb
    exact ⟨_, rfl, pv_in (r := true) (pv_var rfl) (pv_var rfl) (pl_str (k := 0) (hk _ (hs a ha b hb))) (nmL_pl hk) (by decide) ⟨fun _ => nmL_mem (hs a ha b hb), fun _ => rfl⟩⟩
  have e5 : PVs (cc (k + 1)) L [(.var 1), (.lc false [5] (.v 5) (.seq (.var 2)) [] (.lc false [4] (.v 4) (.seq (.var 5)) [] (.lm .index (.var 1) [(.var 4)]))), (.lm .index (.var 1) [(.var 3)])] [.lst (nmL nm n), suT s n, .int (low : Nat)] := by
    refine pvs_cons v1 (pvs_cons ?_ (pvs_cons (pv_index v1 v3 (pl_str (k := 0) (hk low hl)) (nmL_pl hk) (by decide) (nmL_get hl) (nmL_nd hi)) pvs_nil))
    refine pv_lcA (fun a => .lst ((List.range n).map fun b => .str (nm (s a b)))) (fun a => .lst ((List.range n).map fun b => .int (s a b : Nat))) (pi_lst v2') (by rw [List.length_range]; omega) fun a ha => ?_
    have ha := List.mem_range.mp ha
    refine ⟨_, rfl, ?_⟩
    refine pv_lcA (fun b => .str (nm (s a b))) (fun b => .int (s a b : Nat)) (pi_lst (pv_var rfl)) (by rw [List.length_range]; omega) fun b hb => ?_
    have hb := List.mem_range.mp hb
    exact ⟨_, rfl, pv_index (pv_var rfl) (pv_var rfl) (pl_str (k := 0) (hk _ (hs a ha b hb))) (nmL_pl hk) (by decide) (nmL_get (hs a ha b hb)) (nmL_nd hi)⟩
  have s5 : exS (cc (k + 1)) (.ex (.sup 5 3 [(.var 1), (.lc false [5] (.v 5) (.seq (.var 2)) [] (.lc false [4] (.v 4) (.seq (.var 5)) [] (.lm .index (.var 1) [(.var 4)]))), (.lm .index (.var 1) [(.var 3)])])) L [.ins 5 []] = .ok (.nx L) [.ins 5 (toV (mFs nm n s low))] := by
    refine k_ex (v := .t .non) ?_
    rw [x_sup, b_ok (show clsV (.ref 0) [.ins 5 []] = .ok 5 [.ins 5 []] from rfl), if_pos (show (cc (k + 1)).isa 5 5 = true from rfl), b_ok (e5 _)]
    exact r3 (C := cc k) rfl h1 hn hi hl
  exact run_nx (d := fn11) (vs := [.ref 0, .t (.lst (nmL nm n)), .t (woT nm s n), .t (.str (nm low))]) rfl ((ss_nx s0).trans ((ss_nx s1).trans ((ss_nx s2).trans ((ss_nx s3).trans ((ss_nx s4).trans (ss_one s5)))))) rfl
end MS

set_option Elab.async false
set_option linter.all false
set_option maxRecDepth 100000
/-! Q3N: new monoids; _law_made; == of monoids -/
namespace MS
open PySem
theorem mpz {j : Nat} : ∀ (ts : List T) (h : List Ob), mp (fzn j) (ts.map .t) h = .ok ts h
  | [], h => rfl
  | t :: ts, h => by
    show MH.bind (fzn j (.t t)) (fun y => MH.bind (mp (fzn j) (ts.map .t)) fun ys => (pure (y :: ys) : MH (List T))) h = _
    rw [b_ok (show fzn j (.t t) h = .ok t h by cases j <;> rfl), b_ok (mpz ts h)]
    rfl
theorem zip_toV (fs : List (Nat × T)) : ((toV fs).map (·.1)).zip (fs.map (·.2)) = fs := by
  induction fs with
  | nil => rfl
  | cons x xs ih =>
    show (x.1, x.2) :: ((toV xs).map (·.1)).zip (xs.map (·.2)) = _
    rw [ih]
theorem pur_ins {c : Nat} {fs : List (Nat × T)} : pur (.ref 0) [.ins c (toV fs)] = .ok (.ins c fs) [.frz (.ins c fs)] := by
  have e : fzn 8 (.ref 0) [.ins c (toV fs)] = MH.bind (mp (fzn 7) ((toV fs).map (·.2))) (fun ts => fzw 0 (.ins c (((toV fs).map (·.1)).zip ts))) [.ins c (toV fs)] := rfl
  have e1 : (toV fs).map (·.2) = (fs.map (·.2)).map .t := by unfold toV; rw [List.map_map, List.map_map]; rfl
  unfold pur
  rw [e, e1, b_ok (mpz _ _), zip_toV]
  rfl
theorem apart_ok {m : MH Val} {x : T} {h h1 : List Ob} (e : m [] = .ok (.t x) h1) : apart m h = .ok (.t x) h := by
  unfold apart
  rw [e]
theorem pv_new {C : Cl} {loc : Loc} {c nk f : Nat} {es : List E} {xs : List T} {fs : List (Nat × T)} (hf : C.ini c = some f) (a : PVs C loc es xs) (e : C.nw f (.ref 0 :: xs.map .t) [.ins c []] = .ok (.t .non) [.ins c (toV fs)]) : PV C loc (.new c nk es) (.ins c fs) := fun h => by
  rw [x_new, b_ok (a h)]
  unfold newM
  rw [hf]
  dsimp only
  have q : (xs.map Val.t).all Val.isT = true := by rw [List.all_map]; exact List.all_eq_true.mpr fun _ _ => rfl
  show (if (xs.map Val.t).all Val.isT then apart (fun h => match C.nw f (.ref h.length :: xs.map .t) (h ++ [.ins c []]) with
      | .ok (.t .non) h' => MH.bind (pur (.ref h.length)) (fun x => (pure (.t x) : MH Val)) h'
      | .ok _ _ => .bad
      | .exc e h' => .exc e h'
      | .bad => .bad) else bad) h = _
  rw [if_pos q]
  refine apart_ok (h1 := [.frz (.ins c fs)]) ?_
  show (match C.nw f (.ref 0 :: xs.map .t) [.ins c []] with
      | .ok (.t .non) h' => MH.bind (pur (.ref 0)) (fun x => (pure (.t x) : MH Val)) h'
      | .ok _ _ => .bad
      | .exc e h' => .exc e h'
      | .bad => .bad) = _
  rw [e]
  dsimp only
  rw [b_ok pur_ins]
  rfl
/-- a table as _law_table tells it -/
def tb (nm : Nat → Str) (n : Nat) (s : Nat → Nat → Nat) (low : Nat) : T := .lst [.lst (nmL nm n), suT s n, .int (low : Nat)]
section
variable {C : Cl} {loc : Loc} {n low : Nat} {nm : Nat → Str} {s : Nat → Nat → Nat} {e : E}
theorem tb0 (he : PV C loc e (tb nm n s low)) : PV C loc (.op .idx [e, .int 0]) (.lst (nmL nm n)) := pv_op (pvs_cons he (pvs_cons pv_int pvs_nil)) fun h => o_idxl (k := 0) rfl
theorem tb1 (he : PV C loc e (tb nm n s low)) : PV C loc (.op .idx [e, .int 1]) (suT s n) := pv_op (pvs_cons he (pvs_cons pv_int pvs_nil)) fun h => o_idxl (k := 1) rfl
theorem tb2 (he : PV C loc e (tb nm n s low)) : PV C loc (.op .idx [e, .int 2]) (.int (low : Nat)) := pv_op (pvs_cons he (pvs_cons pv_int pvs_nil)) fun h => o_idxl (k := 2) rfl
theorem tb0i (he : PV C loc e (tb nm n s low)) {x : E} {a : Nat} (hx : PV C loc x (.int (a : Nat))) (ha : a < n) : PV C loc (.op .idx [.op .idx [e, .int 0], x]) (.str (nm a)) := pv_op (pvs_cons (tb0 he) (pvs_cons hx pvs_nil)) fun h => o_idxl (nmL_get ha)
theorem tb1i (he : PV C loc e (tb nm n s low)) {x y : E} {a b : Nat} (hx : PV C loc x (.int (a : Nat))) (hy : PV C loc y (.int (b : Nat))) (ha : a < n) (hb : b < n) : PV C loc (.op .idx [.op .idx [.op .idx [e, .int 1], x], y]) (.int (s a b : Nat)) :=
  pv_op (pvs_cons (pv_op (pvs_cons (tb1 he) (pvs_cons hx pvs_nil)) fun h => o_idxl (rng_get (fun a => T.lst ((List.range n).map fun b => .int (s a b : Nat))) ha)) (pvs_cons hy pvs_nil)) fun h => o_idxl (rng_get (fun b => T.int (s a b : Nat)) hb)
end
/-- a table that makes a monoid -/
structure Tb (nm : Nat → Str) (n : Nat) (s : Nat → Nat → Nat) (low : Nat) : Prop where
  n1 : 1 ≤ n
  n12 : n ≤ 12
  ij : Inj nm n
  s : ∀ a < n, ∀ b < n, s a b < n
  lo : low < n
  sk : ∀ a < n, PyData.strOk (nm a) = true
theorem r19 {k n low : Nat} {nm : Nat → Str} {s : Nat → Nat → Nat} (t : Tb nm n s low) (hg : ∀ a < n, Gn (nm a)) : run (cc (k + 3)) fn19 [.t (tb nm n s low)] [] = .ok (.t (mT 5 nm n s low [])) [] := by
  have hL : (12 : Nat) ≤ SL := by decide
  have h12 := t.n12
  have e1 : PV (cc (k + 3)) [some (.t (tb nm n s low)), none, none, none] (.lc false [2] (.v 2) (.seq (.op .idx [(.var 0), (.int 1)])) [] (.lc false [3] (.v 3) (.seq (.var 2)) [] (.op .idx [(.op .idx [(.var 0), (.int 0)]), (.var 3)]))) (woT nm s n) := by
    refine pv_lcA (fun a => .lst ((List.range n).map fun b => .int (s a b : Nat))) (fun a => .lst ((List.range n).map fun b => .str (nm (s a b)))) (pi_lst (tb1 (pv_var rfl))) (by rw [List.length_range]; omega) fun a ha => ?_
    have ha := List.mem_range.mp ha
    refine ⟨_, rfl, pv_lcA (fun b => .int (s a b : Nat)) (fun b => .str (nm (s a b))) (pi_lst (pv_var rfl)) (by rw [List.length_range]; omega) fun b hb => ?_⟩
    have hb := List.mem_range.mp hb
    exact ⟨_, rfl, tb0i (pv_var (x := tb nm n s low) rfl) (pv_var rfl) (t.s a ha b hb)⟩
  have s1 := st_set (i := 1) (h := []) e1
  refine run_rt0 rfl ((ss_nx s1).trans (ss_rt (st_ret ?_)))
  have vt : PV (cc (k + 3)) ([some (.t (tb nm n s low)), none, none, none].set 1 (some (.t (woT nm s n)))) (.var 0) (tb nm n s low) := pv_var rfl
  refine pv_new (f := 11) rfl (pvs_cons (tb0 vt) (pvs_cons (pv_var rfl) (pvs_cons (tb0i vt (tb2 vt) t.lo) pvs_nil))) ?_
  have := r11 (k := k) t.n1 t.n12 t.ij hg t.s t.lo
  rw [show mFs nm n s low ++ [] = mFs nm n s low from List.append_nil _]
  exact this
theorem nm_pl {nm : Nat → Str} {n : Nat} (hk : ∀ a < n, PyData.strOk (nm a) = true) {a : Nat} (ha : a < n) : (T.str (nm a)).pl 0 = true := hk a ha
theorem pl_up : ∀ (k m : Nat) (x : T), k ≤ m → x.pl k = true → x.pl m = true
  | k, m, .non, _, _ => by cases m <;> rfl
  | k, m, .int _, _, _ => by cases m <;> rfl
  | k, m, .str s, _, h => by
    have : PyData.strOk s = true := by cases k <;> exact h
    cases m <;> exact this
  | k + 1, m + 1, .tup xs, hm, h => List.all_eq_true.mpr fun y hy => pl_up k m y (by omega) (List.all_eq_true.mp (show xs.all (T.pl k) = true from h) y hy)
  | k + 1, m + 1, .lst xs, hm, h => List.all_eq_true.mpr fun y hy => pl_up k m y (by omega) (List.all_eq_true.mp (show xs.all (T.pl k) = true from h) y hy)
  | k + 1, 0, .tup xs, hm, h => absurd hm (by omega)
  | k + 1, 0, .lst xs, hm, h => absurd hm (by omega)
  | 0, _, .tup _, _, h => nomatch h
  | 0, _, .lst _, _, h => nomatch h
  | 0, _, .bl _, _, h => nomatch h
  | _ + 1, _, .bl _, _, h => nomatch h
  | 0, _, .dct _, _, h => nomatch h
  | _ + 1, _, .dct _, _, h => nomatch h
  | 0, _, .ins _ _, _, h => nomatch h
  | _ + 1, _, .ins _ _, _, h => nomatch h
  | 0, _, .scr _, _, h => nomatch h
  | _ + 1, _, .scr _, _, h => nomatch h
  | 0, _, .fn _, _, h => nomatch h
  | _ + 1, _, .fn _, _, h => nomatch h
theorem whole_pl {nm : Nat → Str} {n low : Nat} {s : Nat → Nat → Nat} (hk : ∀ a < n, PyData.strOk (nm a) = true) (hl : low < n) : (T.tup [.tup (nmL nm n), .tup (suL s n), .str (nm low)]).pl 3 = true := by
  refine pl_tup (k := 2) fun y hy => ?_
  rcases List.mem_cons.mp hy with rfl | hy
  · exact pl_tup (k := 1) fun y hy => pl_up 0 1 _ (by omega) (nmL_pl hk y hy)
  rcases List.mem_cons.mp hy with rfl | hy
  · refine pl_tup (k := 1) fun y hy => ?_
    obtain ⟨a, _, rfl⟩ := List.mem_map.mp hy
    refine pl_tup (k := 0) fun y hy => ?_
    obtain ⟨b, _, rfl⟩ := List.mem_map.mp hy
    rfl
  · rw [List.mem_singleton.mp hy]
    exact hk low hl
theorem r9 {C : Cl} {nm : Nat → Str} {n low : Nat} {s : Nat → Nat → Nat} (hC : C.isa 5 4 = true) (hk : ∀ a < n, PyData.strOk (nm a) = true) (hl : low < n) : run C fn9 [.t (mT 5 nm n s low []), .t (mT 5 nm n s low [])] [] = .ok (.t (.bl true)) [] := by
  refine run_rt0 rfl (ss_rt (st_ret (pv_and2 (k := true) (l := true) ?_ fun _ => ?_)))
  · intro h
    rw [x_isi, b_ok (ev_var (i := 1) (x := mT 5 nm n s low []) rfl)]
    show RH.ok (Val.t (.bl ((tyIs C.isa (.ins 5) (.cls 4)) || false))) h = _
    show RH.ok (Val.t (.bl (C.isa 5 4 || false))) h = _
    rw [hC]
    rfl
  · have w := whole_pl (s := s) hk hl
    exact pv_eqp (k := 3) (m := 3) (neg := false) (b := true) (pv_op (pvs_cons (pv_var (x := mT 5 nm n s low []) rfl) pvs_nil) fun h => o_fld (x := .tup [.tup (nmL nm n), .tup (suL s n), .str (nm low)]) rfl) (pv_op (pvs_cons (pv_var (x := mT 5 nm n s low []) rfl) pvs_nil) fun h => o_fld (x := .tup [.tup (nmL nm n), .tup (suL s n), .str (nm low)]) rfl) w w (by decide) (by decide) ⟨fun _ => rfl, fun _ => rfl⟩
end MS

set_option Elab.async false
set_option linter.all false
set_option maxRecDepth 100000
/-! Q3O: pairs; PairMonoid.__init__ -/
namespace MS
open PySem
def cl (s : Str) : List Nat := s.cps.toList
theorem st_cl (s : Str) : stL (cl s) = s := by
  unfold stL cl
  simp
theorem cl_st (l : List Nat) : cl (stL l) = l := by
  unfold stL cl
  simp
section
variable (nm1 nm2 : Nat → Str) (n2 : Nat) (s1 s2 : Nat → Nat → Nat)
def pS (i j : Nat) : Nat := s1 (i / n2) (j / n2) * n2 + s2 (i % n2) (j % n2)
def pNm (i : Nat) : Str := stL (cl (nm1 (i / n2)) ++ [47] ++ cl (nm2 (i % n2)))
end
theorem dv {n1 n2 i : Nat} (h : i < n1 * n2) : i / n2 < n1 := Nat.div_lt_of_lt_mul (by rw [Nat.mul_comm]; exact h)
theorem md {n1 n2 i : Nat} (h : i < n1 * n2) : i % n2 < n2 := by
  refine Nat.mod_lt _ ?_
  rcases Nat.eq_zero_or_pos n2 with rfl | q
  · rw [Nat.mul_zero] at h; omega
  · exact q
theorem pr_lt {n1 n2 a b : Nat} (ha : a < n1) (hb : b < n2) : a * n2 + b < n1 * n2 := by
  have h1 : (a + 1) * n2 ≤ n1 * n2 := Nat.mul_le_mul_right _ ha
  rw [Nat.add_mul, Nat.one_mul] at h1
  omega
theorem pr_div {n2 a b : Nat} (hb : b < n2) : (a * n2 + b) / n2 = a := by
  rw [Nat.add_comm, Nat.add_mul_div_right _ _ (by omega), Nat.div_eq_of_lt hb, Nat.zero_add]
theorem pr_mod {n2 a b : Nat} (hb : b < n2) : (a * n2 + b) % n2 = b := by
  rw [Nat.add_comm, Nat.add_mul_mod_self_right, Nat.mod_eq_of_lt hb]
theorem flat_range {A : Type} (f : Nat → Nat → A) {m : Nat} (hm : 0 < m) : ∀ n, (List.range n).flatMap (fun a => (List.range m).map (f a)) = (List.range (n * m)).map fun i => f (i / m) (i % m)
  | 0 => by rw [Nat.zero_mul]; rfl
  | n + 1 => by
    rw [List.range_succ, List.flatMap_append, flat_range f hm n, Nat.add_mul, Nat.one_mul, List.range_add, List.map_append, List.map_map]
    congr 1
    rw [List.flatMap_cons, List.flatMap_nil, List.append_nil]
    refine List.map_congr_left fun b hb => ?_
    have hb := List.mem_range.mp hb
    show f n b = f ((n * m + b) / m) ((n * m + b) % m)
    rw [pr_div hb, pr_mod hb]
theorem cut47 : ∀ (l l' m m' : List Nat), 47 ∉ l → 47 ∉ l' → l ++ [47] ++ m = l' ++ [47] ++ m' → l = l' ∧ m = m'
  | [], [], m, m', _, _, e => by
    injection e with _ e
    exact ⟨rfl, e⟩
  | [], x :: l', m, m', _, h, e => by
    injection e with e _
    exact absurd (by rw [e]; exact List.mem_cons_self) h
  | x :: l, [], m, m', h, _, e => by
    injection e with e _
    exact absurd (by rw [e]; exact List.mem_cons_self) h
  | x :: l, y :: l', m, m', h, h', e => by
    injection e with e1 e2
    obtain ⟨q1, q2⟩ := cut47 l l' m m' (fun q => h (List.mem_cons_of_mem _ q)) (fun q => h' (List.mem_cons_of_mem _ q)) e2
    exact ⟨by rw [e1, q1], q2⟩
theorem Gn.n47 {s : Str} (h : Gn s) : 47 ∉ cl s := by
  obtain ⟨l, rfl, _, _, h⟩ := h
  rw [cl_st]
  exact fun q => absurd (h 47 q) (by decide)
theorem Gn.len {s : Str} (h : Gn s) : (cl s).length ≤ 12 := by
  obtain ⟨l, rfl, _, h, _⟩ := h
  rw [cl_st]
  exact h
theorem Gn.small {s : Str} (h : Gn s) : ∀ c ∈ cl s, c < 0x110000 := by
  obtain ⟨l, rfl, _, _, h⟩ := h
  rw [cl_st]
  exact fun c hc => sg_ok c (h c hc)
theorem pTb {n1 n2 low1 low2 : Nat} {nm1 nm2 : Nat → Str} {s1 s2 : Nat → Nat → Nat} (t1 : Tb nm1 n1 s1 low1) (t2 : Tb nm2 n2 s2 low2) (g1 : ∀ a < n1, Gn (nm1 a)) (g2 : ∀ a < n2, Gn (nm2 a)) (h : n1 * n2 ≤ 12) : Tb (pNm nm1 nm2 n2) (n1 * n2) (pS n2 s1 s2) (low1 * n2 + low2) := by
  refine ⟨?_, h, ?_, ?_, pr_lt t1.lo t2.lo, ?_⟩
  · exact Nat.mul_pos t1.n1 t2.n1
  · intro i hi j hj e
    have e := st_inj e
    obtain ⟨q1, q2⟩ := cut47 _ _ _ _ (g1 _ (dv hi)).n47 (g1 _ (dv hj)).n47 e
    have q1 := t1.ij _ (dv hi) _ (dv hj) (by rw [← st_cl (nm1 (i / n2)), q1, st_cl])
    have q2 := t2.ij _ (md hi) _ (md hj) (by rw [← st_cl (nm2 (i % n2)), q2, st_cl])
    rw [← Nat.div_add_mod i n2, ← Nat.div_add_mod j n2, q1, q2]
  · intro i hi j hj
    exact pr_lt (t1.s _ (dv hi) _ (dv hj)) (t2.s _ (md hi) _ (md hj))
  · intro i hi
    refine stOk fun c hc => ?_
    rcases List.mem_append.mp hc with hc | hc
    · rcases List.mem_append.mp hc with hc | hc
      · exact (g1 _ (dv hi)).small c hc
      · rw [List.mem_singleton.mp hc]; decide
    · exact (g2 _ (md hi)).small c hc
/-- the pairs as trees -/
def pa (nm1 nm2 : Nat → Str) (n2 i : Nat) : T := .tup [.str (nm1 (i / n2)), .str (nm2 (i % n2))]
theorem pa_at {nm1 nm2 : Nat → Str} {n2 a b : Nat} (hb : b < n2) : pa nm1 nm2 n2 (a * n2 + b) = .tup [.str (nm1 a), .str (nm2 b)] := by
  unfold pa
  rw [pr_div hb, pr_mod hb]
theorem slE : ("/" : Str) = stL [47] := by decide +kernel
theorem pv_fst3 {C : Cl} {loc : Loc} {a b : E} {x y : Str} (ha : PV C loc a (.str x)) (hb : PV C loc b (.str y)) (hx : (cl x).length ≤ 100) (hy : (cl y).length ≤ 100) : PV C loc (.fst [.val a, .lit "/", .val b]) (.str (stL (cl x ++ [47] ++ cl y))) := fun h => by
  have hL : (1000 : Nat) ≤ SL := by decide
  show MH.bind (MH.bind (MH.bind (evE C a loc) fmtV) fun s => if (Str.empty ++ s).length ≤ SL then (MH.bind (pure "/" : MH Str) fun s2 => if (Str.empty ++ s ++ s2).length ≤ SL then (MH.bind (MH.bind (evE C b loc) fmtV) fun s3 => if (Str.empty ++ s ++ s2 ++ s3).length ≤ SL then (pure (Str.empty ++ s ++ s2 ++ s3) : MH Str) else bad) else bad) else bad) str h = _
  have f : ∀ (s : Str) (h : List Ob), (cl s).length ≤ 100 → fmtV (.t (.str s)) h = .ok s h := fun s h hs => by
    show (if s.length ≤ SL then (pure s : MH Str) else bad) h = _
    rw [if_pos (by rw [← st_cl s, st_len]; omega)]
    rfl
  have e0 : Str.empty = stL [] := rfl
  have w1 : MH.bind (evE C a loc) fmtV h = .ok x h := by rw [b_ok (ha h), f x h hx]
  have w2 : MH.bind (evE C b loc) fmtV h = .ok y h := by rw [b_ok (hb h), f y h hy]
  have c1 : Str.empty ++ x = stL (cl x) := by rw [e0, ← st_cl x, st_app, st_cl]; simp [cl_st]
  have c2 : Str.empty ++ x ++ ("/" : Str) = stL (cl x ++ [47]) := by rw [c1, slE, st_app]
  have c3 : Str.empty ++ x ++ ("/" : Str) ++ y = stL (cl x ++ [47] ++ cl y) := by
    rw [c2]
    have : stL (cl x ++ [47]) ++ stL (cl y) = stL (cl x ++ [47] ++ cl y) := st_app _ _
    rw [st_cl] at this
    exact this
  have z : MH.bind (MH.bind (evE C a loc) fmtV) (fun s => if (Str.empty ++ s).length ≤ SL then (MH.bind (pure "/" : MH Str) fun s2 => if (Str.empty ++ s ++ s2).length ≤ SL then (MH.bind (MH.bind (evE C b loc) fmtV) fun s3 => if (Str.empty ++ s ++ s2 ++ s3).length ≤ SL then (pure (Str.empty ++ s ++ s2 ++ s3) : MH Str) else bad) else bad) else bad) h = .ok (stL (cl x ++ [47] ++ cl y)) h := by
    rw [b_ok w1, if_pos (by rw [c1, st_len]; omega), b_ok (x_pure _ h), if_pos (by rw [c2, st_len]; simp; omega), b_ok w2, if_pos (by rw [c3, st_len]; simp; omega), c3]
    rfl
  rw [b_ok z]
  rfl
end MS

set_option Elab.async false
set_option linter.all false
set_option maxRecDepth 100000
/-! Q3P: PairMonoid.__init__ -/
namespace MS
open PySem
theorem pa_pl {nm1 nm2 : Nat → Str} {n1 n2 i : Nat} (k1 : ∀ a < n1, PyData.strOk (nm1 a) = true) (k2 : ∀ a < n2, PyData.strOk (nm2 a) = true) (hi : i < n1 * n2) : (pa nm1 nm2 n2 i).pl 1 = true := by
  refine pl_tup (k := 0) fun y hy => ?_
  rcases List.mem_cons.mp hy with rfl | hy
  · exact k1 _ (dv hi)
  · rw [List.mem_singleton.mp hy]
    exact k2 _ (md hi)
theorem pa_nd {nm1 nm2 : Nat → Str} {n1 n2 : Nat} (i1 : Inj nm1 n1) (i2 : Inj nm2 n2) : ((List.range (n1 * n2)).map (pa nm1 nm2 n2)).Nodup := by
  rw [List.nodup_iff_pairwise_ne, List.pairwise_map]
  refine List.Pairwise.imp_of_mem ?_ (List.nodup_range (n := n1 * n2))
  intro i j hi hj hij e
  have hi := List.mem_range.mp hi
  have hj := List.mem_range.mp hj
  injection e with e
  injection e with e1 e
  injection e with e2 _
  injection e1 with e1
  injection e2 with e2
  have q1 := i1 _ (dv hi) _ (dv hj) e1
  have q2 := i2 _ (md hi) _ (md hj) e2
  exact hij (by rw [← Nat.div_add_mod i n2, ← Nat.div_add_mod j n2, q1, q2])
set_option maxHeartbeats 4000000 in
theorem r12 {k n1 n2 low1 low2 c1 c2 : Nat} {nm1 nm2 : Nat → Str} {s1 s2 : Nat → Nat → Nat} {x1 x2 : List (Nat × T)} (m1 : Mo c1) (m2 : Mo c2) (t1 : Tb nm1 n1 s1 low1) (t2 : Tb nm2 n2 s2 low2) (g1 : ∀ a < n1, Gn (nm1 a)) (g2 : ∀ a < n2, Gn (nm2 a)) (h : n1 * n2 ≤ 12) :
    run (cc (k + 2)) fn12 [.ref 0, .t (mT c1 nm1 n1 s1 low1 x1), .t (mT c2 nm2 n2 s2 low2 x2)] [.ins 6 []] = .ok (.t .non) [.ins 6 (toV (mFs (pNm nm1 nm2 n2) (n1 * n2) (pS n2 s1 s2) (low1 * n2 + low2) ++ [(6, mT c1 nm1 n1 s1 low1 x1), (7, mT c2 nm2 n2 s2 low2 x2)]))] := by
  have t := pTb t1 t2 g1 g2 h
  have hn1 : n1 ≤ 12 := t1.n12
  have hn2 : n2 ≤ 12 := t2.n12
  have hL : (1000 : Nat) ≤ SL := by decide
  generalize hM1 : mT c1 nm1 n1 s1 low1 x1 = M1
  generalize hM2 : mT c2 nm2 n2 s2 low2 x2 = M2
  have ePa : PV (cc (k + 2)) [some (.ref 0), some (.t M1), some (.t M2), none, none, none, none, none, none] (.lc2 false [5, 6] (.v 5) (.seq (.meth false (.var 1) 3 [])) [] (.v 6) (.seq (.meth false (.var 2) 3 [])) [] (.tup [(.var 5), (.var 6)])) (.lst ((List.range (n1 * n2)).map (pa nm1 nm2 n2))) := by
    subst hM1 hM2
    have q := pv_lc2 (C := cc (k + 2)) (loc := [some (.ref 0), some (.t (mT c1 nm1 n1 s1 low1 x1)), some (.t (mT c2 nm2 n2 s2 low2 x2)), none, none, none, none, none, none]) (own := [5, 6]) (tg := .v 5) (tg1 := .v 6) (it := .seq (.meth false (.var 1) 3 [])) (it1 := .seq (.meth false (.var 2) 3 [])) (e := .tup [(.var 5), (.var 6)]) (xs := nmL nm1 n1) (fun _ => nmL nm2 n2) (fun x y => .tup [x, y]) (pi_lst (pv_members m1 (pv_var rfl))) (by rw [nmL_len]; omega) fun x hx => ⟨_, rfl, pi_lst (pv_members m2 (pv_var rfl)), by rw [nmL_len]; omega, fun y hy => ⟨_, rfl, pv_tup (pvs_cons (pv_var rfl) (pvs_cons (pv_var rfl) pvs_nil))⟩⟩
    have e : (nmL nm1 n1).flatMap (fun x => (nmL nm2 n2).map fun y => T.tup [x, y]) = (List.range (n1 * n2)).map (pa nm1 nm2 n2) := by
      have := flat_range (fun a b => T.tup [.str (nm1 a), .str (nm2 b)]) t2.n1 n1
      unfold nmL
      rw [List.flatMap_map]
      simp only [List.map_map]
      exact this
    rw [e] at q
    exact q
  have s1' := st_set (i := 3) (h := [.ins 6 []]) ePa
  have s2' : exS (cc (k + 2)) (.iff (.op .gt [(.op .len [(.var 3)]), (.gl 1)]) [.no] []) [some (.ref 0), some (.t M1), some (.t M2), some (.t (.lst ((List.range (n1 * n2)).map (pa nm1 nm2 n2)))), none, none, none, none, none] [.ins 6 []] = .ok (.nx [some (.ref 0), some (.t M1), some (.t M2), some (.t (.lst ((List.range (n1 * n2)).map (pa nm1 nm2 n2)))), none, none, none, none, none]) [.ins 6 []] := by
    refine (st_iff (k := false) (pt_op (pvs_cons (pv_op (pvs_cons (pv_var (x := .lst ((List.range (n1 * n2)).map (pa nm1 nm2 n2))) rfl) pvs_nil) fun h => o_lenl) (pvs_cons (pv_gl (x := .int 12) rfl) pvs_nil)) rfl fun h => ?_)).trans rfl
    exact o_gt.trans (by rw [List.length_map, List.length_range, decide_eq_false (by omega)])
  have hpl : ∀ y ∈ (List.range (n1 * n2)).map (pa nm1 nm2 n2), y.pl 1 = true := by
    intro y hy
    obtain ⟨i, hi, rfl⟩ := List.mem_map.mp hy
    exact pa_pl t1.sk t2.sk (List.mem_range.mp hi)
  have hnd := pa_nd t1.ij t2.ij
  have eSu : PV (cc (k + 2)) [some (.ref 0), some (.t M1), some (.t M2), some (.t (.lst ((List.range (n1 * n2)).map (pa nm1 nm2 n2)))), none, none, none, none, none] (.lc false [5, 6] (.tp [(.v 5), (.v 6)]) (.seq (.var 3)) [] (.lc false [7, 8] (.tp [(.v 7), (.v 8)]) (.seq (.var 3)) [] (.lm .index (.var 3) [(.tup [(.meth false (.var 1) 5 [(.var 5), (.var 7)]), (.meth false (.var 2) 5 [(.var 6), (.var 8)])])]))) (suT (pS n2 s1 s2) (n1 * n2)) := by
    subst hM1 hM2
    refine pv_lcA (pa nm1 nm2 n2) (fun i => .lst ((List.range (n1 * n2)).map fun j => .int (pS n2 s1 s2 i j : Nat))) (pi_lst (pv_var rfl)) (by rw [List.length_range]; omega) fun i hi => ?_
    have hi := List.mem_range.mp hi
    refine ⟨_, rfl, pv_lcA (pa nm1 nm2 n2) (fun j => .int (pS n2 s1 s2 i j : Nat)) (pi_lst (pv_var rfl)) (by rw [List.length_range]; omega) fun j hj => ?_⟩
    have hj := List.mem_range.mp hj
    have hm := md (t.s i hi j hj)
    refine ⟨_, rfl, pv_index (k := 1) (j := pS n2 s1 s2 i j) (x := pa nm1 nm2 n2 (pS n2 s1 s2 i j)) (pv_var rfl) ?_ (pa_pl t1.sk t2.sk (t.s i hi j hj)) hpl (by decide) (rng_get (pa nm1 nm2 n2) (t.s i hi j hj)) hnd⟩
    unfold pS
    rw [pa_at (t2.s _ (md hi) _ (md hj))]
    exact pv_tup (pvs_cons (pv_plus m1 t1.ij t1.s (pv_var rfl) (pv_var rfl) (pv_var rfl) (dv hi) (dv hj)) (pvs_cons (pv_plus m2 t2.ij t2.s (pv_var rfl) (pv_var rfl) (pv_var rfl) (md hi) (md hj)) pvs_nil))
  have s3' := st_set (i := 4) (h := [.ins 6 []]) eSu
  have eN : PV (cc (k + 2)) [some (.ref 0), some (.t M1), some (.t M2), some (.t (.lst ((List.range (n1 * n2)).map (pa nm1 nm2 n2)))), some (.t (suT (pS n2 s1 s2) (n1 * n2))), none, none, none, none] (.lc false [5, 6] (.tp [(.v 5), (.v 6)]) (.seq (.var 3)) [] (.fst [.val (.var 5), .lit "/", .val (.var 6)])) (.lst (nmL (pNm nm1 nm2 n2) (n1 * n2))) := by
    refine pv_lcA (pa nm1 nm2 n2) (fun i => .str (pNm nm1 nm2 n2 i)) (pi_lst (pv_var rfl)) (by rw [List.length_range]; omega) fun i hi => ?_
    have hi := List.mem_range.mp hi
    have l1 := (g1 _ (dv hi)).len
    have l2 := (g2 _ (md hi)).len
    exact ⟨_, rfl, pv_fst3 (pv_var rfl) (pv_var rfl) (by omega) (by omega)⟩
  have eZ : PV (cc (k + 2)) [some (.ref 0), some (.t M1), some (.t M2), some (.t (.lst ((List.range (n1 * n2)).map (pa nm1 nm2 n2)))), some (.t (suT (pS n2 s1 s2) (n1 * n2))), none, none, none, none] (.lm .index (.var 3) [(.tup [(.op (.fld 4) [(.var 1)]), (.op (.fld 4) [(.var 2)])])]) (.int (low1 * n2 + low2 : Nat)) := by
    subst hM1 hM2
    refine pv_index (k := 1) (x := pa nm1 nm2 n2 (low1 * n2 + low2)) (pv_var rfl) ?_ (pa_pl t1.sk t2.sk t.lo) hpl (by decide) (rng_get (pa nm1 nm2 n2) t.lo) hnd
    rw [pa_at t2.lo]
    exact pv_tup (pvs_cons (pv_zero (pv_var rfl)) (pvs_cons (pv_zero (pv_var rfl)) pvs_nil))
  have s4' : exS (cc (k + 2)) (.ex (.sup 6 3 [(.lc false [5, 6] (.tp [(.v 5), (.v 6)]) (.seq (.var 3)) [] (.fst [.val (.var 5), .lit "/", .val (.var 6)])), (.var 4), (.lm .index (.var 3) [(.tup [(.op (.fld 4) [(.var 1)]), (.op (.fld 4) [(.var 2)])])])])) [some (.ref 0), some (.t M1), some (.t M2), some (.t (.lst ((List.range (n1 * n2)).map (pa nm1 nm2 n2)))), some (.t (suT (pS n2 s1 s2) (n1 * n2))), none, none, none, none] [.ins 6 []] =
      .ok (.nx [some (.ref 0), some (.t M1), some (.t M2), some (.t (.lst ((List.range (n1 * n2)).map (pa nm1 nm2 n2)))), some (.t (suT (pS n2 s1 s2) (n1 * n2))), none, none, none, none]) [.ins 6 (toV (mFs (pNm nm1 nm2 n2) (n1 * n2) (pS n2 s1 s2) (low1 * n2 + low2)))] := by
    refine k_ex (v := .t .non) ?_
    rw [x_sup, b_ok (show clsV (.ref 0) [.ins 6 []] = .ok 6 [.ins 6 []] from rfl), if_pos (show (cc (k + 2)).isa 6 6 = true from rfl), b_ok (pvs_cons eN (pvs_cons (pv_var (x := suT (pS n2 s1 s2) (n1 * n2)) rfl) (pvs_cons eZ pvs_nil)) _)]
    exact r3 (C := cc (k + 1)) rfl t.n1 t.n12 t.ij t.lo
  have s5' : exS (cc (k + 2)) (.fset (.var 0) 6 (.var 1)) [some (.ref 0), some (.t M1), some (.t M2), some (.t (.lst ((List.range (n1 * n2)).map (pa nm1 nm2 n2)))), some (.t (suT (pS n2 s1 s2) (n1 * n2))), none, none, none, none] [.ins 6 (toV (mFs (pNm nm1 nm2 n2) (n1 * n2) (pS n2 s1 s2) (low1 * n2 + low2)))] =
      .ok (.nx [some (.ref 0), some (.t M1), some (.t M2), some (.t (.lst ((List.range (n1 * n2)).map (pa nm1 nm2 n2)))), some (.t (suT (pS n2 s1 s2) (n1 * n2))), none, none, none, none]) [.ins 6 (toV (mFs (pNm nm1 nm2 n2) (n1 * n2) (pS n2 s1 s2) (low1 * n2 + low2) ++ [(6, M1)]))] :=
    k_fset (p := 0) (v := .t M1) (fs := toV (mFs (pNm nm1 nm2 n2) (n1 * n2) (pS n2 s1 s2) (low1 * n2 + low2))) (ev_var rfl) rfl rfl (show 5 < 100 by decide)
  have s6' : exS (cc (k + 2)) (.fset (.var 0) 7 (.var 2)) [some (.ref 0), some (.t M1), some (.t M2), some (.t (.lst ((List.range (n1 * n2)).map (pa nm1 nm2 n2)))), some (.t (suT (pS n2 s1 s2) (n1 * n2))), none, none, none, none] [.ins 6 (toV (mFs (pNm nm1 nm2 n2) (n1 * n2) (pS n2 s1 s2) (low1 * n2 + low2) ++ [(6, M1)]))] =
      .ok (.nx [some (.ref 0), some (.t M1), some (.t M2), some (.t (.lst ((List.range (n1 * n2)).map (pa nm1 nm2 n2)))), some (.t (suT (pS n2 s1 s2) (n1 * n2))), none, none, none, none]) [.ins 6 (toV (mFs (pNm nm1 nm2 n2) (n1 * n2) (pS n2 s1 s2) (low1 * n2 + low2) ++ [(6, M1), (7, M2)]))] :=
    k_fset (p := 0) (v := .t M2) (fs := toV (mFs (pNm nm1 nm2 n2) (n1 * n2) (pS n2 s1 s2) (low1 * n2 + low2) ++ [(6, M1)])) (ev_var rfl) rfl rfl (by simp [toV, mFs])
  exact run_nx (d := fn12) (vs := [.ref 0, .t M1, .t M2]) rfl ((ss_nx s1').trans ((ss_nx s2').trans ((ss_nx s3').trans ((ss_nx s4').trans ((ss_nx s5').trans (ss_one s6')))))) rfl
end MS

set_option Elab.async false
set_option linter.all false
set_option maxRecDepth 100000
/-! Q3Q: _law_paired -/
namespace MS
open PySem
/-- pairs of places -/
def pi2 (n2 i : Nat) : T := .tup [.int (i / n2 : Nat), .int (i % n2 : Nat)]
theorem pi2_pl {n2 i : Nat} : (pi2 n2 i).pl 1 = true := rfl
theorem pi2_at {n2 a b : Nat} (hb : b < n2) : pi2 n2 (a * n2 + b) = .tup [.int (a : Nat), .int (b : Nat)] := by
  unfold pi2
  rw [pr_div hb, pr_mod hb]
theorem pi2_nd {n1 n2 : Nat} : ((List.range (n1 * n2)).map (pi2 n2)).Nodup := by
  rw [List.nodup_iff_pairwise_ne, List.pairwise_map]
  refine List.Pairwise.imp_of_mem ?_ (List.nodup_range (n := n1 * n2))
  intro i j hi hj hij e
  injection e with e
  injection e with e1 e
  injection e with e2 _
  injection e1 with e1
  injection e2 with e2
  exact hij (by rw [← Nat.div_add_mod i n2, ← Nat.div_add_mod j n2, show i / n2 = j / n2 by omega, show i % n2 = j % n2 by omega])
def L20 (A B : T) (l : T) (l3 l4 l5 l6 : Option Val) : Loc := [some (.t A), some (.t B), some (.t l), l3, l4, l5, l6, none, none]
/-- a row of it -/
def pRow (n1 n2 : Nat) (s1 s2 : Nat → Nat → Nat) (i : Nat) : T := .lst ((List.range (n1 * n2)).map fun j => .int (pS n2 s1 s2 i j : Nat))
set_option maxHeartbeats 4000000 in
theorem r20 {C : Cl} {n1 n2 low1 low2 : Nat} {nm1 nm2 : Nat → Str} {s1 s2 : Nat → Nat → Nat} (t1 : Tb nm1 n1 s1 low1) (t2 : Tb nm2 n2 s2 low2) (g1 : ∀ a < n1, Gn (nm1 a)) (g2 : ∀ a < n2, Gn (nm2 a)) (h : n1 * n2 ≤ 12) :
    run C fn20 [.t (tb nm1 n1 s1 low1), .t (tb nm2 n2 s2 low2)] [] = .ok (.t (tb (pNm nm1 nm2 n2) (n1 * n2) (pS n2 s1 s2) (low1 * n2 + low2))) [] := by
  have hn1 : n1 ≤ 12 := t1.n12
  have hn2 : n2 ≤ 12 := t2.n12
  have t := pTb t1 t2 g1 g2 h
  have hL : (1000 : Nat) ≤ SL := by decide
  generalize hA : tb nm1 n1 s1 low1 = A
  generalize hB : tb nm2 n2 s2 low2 = B
  have ht1 : ∀ {loc : Loc}, loc[0]? = some (some (.t A)) → PV C loc (.var 0) (tb nm1 n1 s1 low1) := fun e => by rw [hA]; exact pv_var e
  have ht2 : ∀ {loc : Loc}, loc[1]? = some (some (.t B)) → PV C loc (.var 1) (tb nm2 n2 s2 low2) := fun e => by rw [hB]; exact pv_var e
  have s1' : exS C (.set 2 (.lst false [])) [some (.t A), some (.t B), none, none, none, none, none, none, none] [] = .ok (.nx (L20 A B (.lst []) none none none none)) [] := rfl
  have s2' : ∃ x3, exS C (.fr (.v 3) (.rng1 (.op .len [(.op .idx [(.var 0), (.int 0)])])) [.set 2 (.op .add [(.var 2), (.lc false [6] (.v 6) (.rng1 (.op .len [(.op .idx [(.var 1), (.int 0)])])) [] (.tup [(.var 3), (.var 6)]))])]) (L20 A B (.lst []) none none none none) [] = .ok (.nx (L20 A B (.lst ((List.range (n1 * n2)).map (pi2 n2))) x3 none none none)) [] := by
    have el : evE C (.op .len [(.op .idx [(.var 0), (.int 0)])]) (L20 A B (.lst []) none none none none) [] = .ok (.t (.int (n1 : Nat))) [] := by
      have := (pv_op (pvs_cons (tb0 (ht1 (loc := L20 A B (.lst []) none none none none) rfl)) pvs_nil) (fun h => o_lenl (h := h))) []
      rw [nmL_len] at this
      exact this
    rw [k_rng el (by omega), List.range_eq_range']
    refine forM_inv (J := fun xs loc h => ∃ k m x3, k + m = n1 ∧ xs = ((List.range' k m).map fun i => Val.t (.int (i : Nat))) ∧ h = [] ∧ loc = L20 A B (.lst ((List.range (k * n2)).map (pi2 n2))) x3 none none none) (R := fun r => ∃ x3, r = .ok (.nx (L20 A B (.lst ((List.range (n1 * n2)).map (pi2 n2))) x3 none none none)) []) ?_ ?_ _ _ _ ⟨0, n1, none, Nat.zero_add _, rfl, rfl, by rw [Nat.zero_mul]; rfl⟩
    · rintro x xs loc h ⟨k, m, x3, hkm, hx, rfl, rfl⟩
      cases m with
      | zero => cases hx
      | succ m =>
        rw [List.range'_succ, List.map_cons] at hx
        injection hx with hx1 hx2
        subst hx1
        refine ⟨_, rfl, ?_⟩
        have hk : k < n1 := by omega
        have hk2 : k * n2 + n2 ≤ n1 * n2 := by
          have := Nat.mul_le_mul_right n2 (show k + 1 ≤ n1 by omega)
          rw [Nat.add_mul, Nat.one_mul] at this
          exact this
        have e1 : PV C (L20 A B (.lst ((List.range (k * n2)).map (pi2 n2))) (some (.t (.int (k : Nat)))) none none none) (.lc false [6] (.v 6) (.rng1 (.op .len [(.op .idx [(.var 1), (.int 0)])])) [] (.tup [(.var 3), (.var 6)])) (.lst ((List.range n2).map fun b => .tup [.int (k : Nat), .int (b : Nat)])) := by
          refine pv_lcA (fun b : Nat => T.int (b : Nat)) (fun b => .tup [.int (k : Nat), .int (b : Nat)]) (pi_rng ?_ (by omega)) (by rw [List.length_range]; omega) fun b hb => ⟨_, rfl, pv_tup (pvs_cons (pv_var rfl) (pvs_cons (pv_var rfl) pvs_nil))⟩
          have := pv_op (o := .len) (pvs_cons (tb0 (ht2 (loc := L20 A B (.lst ((List.range (k * n2)).map (pi2 n2))) (some (.t (.int (k : Nat)))) none none none) rfl)) pvs_nil) (fun h => o_lenl (h := h))
          rw [nmL_len] at this
          exact this
        have e2 : PV C (L20 A B (.lst ((List.range (k * n2)).map (pi2 n2))) (some (.t (.int (k : Nat)))) none none none) (.op .add [(.var 2), (.lc false [6] (.v 6) (.rng1 (.op .len [(.op .idx [(.var 1), (.int 0)])])) [] (.tup [(.var 3), (.var 6)]))]) (.lst ((List.range ((k + 1) * n2)).map (pi2 n2))) := by
          refine pv_op (pvs_cons (pv_var (x := .lst ((List.range (k * n2)).map (pi2 n2))) rfl) (pvs_cons e1 pvs_nil)) fun h => ?_
          refine (p_addl _ _).trans ?_
          rw [if_pos (by rw [List.length_map, List.length_map, List.length_range, List.length_range]; omega)]
          congr 3
          rw [Nat.add_mul, Nat.one_mul, List.range_add, List.map_append, List.map_map]
          congr 1
          refine List.map_congr_left fun b hb => ?_
          exact (pi2_at (List.mem_range.mp hb)).symm
        have e3 := st_set (i := 2) (h := []) e2
        show turn _ _ (exSs C _ (L20 A B (.lst ((List.range (k * n2)).map (pi2 n2))) (some (.t (.int (k : Nat)))) none none none) [])
        rw [ss_one e3]
        exact ⟨k + 1, m, _, by omega, hx2, rfl, rfl⟩
    · rintro loc h ⟨k, m, x3, hkm, hx, rfl, rfl⟩
      have : m = 0 := by
        have := congrArg List.length hx
        simp at this
        omega
      have hk : k = n1 := by omega
      subst hk
      exact ⟨x3, rfl⟩
  obtain ⟨x3, s2'⟩ := s2'
  generalize hP : T.lst ((List.range (n1 * n2)).map (pi2 n2)) = P at s2'
  have hp : ∀ {loc : Loc}, loc[2]? = some (some (.t P)) → PV C loc (.var 2) (.lst ((List.range (n1 * n2)).map (pi2 n2))) := fun e => by rw [hP]; exact pv_var e
  have s3' : exS C (.set 4 (.lst true [])) (L20 A B P x3 none none none) [] = .ok (.nx (L20 A B P x3 (some (.ref 0)) none none)) [.lst []] := rfl
  have hpl : ∀ y ∈ (List.range (n1 * n2)).map (pi2 n2), y.pl 1 = true := by
    intro y hy
    obtain ⟨i, hi, rfl⟩ := List.mem_map.mp hy
    rfl
  have s4' : ∃ y3 y6, exS C (.fr (.tp [(.v 3), (.v 6)]) (.seq (.var 2)) [.ex (.lm .append (.var 4) [(.lc false [7, 8] (.tp [(.v 7), (.v 8)]) (.seq (.var 2)) [] (.lm .index (.var 2) [(.tup [(.op .idx [(.op .idx [(.op .idx [(.var 0), (.int 1)]), (.var 3)]), (.var 7)]), (.op .idx [(.op .idx [(.op .idx [(.var 1), (.int 1)]), (.var 6)]), (.var 8)])])]))])]) (L20 A B P x3 (some (.ref 0)) none none) [.lst []] =
      .ok (.nx (L20 A B P y3 (some (.ref 0)) none y6)) [.lst (((List.range (n1 * n2)).map (pRow n1 n2 s1 s2)).map .t)] := by
    rw [st_seq (pi_lst (hp rfl)), List.range_eq_range', List.map_map]
    refine forM_inv (J := fun xs loc h => ∃ k m y3 y6, k + m = n1 * n2 ∧ xs = ((List.range' k m).map (Val.t ∘ pi2 n2)) ∧ h = [.lst (((List.range k).map (pRow n1 n2 s1 s2)).map .t)] ∧ loc = L20 A B P y3 (some (.ref 0)) none y6) (R := fun r => ∃ y3 y6, r = .ok (.nx (L20 A B P y3 (some (.ref 0)) none y6)) [.lst (((List.range' 0 (n1 * n2)).map (pRow n1 n2 s1 s2)).map .t)]) ?_ ?_ _ _ _ ⟨0, n1 * n2, x3, none, Nat.zero_add _, rfl, rfl, rfl⟩
    · rintro x xs loc h ⟨k, m, y3, y6, hkm, hx, rfl, rfl⟩
      cases m with
      | zero => cases hx
      | succ m =>
        rw [List.range'_succ, List.map_cons] at hx
        injection hx with hx1 hx2
        subst hx1
        refine ⟨L20 A B P (some (.t (.int (k / n2 : Nat)))) (some (.ref 0)) none (some (.t (.int (k % n2 : Nat)))), rfl, ?_⟩
        have hk : k < n1 * n2 := by omega
        have e1 : PV C (L20 A B P (some (.t (.int (k / n2 : Nat)))) (some (.ref 0)) none (some (.t (.int (k % n2 : Nat))))) (.lc false [7, 8] (.tp [(.v 7), (.v 8)]) (.seq (.var 2)) [] (.lm .index (.var 2) [(.tup [(.op .idx [(.op .idx [(.op .idx [(.var 0), (.int 1)]), (.var 3)]), (.var 7)]), (.op .idx [(.op .idx [(.op .idx [(.var 1), (.int 1)]), (.var 6)]), (.var 8)])])])) (pRow n1 n2 s1 s2 k) := by
          refine pv_lcA (pi2 n2) (fun j => .int (pS n2 s1 s2 k j : Nat)) (pi_lst (hp rfl)) (by rw [List.length_range]; omega) fun j hj => ?_
          have hj := List.mem_range.mp hj
          refine ⟨_, rfl, pv_index (k := 1) (j := pS n2 s1 s2 k j) (x := pi2 n2 (pS n2 s1 s2 k j)) (hp rfl) ?_ rfl hpl (by decide) (rng_get (pi2 n2) (t.s k hk j hj)) pi2_nd⟩
          unfold pS
          rw [pi2_at (t2.s _ (md hk) _ (md hj))]
          exact pv_tup (pvs_cons (tb1i (ht1 rfl) (pv_var rfl) (pv_var rfl) (dv hk) (dv hj)) (pvs_cons (tb1i (ht2 rfl) (pv_var rfl) (pv_var rfl) (md hk) (md hj)) pvs_nil))
        have ec : ([.lst (((List.range k).map (pRow n1 n2 s1 s2)).map .t)] : List Ob)[0]? = some (.lst (((List.range k).map (pRow n1 n2 s1 s2)).map .t)) := rfl
        have e2 := k_ex (C := C) ((ev_lm1 (o := .append) (l := .var 4) (loc := L20 A B P (some (.t (.int (k / n2 : Nat)))) (some (.ref 0)) none (some (.t (.int (k % n2 : Nat))))) (ev_ref rfl (nr_cell ec)) (sq_cell ec) (e1 _)).trans (ap_cell ec (by rw [List.length_map, List.length_map, List.length_range]; omega)))
        rw [ss_one e2]
        refine ⟨k + 1, m, _, _, by omega, hx2, ?_, rfl⟩
        rw [List.range_succ, List.map_append, List.map_append]
        rfl
    · rintro loc h ⟨k, m, y3, y6, hkm, hx, rfl, rfl⟩
      have : m = 0 := by
        have := congrArg List.length hx
        simp at this
        omega
      have hk : k = n1 * n2 := by omega
      subst hk
      exact ⟨y3, y6, by rw [← List.range_eq_range']⟩
  obtain ⟨y3, y6, s4'⟩ := s4'
  have e5 : PV C (L20 A B P y3 (some (.ref 0)) none y6) (.lc false [3, 6] (.tp [(.v 3), (.v 6)]) (.seq (.var 2)) [] (.op .add [(.op .add [(.op .idx [(.op .idx [(.var 0), (.int 0)]), (.var 3)]), (.str "/")]), (.op .idx [(.op .idx [(.var 1), (.int 0)]), (.var 6)])])) (.lst (nmL (pNm nm1 nm2 n2) (n1 * n2))) := by
    refine pv_lcA (pi2 n2) (fun i => .str (pNm nm1 nm2 n2 i)) (pi_lst (hp rfl)) (by rw [List.length_range]; omega) fun i hi => ?_
    have hi := List.mem_range.mp hi
    refine ⟨L20 A B P (some (.t (.int (i / n2 : Nat)))) (some (.ref 0)) none (some (.t (.int (i % n2 : Nat)))), rfl, ?_⟩
    have l1 := (g1 _ (dv hi)).len
    have l2 := (g2 _ (md hi)).len
    have va := tb0i (C := C) (ht1 (loc := L20 A B P (some (.t (.int (i / n2 : Nat)))) (some (.ref 0)) none (some (.t (.int (i % n2 : Nat))))) rfl) (pv_var (i := 3) rfl) (dv hi)
    have vb := tb0i (C := C) (ht2 (loc := L20 A B P (some (.t (.int (i / n2 : Nat)))) (some (.ref 0)) none (some (.t (.int (i % n2 : Nat))))) rfl) (pv_var (i := 6) rfl) (md hi)
    rw [← st_cl (nm1 (i / n2))] at va
    rw [← st_cl (nm2 (i % n2))] at vb
    intro h
    rw [slE]
    exact ev_cat (ev_cat (va h) (x_str _) (by simp; omega)) (vb h) (by simp; omega)
  have s5' := k_set (i := 5) (e5 [.lst (((List.range (n1 * n2)).map (pRow n1 n2 s1 s2)).map .t)])
  have ec : ([.lst (((List.range (n1 * n2)).map (pRow n1 n2 s1 s2)).map .t)] : List Ob)[0]? = some (.lst (((List.range (n1 * n2)).map (pRow n1 n2 s1 s2)).map .t)) := rfl
  have e6 : evE C (.lst false [(.var 5), (.var 4), (.lm .index (.var 2) [(.tup [(.op .idx [(.var 0), (.int 2)]), (.op .idx [(.var 1), (.int 2)])])])]) (L20 A B P y3 (some (.ref 0)) (some (.t (.lst (nmL (pNm nm1 nm2 n2) (n1 * n2))))) y6) [.lst (((List.range (n1 * n2)).map (pRow n1 n2 s1 s2)).map .t)] = .ok (.t (tb (pNm nm1 nm2 n2) (n1 * n2) (pS n2 s1 s2) (low1 * n2 + low2))) [.frz (.lst ((List.range (n1 * n2)).map (pRow n1 n2 s1 s2)))] := by
    have vz : PV C (L20 A B P y3 (some (.ref 0)) (some (.t (.lst (nmL (pNm nm1 nm2 n2) (n1 * n2))))) y6) (.lm .index (.var 2) [(.tup [(.op .idx [(.var 0), (.int 2)]), (.op .idx [(.var 1), (.int 2)])])]) (.int (low1 * n2 + low2 : Nat)) := by
      refine pv_index (k := 1) (x := pi2 n2 (low1 * n2 + low2)) (hp rfl) ?_ rfl hpl (by decide) (rng_get (pi2 n2) t.lo) pi2_nd
      rw [pi2_at t2.lo]
      exact pv_tup (pvs_cons (tb2 (ht1 rfl)) (pvs_cons (tb2 (ht2 rfl)) pvs_nil))
    have w1 : evEs C [(.var 5), (.var 4), (.lm .index (.var 2) [(.tup [(.op .idx [(.var 0), (.int 2)]), (.op .idx [(.var 1), (.int 2)])])])] (L20 A B P y3 (some (.ref 0)) (some (.t (.lst (nmL (pNm nm1 nm2 n2) (n1 * n2))))) y6) [.lst (((List.range (n1 * n2)).map (pRow n1 n2 s1 s2)).map .t)] = .ok [.t (.lst (nmL (pNm nm1 nm2 n2) (n1 * n2))), .ref 0, .t (.int (low1 * n2 + low2 : Nat))] [.lst (((List.range (n1 * n2)).map (pRow n1 n2 s1 s2)).map .t)] := by
      rw [x_cons, b_ok (ev_var (i := 5) (x := .lst (nmL (pNm nm1 nm2 n2) (n1 * n2))) rfl)]
      rw [b_ok (show evEs C [(.var 4), (.lm .index (.var 2) [(.tup [(.op .idx [(.var 0), (.int 2)]), (.op .idx [(.var 1), (.int 2)])])])] _ _ = .ok [.ref 0, .t (.int (low1 * n2 + low2 : Nat))] [.lst (((List.range (n1 * n2)).map (pRow n1 n2 s1 s2)).map .t)] by
        rw [x_cons, b_ok (ev_ref (i := 4) rfl (nr_cell ec))]
        rw [b_ok (pvs_cons vz pvs_nil _)]
        rfl)]
      rfl
    rw [x_lst, b_ok w1, v_keepf]
    have w2 : mp pur [.t (.lst (nmL (pNm nm1 nm2 n2) (n1 * n2))), .ref 0, .t (.int (low1 * n2 + low2 : Nat))] [.lst (((List.range (n1 * n2)).map (pRow n1 n2 s1 s2)).map .t)] = .ok [.lst (nmL (pNm nm1 nm2 n2) (n1 * n2)), suT (pS n2 s1 s2) (n1 * n2), .int (low1 * n2 + low2 : Nat)] [.frz (.lst ((List.range (n1 * n2)).map (pRow n1 n2 s1 s2)))] := by
      rw [v_mp1, b_ok (v_pur _)]
      rw [b_ok (show mp pur [.ref 0, .t (.int (low1 * n2 + low2 : Nat))] [.lst (((List.range (n1 * n2)).map (pRow n1 n2 s1 s2)).map .t)] = .ok [suT (pS n2 s1 s2) (n1 * n2), .int (low1 * n2 + low2 : Nat)] [.frz (.lst ((List.range (n1 * n2)).map (pRow n1 n2 s1 s2)))] by
        rw [v_mp1, b_ok (show pur (.ref 0) [.lst (((List.range (n1 * n2)).map (pRow n1 n2 s1 s2)).map .t)] = _ from fz_cell ec)]; rfl)]
      rfl
    rw [b_ok w2]
    rfl
  have s6' := k_retf e6
  exact run_rt0 rfl ((ss_nx s1').trans ((ss_nx s2').trans ((ss_nx s3').trans ((ss_nx s4').trans ((ss_nx s5').trans (ss_rt s6'))))))
end MS

set_option Elab.async false
set_option linter.all false
set_option maxRecDepth 100000
/-! Q3R: the law -/
namespace MS
open PySem
def nF (nms : List Str) (a : Nat) : Str := nms.getD a (stL [])
def sF (rows : List (List Nat)) (a b : Nat) : Nat := (rows.getD a []).getD b 0
theorem map_getD {A B : Type} (f : A → B) (d : A) : ∀ xs : List A, xs.map f = (List.range xs.length).map fun a => f (xs.getD a d) := fun xs => by
  refine List.ext_getElem? fun i => ?_
  rw [List.getElem?_map, List.getElem?_map]
  rcases Nat.lt_or_ge i xs.length with q | q
  · rw [List.getElem?_eq_getElem q, List.getElem?_range q]
    show some (f xs[i]) = some (f (xs.getD i d))
    rw [List.getD_eq_getElem?_getD, List.getElem?_eq_getElem q]
    rfl
  · rw [List.getElem?_eq_none q, List.getElem?_eq_none (by rw [List.length_range]; exact q)]
    rfl
theorem getD_mem {A : Type} {xs : List A} {a : Nat} {d : A} (h : a < xs.length) : xs.getD a d ∈ xs := by
  rw [List.getD_eq_getElem?_getD, List.getElem?_eq_getElem h]
  exact List.getElem_mem h
theorem TabOk.tb {n low : Nat} {nms : List Str} {rows : List (List Nat)} (t : TabOk n nms rows low) : tabT nms rows low = MS.tb (nF nms) n (sF rows) low := by
  unfold tabT MS.tb nmL suT
  congr 2
  · rw [map_getD T.str (stL []), t.nl]
    rfl
  · congr 1
    rw [map_getD rowT [], t.rl]
    congr 1
    refine List.map_congr_left fun a ha => ?_
    have ha := List.mem_range.mp ha
    have hr := t.rk _ (getD_mem (xs := rows) (d := []) (by rw [t.rl]; exact ha))
    unfold rowT
    rw [map_getD (fun v : Nat => T.int (v : Nat)) 0, hr.1]
    rfl
theorem NmOk.gn {num : Nat} {s : Str} (h : NmOk num s) (hn : num < 100) : Gn s := by
  obtain ⟨c, tl, rfl, h1, h2, h3⟩ := h
  refine ⟨_, rfl, by simp, by simp; omega, ?_⟩
  intro x hx
  rcases List.mem_cons.mp hx with rfl | hx
  · exact h1
  rcases List.mem_cons.mp hx with rfl | hx
  · exact sg_mem (by omega)
  rcases List.mem_cons.mp hx with rfl | hx
  · exact sg_mem (by omega)
  · exact h3 x hx
theorem TabOk.gn {n low : Nat} {nms : List Str} {rows : List (List Nat)} (t : TabOk n nms rows low) : ∀ a < n, Gn (nF nms a) := by
  obtain ⟨sh, h⟩ := t.nm
  intro a ha
  have hl : a < nms.length := by rw [t.nl]; exact ha
  have e : nF nms a = nms[a] := by unfold nF; rw [List.getD_eq_getElem?_getD, List.getElem?_eq_getElem hl]; rfl
  rw [e]
  exact (h a hl).gn (Nat.mod_lt _ (by omega))
theorem TabOk.ok {n low : Nat} {nms : List Str} {rows : List (List Nat)} (t : TabOk n nms rows low) : Tb (nF nms) n (sF rows) low := by
  have g := t.gn
  obtain ⟨sh, h⟩ := t.nm
  have hn := t.n4
  refine ⟨t.n1, by omega, ?_, ?_, t.lo, fun a ha => (g a ha).ok⟩
  · intro a ha b hb e
    have hla : a < nms.length := by rw [t.nl]; exact ha
    have hlb : b < nms.length := by rw [t.nl]; exact hb
    have ea : nF nms a = nms[a] := by unfold nF; rw [List.getD_eq_getElem?_getD, List.getElem?_eq_getElem hla]; rfl
    have eb : nF nms b = nms[b] := by unfold nF; rw [List.getD_eq_getElem?_getD, List.getElem?_eq_getElem hlb]; rfl
    have h1 := h a hla
    have h2 := h b hlb
    rw [← ea, e, eb] at h1
    have := h1.inj h2 (Nat.mod_lt _ (by omega)) (Nat.mod_lt _ (by omega))
    omega
  · intro a ha b hb
    have hr := t.rk _ (getD_mem (xs := rows) (d := []) (a := a) (by rw [t.rl]; exact ha))
    exact hr.2 _ (getD_mem (by rw [hr.1]; exact hb))
theorem fs_some {f : Nat → Option T} {n : Nat} {x : T} {P : T → Prop} (H : ∀ a < n, ∀ x, f a = some x → P x) (h : (List.range n).findSome? f = some x) : P x := by
  obtain ⟨a, ha, e⟩ := List.exists_of_findSome?_eq_some h
  exact H a (List.mem_range.mp ha) x e
theorem fault_pl {nm : Nat → Str} {n low : Nat} {s : Nat → Nat → Nat} (hk : ∀ a < n, PyData.strOk (nm a) = true) : (fault (fun a => .str (nm a)) n s low).pl 2 = true := by
  have w1 : PyData.strOk ("swap" : Str) = true := by decide +kernel
  have w2 : PyData.strOk ("zero" : Str) = true := by decide +kernel
  have w3 : PyData.strOk ("group" : Str) = true := by decide +kernel
  have two : ∀ (s : Str) (ys : List T), PyData.strOk s = true → (∀ y ∈ ys, y.pl 0 = true) → (T.tup [.str s, .tup ys]).pl 2 = true := by
    intro s ys hs hy
    refine pl_tup (k := 1) fun y h => ?_
    rcases List.mem_cons.mp h with rfl | h
    · exact hs
    · rw [List.mem_singleton.mp h]
      exact pl_tup (k := 0) hy
  unfold fault
  cases e1 : dueS (fun a => .str (nm a)) n s with
  | some x =>
    refine fs_some (P := fun x => x.pl 2 = true) (fun a ha x e => fs_some (P := fun x => x.pl 2 = true) (fun b hb x e => ?_) e) e1
    split at e
    · cases e
    · cases e
      exact two _ _ w1 fun y hy => by
        rcases List.mem_cons.mp hy with rfl | hy
        · exact hk a ha
        · rw [List.mem_singleton.mp hy]; exact hk b hb
  | none =>
    cases e2 : dueZ (fun a => .str (nm a)) n s low with
    | some x =>
      refine fs_some (P := fun x => x.pl 2 = true) (fun a ha x e => ?_) e2
      split at e
      · cases e
      · cases e
        exact two _ _ w2 fun y hy => by rw [List.mem_singleton.mp hy]; exact hk a ha
    | none =>
      cases e3 : dueG (fun a => .str (nm a)) n s with
      | some x =>
        refine fs_some (P := fun x => x.pl 2 = true) (fun a ha x e => fs_some (P := fun x => x.pl 2 = true) (fun b hb x e => fs_some (P := fun x => x.pl 2 = true) (fun c hc x e => ?_) e) e) e3
        split at e
        · cases e
        · cases e
          exact two _ _ w3 fun y hy => by
            rcases List.mem_cons.mp hy with rfl | hy
            · exact hk a ha
            rcases List.mem_cons.mp hy with rfl | hy
            · exact hk b hb
            · rw [List.mem_singleton.mp hy]; exact hk c hc
      | none => rfl
theorem pk_cc (k : Nat) : Pk2 (cc (k + 2)) := by
  have p : ∀ k, Pk (cc (k + 1)) := fun k => ⟨fun rest h many S h1 h2 => pk (C := cc k) (show 64 ≤ 1000000 by decide) S h1 h2⟩
  exact ⟨p (k + 1), fun rest h n hn S => r16 (C := cc (k + 1)) (p k) hn S⟩
theorem ev_call1 {C : Cl} {loc : Loc} {h h1 : List Ob} {f : Nat} {a : E} {v r : Val} (e1 : evE C a loc h = .ok v h) (e : C.fn f [v] h = .ok r h1) : evE C (.call true f [a]) loc h = .ok r h1 := by
  show MH.bind (MH.bind (evE C a loc) (fun v => MH.bind (evEs C [] loc) fun vs => pure (v :: vs))) (fun vs => C.fn f vs) h = _
  have q1 : MH.bind (evE C a loc) (fun v => MH.bind (evEs C [] loc) fun vs => (pure (v :: vs) : MH _)) h = .ok [v] h := by rw [b_ok e1]; rfl
  rw [b_ok q1, e]
/-- != of two that are the same -/
theorem pt_neM {C : Cl} {loc : Loc} {a b : E} {nm : Nat → Str} {n low : Nat} {s : Nat → Nat → Nat} (hm : C.mth 5 0 = some 9) (hi : C.isa 5 5 = true) (h9 : C.nw 9 [.t (mT 5 nm n s low []), .t (mT 5 nm n s low [])] [] = .ok (.t (.bl true)) []) (ha : PV C loc a (mT 5 nm n s low [])) (hb : PV C loc b (mT 5 nm n s low [])) : PT C loc (.eqq true a b) false := fun h => by
  rw [y_eqq, b_ok (ha h), b_ok (hb h)]
  have q : eqM C true (.t (mT 5 nm n s low [])) (.t (mT 5 nm n s low [])) h = .ok (.t (.bl false)) h := by
    show MH.bind (clsV (.t (mT 5 nm n s low []))) (fun c => MH.bind (clsV (.t (mT 5 nm n s low []))) fun d => match C.mth c mEq with
      | some f => if d == c || !C.isa d c then MH.bind (callM C.low false f [.t (mT 5 nm n s low []), .t (mT 5 nm n s low [])]) (fun r => MH.bind (blV r) fun b => bl (b ^^ true)) else bad
      | none => bad) h = _
    rw [b_ok (show clsV (.t (mT 5 nm n s low [])) h = .ok 5 h from rfl), b_ok (show clsV (.t (mT 5 nm n s low [])) h = .ok 5 h from rfl), show C.mth 5 mEq = some 9 from hm]
    dsimp only
    rw [if_pos (by rfl)]
    have e : callM C.low false 9 [.t (mT 5 nm n s low []), .t (mT 5 nm n s low [])] h = .ok (.t (.bl true)) h := apart_ok h9
    rw [b_ok e]
    rfl
  rw [b_ok q]
  rfl
end MS

set_option Elab.async false
set_option linter.all false
set_option maxRecDepth 100000
/-! Q3S: law, whole -/
namespace MS
open PySem
def L21 (ns : List Int) (a b : T) (l4 l5 l6 : Option Val) : Loc := [some (.t (.scr ns)), some (.ref 0), some (.t a), some (.t b), l4, l5, l6]
section
variable {k n low : Nat} {nm : Nat → Str} {s : Nat → Nat → Nat} {loc : Loc} {e : E}
theorem pv_made (t : Tb nm n s low) (g : ∀ a < n, Gn (nm a)) (he : PV (cc (k + 4)) loc e (tb nm n s low)) : PV (cc (k + 4)) loc (.call false 19 [e]) (mT 5 nm n s low []) :=
  pv_call (pvs_cons he pvs_nil) (r19 (k := k) t g)
theorem pv_ff {c : Nat} {x : List (Nat × T)} (hc : Mo c) (t : Tb nm n s low) (he : PV (cc (k + 3)) loc e (mT c nm n s low x)) : PV (cc (k + 3)) loc (.call false 13 [e]) (fault (fun a => .str (nm a)) n s low) :=
  pv_call (pvs_cons he pvs_nil) (r13 (k := k) hc t.ij t.s t.lo)
theorem fn_at (k f : Nat) (d : FnD) (vs : List Val) (h : List Ob) (e : fnT f = some d) : (cc (k + 1)).fn f vs h = run (cc k) d vs h := by
  show (match fnT f with
    | some d => run (cc k) d vs
    | none => bad) h = _
  rw [e]
theorem q17 (t : Tb nm n s low) : (cc (k + 1)).fn 17 [.t (.lst (nmL nm n)), .t (suT s n), .t (.int (low : Nat))] [] = .ok (.t (fault (fun a => .str (nm a)) n s low)) [] := by
  have q := r17 (C := cc k) (nm := fun a => .str (nm a)) (n := n) (s := s) (low := low) (by have := t.n12; omega) t.s t.lo
  rw [show nmT (fun a => T.str (nm a)) n = .lst (nmL nm n) from rfl] at q
  exact (fn_at k 17 fn17 _ _ rfl).trans q
theorem pv_due (t : Tb nm n s low) (he : PV (cc (k + 1)) loc e (tb nm n s low)) : PV (cc (k + 1)) loc (.call false 17 [.op .idx [e, .int 0], .op .idx [e, .int 1], .op .idx [e, .int 2]]) (fault (fun a => .str (nm a)) n s low) :=
  pv_call (xs := [.lst (nmL nm n), suT s n, .int (low : Nat)]) (h1 := []) (pvs_cons (tb0 he) (pvs_cons (tb1 he) (pvs_cons (tb2 he) pvs_nil))) (q17 t)
theorem q20 {n1 n2 low1 low2 : Nat} {nm1 nm2 : Nat → Str} {s1 s2 : Nat → Nat → Nat} (t1 : Tb nm1 n1 s1 low1) (t2 : Tb nm2 n2 s2 low2) (g1 : ∀ a < n1, Gn (nm1 a)) (g2 : ∀ a < n2, Gn (nm2 a)) (h : n1 * n2 ≤ 12) :
    (cc (k + 1)).fn 20 [.t (tb nm1 n1 s1 low1), .t (tb nm2 n2 s2 low2)] [] = .ok (.t (tb (pNm nm1 nm2 n2) (n1 * n2) (pS n2 s1 s2) (low1 * n2 + low2))) [] := (fn_at k 20 fn20 _ _ rfl).trans (r20 (C := cc k) t1 t2 g1 g2 h)
theorem pv_paired {n1 n2 low1 low2 : Nat} {nm1 nm2 : Nat → Str} {s1 s2 : Nat → Nat → Nat} {a b : E} (t1 : Tb nm1 n1 s1 low1) (t2 : Tb nm2 n2 s2 low2) (g1 : ∀ a < n1, Gn (nm1 a)) (g2 : ∀ a < n2, Gn (nm2 a)) (h : n1 * n2 ≤ 12) (ha : PV (cc (k + 1)) loc a (tb nm1 n1 s1 low1)) (hb : PV (cc (k + 1)) loc b (tb nm2 n2 s2 low2)) :
    PV (cc (k + 1)) loc (.call false 20 [a, b]) (tb (pNm nm1 nm2 n2) (n1 * n2) (pS n2 s1 s2) (low1 * n2 + low2)) :=
  pv_call (xs := [tb nm1 n1 s1 low1, tb nm2 n2 s2 low2]) (h1 := []) (pvs_cons ha (pvs_cons hb pvs_nil)) (q20 t1 t2 g1 g2 h)
end
theorem pt_or3 {C : Cl} {loc : Loc} {a b c : E} (ha : PT C loc a false) (hb : PT C loc b false) (hc : PT C loc c false) : PT C loc (.or [a, b, c]) false := fun h => by
  rw [y_or3, b_ok (ha h), if_neg Bool.false_ne_true, b_ok (hb h), if_neg Bool.false_ne_true, b_ok (hc h)]
  rfl
set_option maxHeartbeats 4000000 in
theorem r21 (k : Nat) (ns : List Int) (hns : ns.length ≤ 63) : ∃ h', run (cc (k + 5)) fn21 [.t (.scr ns)] [] = .ok (.t (.bl true)) h' := by
  obtain ⟨h1, S1, e1⟩ := r14 (C := cc (k + 4)) hns
  have s1 : exS (cc (k + 5)) (.set 1 (.call true 14 [(.var 0)])) [some (.t (.scr ns)), none, none, none, none, none, none] [] = .ok (.nx [some (.t (.scr ns)), some (.ref 0), none, none, none, none, none]) h1 := k_set (ev_call1 (ev_var rfl) e1)
  obtain ⟨n1, nms1, rows1, low1, y1, h2, t1, S2, e2⟩ := r18 (pk_cc (k + 2)) S1
  rw [List.nil_append] at S2
  have s2 : exS (cc (k + 5)) (.set 2 (.call true 18 [(.var 1)])) [some (.t (.scr ns)), some (.ref 0), none, none, none, none, none] h1 = .ok (.nx [some (.t (.scr ns)), some (.ref 0), some (.t (tabT nms1 rows1 low1)), none, none, none, none]) h2 := k_set (ev_call1 (ev_ref rfl S1.n0) e2)
  obtain ⟨n2, nms2, rows2, low2, y2, h3, t2, S3, e3⟩ := r18 (pk_cc (k + 2)) S2
  have s3 : exS (cc (k + 5)) (.set 3 (.call true 18 [(.var 1)])) [some (.t (.scr ns)), some (.ref 0), some (.t (tabT nms1 rows1 low1)), none, none, none, none] h2 = .ok (.nx (L21 ns (tabT nms1 rows1 low1) (tabT nms2 rows2 low2) none none none)) h3 := k_set (ev_call1 (ev_ref rfl S2.n0) e3)
  have g1 := t1.gn
  have g2 := t2.gn
  have o1 := t1.ok
  have o2 := t2.ok
  have f1 := t1.tb
  have f2 := t2.tb
  generalize tabT nms1 rows1 low1 = A at s2 s3 f1
  generalize tabT nms2 rows2 low2 = B at s3 f2
  subst f1 f2
  generalize nF nms1 = nm1 at *
  generalize nF nms2 = nm2 at *
  generalize sF rows1 = sA at *
  generalize sF rows2 = sB at *
  generalize hA : tb nm1 n1 sA low1 = A at *
  generalize hB : tb nm2 n2 sB low2 = B at *
  have va : ∀ {C : Cl} {l4 l5 l6 : Option Val}, PV C (L21 ns A B l4 l5 l6) (.var 2) (tb nm1 n1 sA low1) := fun {C l4 l5 l6} => by rw [hA]; exact pv_var rfl
  have vb : ∀ {C : Cl} {l4 l5 l6 : Option Val}, PV C (L21 ns A B l4 l5 l6) (.var 3) (tb nm2 n2 sB low2) := fun {C l4 l5 l6} => by rw [hB]; exact pv_var rfl
  have s4 : exS (cc (k + 5)) (.set 4 (.call false 19 [(.var 2)])) (L21 ns A B none none none) h3 = .ok (.nx (L21 ns A B (some (.t (mT 5 nm1 n1 sA low1 []))) none none)) h3 := st_set (pv_made (k := k + 1) o1 g1 va)
  generalize hM : mT 5 nm1 n1 sA low1 [] = M at s4
  have vm : ∀ {C : Cl} {l5 l6 : Option Val}, PV C (L21 ns A B (some (.t M)) l5 l6) (.var 4) (mT 5 nm1 n1 sA low1 []) := fun {C l5 l6} => by rw [hM]; exact pv_var rfl
  have p1 := fault_pl (nm := nm1) (n := n1) (s := sA) (low := low1) o1.sk
  have s5 : ∃ x5, exS (cc (k + 5)) (.fr (.v 5) (.rng1 (.int 2)) [.iff (.eqq true (.call false 13 [(.var 4)]) (.call false 17 [(.op .idx [(.var 2), (.int 0)]), (.op .idx [(.var 2), (.int 1)]), (.op .idx [(.var 2), (.int 2)])])) [.ret false (.bl false)] []]) (L21 ns A B (some (.t M)) none none) h3 = .ok (.nx (L21 ns A B (some (.t M)) x5 none)) h3 := by
    rw [k_rng (n := 2) (h1 := h3) (x_int 2) (by decide)]
    refine forM_inv (J := fun xs loc h => h = h3 ∧ ∃ x5, loc = L21 ns A B (some (.t M)) x5 none) (R := fun r => ∃ x5, r = .ok (.nx (L21 ns A B (some (.t M)) x5 none)) h3) ?_ ?_ _ _ _ ⟨rfl, none, rfl⟩
    · rintro x xs loc h ⟨rfl, x5, rfl⟩
      refine ⟨L21 ns A B (some (.t M)) (some (nrm x h)) none, rfl, ?_⟩
      have et : PT (cc (k + 5)) (L21 ns A B (some (.t M)) (some (nrm x h)) none) (.eqq true (.call false 13 [(.var 4)]) (.call false 17 [(.op .idx [(.var 2), (.int 0)]), (.op .idx [(.var 2), (.int 1)]), (.op .idx [(.var 2), (.int 2)])])) (true ^^ true) :=
        pt_eqp (k := 2) (m := 2) (pv_ff (k := k + 2) (.inl rfl) o1 vm) (pv_due (k := k + 4) o1 va) p1 p1 (by decide) (by decide) ⟨fun _ => rfl, fun _ => rfl⟩
      rw [ss_one ((st_iff et).trans rfl)]
      exact ⟨rfl, _, rfl⟩
    · rintro loc h ⟨rfl, x5, rfl⟩
      exact ⟨x5, rfl⟩
  obtain ⟨x5, s5⟩ := s5
  have nl1 : (T.lst (nmL nm1 n1)).pl 1 = true := pl_lst (k := 0) (nmL_pl o1.sk)
  have s6 : exS (cc (k + 5)) (.iff (.or [(.eqq true (.var 4) (.call false 19 [(.var 2)])), (.eqq true (.meth false (.var 4) 3 []) (.op .idx [(.var 2), (.int 0)])), (.eqq true (.op (.fld 4) [(.var 4)]) (.op (.fld 4) [(.call false 19 [(.var 2)])]))]) [.ret false (.bl false)] []) (L21 ns A B (some (.t M)) x5 none) h3 = .ok (.nx (L21 ns A B (some (.t M)) x5 none)) h3 := by
    refine (st_iff (k := false) (pt_or3 ?_ ?_ ?_)).trans rfl
    · exact pt_neM rfl rfl (r9 (C := cc (k + 3)) rfl o1.sk o1.lo) vm (pv_made (k := k + 1) o1 g1 va)
    · exact pt_eqp (k := 1) (m := 1) (neg := true) (b := true) (pv_members (k := k + 4) (.inl rfl) vm) (tb0 va) nl1 nl1 (by decide) (by decide) ⟨fun _ => rfl, fun _ => rfl⟩
    · have := pt_eqs (neg := true) (pv_zero (C := cc (k + 5)) (vm (l5 := x5) (l6 := none))) (pv_zero (pv_made (k := k + 1) o1 g1 va))
      rw [decide_eq_true rfl] at this
      exact this
  have eM : PV (cc (k + 5)) (L21 ns A B (some (.t M)) x5 none) (.op .mul [(.op .len [(.op .idx [(.var 2), (.int 0)])]), (.op .len [(.op .idx [(.var 3), (.int 0)])])]) (.int ((n1 * n2 : Nat) : Int)) := by
    refine pv_op (pvs_cons (pv_op (pvs_cons (tb0 va) pvs_nil) fun h => o_lenl) (pvs_cons (pv_op (pvs_cons (tb0 vb) pvs_nil) fun h => o_lenl) pvs_nil)) fun h => ?_
    rw [nmL_len, nmL_len]
    have := o1.n12
    refine (o_mul (h := h) (cmul_l (by omega) (by omega))).trans ?_
    rw [Int.natCast_mul]
  have eg : PT (cc (k + 5)) (L21 ns A B (some (.t M)) x5 none) (.op .gt [(.op .mul [(.op .len [(.op .idx [(.var 2), (.int 0)])]), (.op .len [(.op .idx [(.var 3), (.int 0)])])]), (.int 6)]) (decide ((6 : Int) < (n1 * n2 : Nat))) := pt_op (pvs_cons eM (pvs_cons pv_int pvs_nil)) rfl fun h => o_gt
  have sI := st_iff (h := h3) (u := [.ret false (.eqq false (.meth false (.var 4) 3 []) (.op .idx [(.var 2), (.int 0)]))]) (v := []) eg
  by_cases hq : 6 < n1 * n2
  · rw [show decide ((6 : Int) < (n1 * n2 : Nat)) = true from decide_eq_true (by omega), if_pos rfl] at sI
    have e7 : PV (cc (k + 5)) (L21 ns A B (some (.t M)) x5 none) (.eqq false (.meth false (.var 4) 3 []) (.op .idx [(.var 2), (.int 0)])) (.bl (true ^^ false)) := pv_eqp (k := 1) (m := 1) (pv_members (k := k + 4) (.inl rfl) vm) (tb0 va) nl1 nl1 (by decide) (by decide) ⟨fun _ => rfl, fun _ => rfl⟩
    have s7 := (ss_nx s1).trans ((ss_nx s2).trans ((ss_nx s3).trans ((ss_nx s4).trans ((ss_nx s5).trans ((ss_nx s6).trans (ss_rt (ss := [.set 6 (.call false 20 [(.var 2), (.var 3)]),
    .ret false (.eqq false (.call false 13 [(.new 6 0 [(.var 4), (.call false 19 [(.var 3)])])]) (.call false 17 [(.op .idx [(.var 6), (.int 0)]), (.op .idx [(.var 6), (.int 1)]), (.op .idx [(.var 6), (.int 2)])]))]) (sI.trans (ss_rt (st_ret e7)))))))))
    exact ⟨_, run_rt (d := fn21) (vs := [.t (.scr ns)]) rfl s7⟩
  · rw [show decide ((6 : Int) < (n1 * n2 : Nat)) = false from decide_eq_false (by omega), if_neg Bool.false_ne_true] at sI
    have o3 := pTb o1 o2 g1 g2 (by omega)
    have s8 : exS (cc (k + 5)) (.set 6 (.call false 20 [(.var 2), (.var 3)])) (L21 ns A B (some (.t M)) x5 none) h3 = .ok (.nx (L21 ns A B (some (.t M)) x5 (some (.t (tb (pNm nm1 nm2 n2) (n1 * n2) (pS n2 sA sB) (low1 * n2 + low2)))))) h3 := st_set (pv_paired (k := k + 4) o1 o2 g1 g2 (by omega) va vb)
    generalize hD : tb (pNm nm1 nm2 n2) (n1 * n2) (pS n2 sA sB) (low1 * n2 + low2) = D at s8
    have vd : PV (cc (k + 5)) (L21 ns A B (some (.t M)) x5 (some (.t D))) (.var 6) (tb (pNm nm1 nm2 n2) (n1 * n2) (pS n2 sA sB) (low1 * n2 + low2)) := by rw [hD]; exact pv_var rfl
    have p3 := fault_pl (nm := pNm nm1 nm2 n2) (n := n1 * n2) (s := pS n2 sA sB) (low := low1 * n2 + low2) o3.sk
    have en : PV (cc (k + 5)) (L21 ns A B (some (.t M)) x5 (some (.t D))) (.new 6 0 [(.var 4), (.call false 19 [(.var 3)])]) (mT 6 (pNm nm1 nm2 n2) (n1 * n2) (pS n2 sA sB) (low1 * n2 + low2) [(6, mT 5 nm1 n1 sA low1 []), (7, mT 5 nm2 n2 sB low2 [])]) :=
      pv_new (f := 12) rfl (pvs_cons vm (pvs_cons (pv_made (k := k + 1) o2 g2 vb) pvs_nil)) (r12 (k := k + 1) (.inl rfl) (.inl rfl) o1 o2 g1 g2 (by omega))
    have e9 : PV (cc (k + 5)) (L21 ns A B (some (.t M)) x5 (some (.t D))) (.eqq false (.call false 13 [(.new 6 0 [(.var 4), (.call false 19 [(.var 3)])])]) (.call false 17 [(.op .idx [(.var 6), (.int 0)]), (.op .idx [(.var 6), (.int 1)]), (.op .idx [(.var 6), (.int 2)])])) (.bl (true ^^ false)) :=
      pv_eqp (k := 2) (m := 2) (pv_ff (k := k + 2) (.inr rfl) o3 en) (pv_due (k := k + 4) o3 vd) p3 p3 (by decide) (by decide) ⟨fun _ => rfl, fun _ => rfl⟩
    have s7 := (ss_nx s1).trans ((ss_nx s2).trans ((ss_nx s3).trans ((ss_nx s4).trans ((ss_nx s5).trans ((ss_nx s6).trans ((ss_nx (sI.trans rfl)).trans ((ss_nx s8).trans (ss_rt (ss := []) (st_ret e9)))))))))
    exact ⟨_, run_rt (d := fn21) (vs := [.t (.scr ns)]) rfl s7⟩
theorem tot : ∀ ns : List Int, ns.length ≤ 63 → ∃ h', (G.ff 40).1 21 [.t (.scr ns)] [] = .ok (.t (.bl true)) h' := fun ns hns => r21 34 ns hns
end MS

set_option Elab.async false
set_option linter.all false
set_option maxRecDepth 100000
namespace MS
open PySem PySem.Spec PyProof.Rows L2
theorem fldN_ne {m : Str} (h1 : (fldNames.contains m) = false) (h2 : ("?" : Str) ≠ m) : ∀ g, fldN g ≠ m := fun g e => by
  unfold fldN at e
  rw [List.getD_eq_getElem?_getD] at e
  cases q : fldNames[g]? with
  | none => rw [q] at e; exact h2 e
  | some x =>
    rw [q] at e
    have e : x = m := e
    subst e
    have := List.contains_iff_mem.mpr (List.mem_of_getElem? q)
    rw [h1] at this
    cases this
theorem lk_nil {P : Str → Nat → Prop} : ∀ x f, ([] : List (Str × Nat)).lookup x = some f → P x f := fun x f h => by cases h
theorem lk_cons {P : Str → Nat → Prop} {y : Str} {v : Nat} {l : List (Str × Nat)} (h1 : P y v) (h2 : ∀ x f, l.lookup x = some f → P x f) : ∀ x f, ((y, v) :: l).lookup x = some f → P x f := fun x f h => by
  rw [List.lookup_cons] at h
  cases e : x == y with
  | true =>
    rw [e] at h
    cases h
    cases eq_of_beq e
    exact h1
  | false => rw [e] at h; exact h2 x f h
theorem ct_nil {P : Str → Prop} : ∀ x, ([] : List Str).contains x = true → P x := fun x h => by cases h
theorem ct_cons {P : Str → Prop} {y : Str} {l : List Str} (h1 : P y) (h2 : ∀ x, l.contains x = true → P x) : ∀ x, (y :: l).contains x = true → P x := fun x h => by
  rw [List.contains_cons, Bool.or_eq_true] at h
  rcases h with h | h
  · cases eq_of_beq h
    exact h1
  · exact h2 x h
abbrev gam (w : World) (K : PySem.W.Frag) (mg : Str → Option Value) (base : Heap) (C4 C5 C6 : Addr) : Run := ⟨prg, w, K, mg, base, fun c => cA0 C4 C5 C6 (nrC c)⟩
abbrev inf (f3 f4 f5 f6 f8 f9 f10 f11 f12 f13 f14 f15 f16 f17 f18 f19 f20 f21 : Addr) (d3 d4 d5 d6 d8 d9 d10 d11 d12 d13 d14 d15 d16 d17 d18 d19 d20 d21 : FuncData) : Info := ⟨fun f => (fnT f).isSome, fA0 f3 f4 f5 f6 f8 f9 f10 f11 f12 f13 f14 f15 f16 f17 f18 f19 f20 f21, fd0 d3 d4 d5 d6 d8 d9 d10 d11 d12 d13 d14 d15 d16 d17 d18 d19 d20 d21, psT, mNm, spsT, posT⟩
theorem law_of {w : World} {K : PySem.W.Frag} {mg : Str → Option Value} {base : Heap} {C4 C5 C6 f3 f4 f5 f6 f8 f9 f10 f11 f12 f13 f14 f15 f16 f17 f18 f19 f20 f21 : Addr} {d3 d4 d5 d6 d8 d9 d10 d11 d12 d13 d14 d15 d16 d17 d18 d19 d20 d21 : FuncData} {tk0 tk1 : Tok}
    (F3 : Fun K "__init__" "Monoid.__init__" s3 f3 d3)
    (F4 : Fun K "members" "Monoid.members" s4 f4 d4)
    (F5 : Fun K "place" "Monoid.place" s5 f5 d5)
    (F6 : Fun K "plus" "Monoid.plus" s6 f6 d6)
    (F8 : Fun K "__contains__" "Monoid.__contains__" s8 f8 d8)
    (F9 : Fun K "__eq__" "Monoid.__eq__" s9 f9 d9)
    (F10 : Fun K "is_member_name" "is_member_name" s10 f10 d10)
    (F11 : FunK K "__init__" "TableMonoid.__init__" s11 f11 C5 d11)
    (F12 : FunK K "__init__" "PairMonoid.__init__" s12 f12 C6 d12)
    (F13 : Fun K "first_fault" "first_fault" s13 f13 d13)
    (F14 : Fun K "_law_source" "_law_source" s14 f14 d14)
    (F15 : Fun K "_law_pick" "_law_pick" s15 f15 d15)
    (F16 : Fun K "_law_names" "_law_names" s16 f16 d16)
    (F17 : Fun K "_law_due" "_law_due" s17 f17 d17)
    (F18 : Fun K "_law_table" "_law_table" s18 f18 d18)
    (F19 : Fun K "_law_made" "_law_made" s19 f19 d19)
    (F20 : Fun K "_law_paired" "_law_paired" s20 f20 d20)
    (F21 : Fun K "law" "law" s21 f21 d21)
    (b3 : Binds K d3 (psT 3) [])
    (b4 : Binds K d4 (psT 4) [])
    (b5 : Binds K d5 (psT 5) [])
    (b6 : Binds K d6 (psT 6) [])
    (b8 : Binds K d8 (psT 8) [])
    (b9 : Binds K d9 (psT 9) [])
    (b10 : Binds K d10 (psT 10) [])
    (b12 : Binds K d12 (psT 12) [])
    (b13 : Binds K d13 (psT 13) [])
    (b14 : Binds K d14 (psT 14) [])
    (b15 : Binds K d15 (psT 15) [])
    (b16 : Binds K d16 (psT 16) [])
    (b17 : Binds K d17 (psT 17) [])
    (b18 : Binds K d18 (psT 18) [])
    (b19 : Binds K d19 (psT 19) [])
    (b20 : Binds K d20 (psT 20) [])
    (b21 : Binds K d21 (psT 21) [])
    (CC4 : Cls K C4)
    (CC5 : Cls K C5)
    (CC6 : Cls K C6)
    (aM4_0 : PySem.W.findIn K (.ref C4) "__eq__" = some (some (.ref f9)))
    (aM4_1 : PySem.W.findIn K (.ref C4) "__contains__" = some (some (.ref f8)))
    (aM4_3 : PySem.W.findIn K (.ref C4) "members" = some (some (.ref f4)))
    (aM4_4 : PySem.W.findIn K (.ref C4) "place" = some (some (.ref f5)))
    (aM4_5 : PySem.W.findIn K (.ref C4) "plus" = some (some (.ref f6)))
    (aM5_0 : PySem.W.findIn K (.ref C5) "__eq__" = some (some (.ref f9)))
    (aM5_1 : PySem.W.findIn K (.ref C5) "__contains__" = some (some (.ref f8)))
    (aM5_3 : PySem.W.findIn K (.ref C5) "members" = some (some (.ref f4)))
    (aM5_4 : PySem.W.findIn K (.ref C5) "place" = some (some (.ref f5)))
    (aM5_5 : PySem.W.findIn K (.ref C5) "plus" = some (some (.ref f6)))
    (aM6_0 : PySem.W.findIn K (.ref C6) "__eq__" = some (some (.ref f9)))
    (aM6_1 : PySem.W.findIn K (.ref C6) "__contains__" = some (some (.ref f8)))
    (aM6_3 : PySem.W.findIn K (.ref C6) "members" = some (some (.ref f4)))
    (aM6_4 : PySem.W.findIn K (.ref C6) "place" = some (some (.ref f5)))
    (aM6_5 : PySem.W.findIn K (.ref C6) "plus" = some (some (.ref f6)))
    (aI4 : PySem.W.findIn K (.ref C4) "__init__" = some (some (.ref f3)))
    (aI5 : PySem.W.findIn K (.ref C5) "__init__" = some (some (.ref f11)))
    (aI6 : PySem.W.findIn K (.ref C6) "__init__" = some (some (.ref f12)))
    (i3 : PySem.W.isFn K (.ref f3) = true)
    (i4 : PySem.W.isFn K (.ref f4) = true)
    (i5 : PySem.W.isFn K (.ref f5) = true)
    (i6 : PySem.W.isFn K (.ref f6) = true)
    (i8 : PySem.W.isFn K (.ref f8) = true)
    (i9 : PySem.W.isFn K (.ref f9) = true)
    (i10 : PySem.W.isFn K (.ref f10) = true)
    (sf11 : PySem.W.fnIn K f3 = true)
    (sq11 : PySem.W.typeIn K (.ref f3) = some (.type "function"))
    (sm11_5 : PySem.W.mroIn K C5 (.ref C5) = some true)
    (ss11_5 : PySem.W.ks_superIn K C5 C5 "__init__" = some (some (.ref f3)))
    (i11 : PySem.W.isFn K (.ref f11) = true)
    (sf12 : PySem.W.fnIn K f3 = true)
    (sq12 : PySem.W.typeIn K (.ref f3) = some (.type "function"))
    (sm12_6 : PySem.W.mroIn K C6 (.ref C6) = some true)
    (ss12_6 : PySem.W.ks_superIn K C6 C6 "__init__" = some (some (.ref f3)))
    (i12 : PySem.W.isFn K (.ref f12) = true)
    (i13 : PySem.W.isFn K (.ref f13) = true)
    (i14 : PySem.W.isFn K (.ref f14) = true)
    (i15 : PySem.W.isFn K (.ref f15) = true)
    (i16 : PySem.W.isFn K (.ref f16) = true)
    (i17 : PySem.W.isFn K (.ref f17) = true)
    (i18 : PySem.W.isFn K (.ref f18) = true)
    (i19 : PySem.W.isFn K (.ref f19) = true)
    (i20 : PySem.W.isFn K (.ref f20) = true)
    (i21 : PySem.W.isFn K (.ref f21) = true)
    (mk4 : PySem.W.makesIn K C4 = true)
    (kc4 : PySem.W.keepIn K (.ref C4) = true)
    (ne4 : PySem.W.findIn K (.ref C4) "__ne__" = some (some (.builtin "object.__ne__")))
    (ca4 : PySem.W.findIn K (.ref C4) "__class__" = some (some (.builtin "object.__class__")))
    (ob4 : PySem.W.mroIn K C4 (.type "object") = some true)
    (na4_0 : PySem.W.findIn K (.ref C4) "name" = some none)
    (na4_1 : PySem.W.findIn K (.ref C4) "names" = some none)
    (na4_2 : PySem.W.findIn K (.ref C4) "places" = some none)
    (na4_3 : PySem.W.findIn K (.ref C4) "sums" = some none)
    (na4_4 : PySem.W.findIn K (.ref C4) "zero" = some none)
    (na4_5 : PySem.W.findIn K (.ref C4) "whole" = some none)
    (na4_6 : PySem.W.findIn K (.ref C4) "left" = some none)
    (na4_7 : PySem.W.findIn K (.ref C4) "right" = some none)
    (na4_8 : PySem.W.findIn K (.ref C4) "kind" = some none)
    (na4_9 : PySem.W.findIn K (.ref C4) "steps" = some none)
    (na4_10 : PySem.W.findIn K (.ref C4) "rows" = some none)
    (na4_11 : PySem.W.findIn K (.ref C4) "past" = some none)
    (na4_12 : PySem.W.findIn K (.ref C4) "source" = some none)
    (na4_13 : PySem.W.findIn K (.ref C4) "target" = some none)
    (na4_14 : PySem.W.findIn K (.ref C4) "goals" = some none)
    (na4_15 : PySem.W.findIn K (.ref C4) "system" = some none)
    (na4_16 : PySem.W.findIn K (.ref C4) "least" = some none)
    (na4_17 : PySem.W.findIn K (.ref C4) "into" = some none)
    (na4_18 : PySem.W.findIn K (.ref C4) "rounds" = some none)
    (na4_19 : PySem.W.findIn K (.ref C4) "known" = some none)
    (nf4_4 : PySem.W.notFirst K C4 (.ref C4) = true)
    (mk5 : PySem.W.makesIn K C5 = true)
    (kc5 : PySem.W.keepIn K (.ref C5) = true)
    (ne5 : PySem.W.findIn K (.ref C5) "__ne__" = some (some (.builtin "object.__ne__")))
    (ca5 : PySem.W.findIn K (.ref C5) "__class__" = some (some (.builtin "object.__class__")))
    (ob5 : PySem.W.mroIn K C5 (.type "object") = some true)
    (na5_0 : PySem.W.findIn K (.ref C5) "name" = some none)
    (na5_1 : PySem.W.findIn K (.ref C5) "names" = some none)
    (na5_2 : PySem.W.findIn K (.ref C5) "places" = some none)
    (na5_3 : PySem.W.findIn K (.ref C5) "sums" = some none)
    (na5_4 : PySem.W.findIn K (.ref C5) "zero" = some none)
    (na5_5 : PySem.W.findIn K (.ref C5) "whole" = some none)
    (na5_6 : PySem.W.findIn K (.ref C5) "left" = some none)
    (na5_7 : PySem.W.findIn K (.ref C5) "right" = some none)
    (na5_8 : PySem.W.findIn K (.ref C5) "kind" = some none)
    (na5_9 : PySem.W.findIn K (.ref C5) "steps" = some none)
    (na5_10 : PySem.W.findIn K (.ref C5) "rows" = some none)
    (na5_11 : PySem.W.findIn K (.ref C5) "past" = some none)
    (na5_12 : PySem.W.findIn K (.ref C5) "source" = some none)
    (na5_13 : PySem.W.findIn K (.ref C5) "target" = some none)
    (na5_14 : PySem.W.findIn K (.ref C5) "goals" = some none)
    (na5_15 : PySem.W.findIn K (.ref C5) "system" = some none)
    (na5_16 : PySem.W.findIn K (.ref C5) "least" = some none)
    (na5_17 : PySem.W.findIn K (.ref C5) "into" = some none)
    (na5_18 : PySem.W.findIn K (.ref C5) "rounds" = some none)
    (na5_19 : PySem.W.findIn K (.ref C5) "known" = some none)
    (nf5_4 : PySem.W.notFirst K C5 (.ref C4) = true)
    (nf5_5 : PySem.W.notFirst K C5 (.ref C5) = true)
    (nf5_6 : PySem.W.notFirst K C5 (.ref C6) = true)
    (mk6 : PySem.W.makesIn K C6 = true)
    (kc6 : PySem.W.keepIn K (.ref C6) = true)
    (ne6 : PySem.W.findIn K (.ref C6) "__ne__" = some (some (.builtin "object.__ne__")))
    (ca6 : PySem.W.findIn K (.ref C6) "__class__" = some (some (.builtin "object.__class__")))
    (ob6 : PySem.W.mroIn K C6 (.type "object") = some true)
    (na6_0 : PySem.W.findIn K (.ref C6) "name" = some none)
    (na6_1 : PySem.W.findIn K (.ref C6) "names" = some none)
    (na6_2 : PySem.W.findIn K (.ref C6) "places" = some none)
    (na6_3 : PySem.W.findIn K (.ref C6) "sums" = some none)
    (na6_4 : PySem.W.findIn K (.ref C6) "zero" = some none)
    (na6_5 : PySem.W.findIn K (.ref C6) "whole" = some none)
    (na6_6 : PySem.W.findIn K (.ref C6) "left" = some none)
    (na6_7 : PySem.W.findIn K (.ref C6) "right" = some none)
    (na6_8 : PySem.W.findIn K (.ref C6) "kind" = some none)
    (na6_9 : PySem.W.findIn K (.ref C6) "steps" = some none)
    (na6_10 : PySem.W.findIn K (.ref C6) "rows" = some none)
    (na6_11 : PySem.W.findIn K (.ref C6) "past" = some none)
    (na6_12 : PySem.W.findIn K (.ref C6) "source" = some none)
    (na6_13 : PySem.W.findIn K (.ref C6) "target" = some none)
    (na6_14 : PySem.W.findIn K (.ref C6) "goals" = some none)
    (na6_15 : PySem.W.findIn K (.ref C6) "system" = some none)
    (na6_16 : PySem.W.findIn K (.ref C6) "least" = some none)
    (na6_17 : PySem.W.findIn K (.ref C6) "into" = some none)
    (na6_18 : PySem.W.findIn K (.ref C6) "rounds" = some none)
    (na6_19 : PySem.W.findIn K (.ref C6) "known" = some none)
    (nf6_4 : PySem.W.notFirst K C6 (.ref C4) = true)
    (nf6_5 : PySem.W.notFirst K C6 (.ref C5) = true)
    (nf6_6 : PySem.W.notFirst K C6 (.ref C6) = true)
    (ki0_0 : PySem.W.kitOne K (.type "NoneType") (.ref C4) = some (tyIs isaT .non (.cls 4)))
    (ki0_1 : PySem.W.kitOne K (.type "bool") (.ref C4) = some (tyIs isaT .bl (.cls 4)))
    (ki0_2 : PySem.W.kitOne K (.type "int") (.ref C4) = some (tyIs isaT .int (.cls 4)))
    (ki0_3 : PySem.W.kitOne K (.type "str") (.ref C4) = some (tyIs isaT .str (.cls 4)))
    (ki0_4 : PySem.W.kitOne K (.type "tuple") (.ref C4) = some (tyIs isaT .tup (.cls 4)))
    (ki0_5 : PySem.W.kitOne K (.type "list") (.ref C4) = some (tyIs isaT .lst (.cls 4)))
    (ki0_6 : PySem.W.kitOne K (.type "dict") (.ref C4) = some (tyIs isaT .dct (.cls 4)))
    (ki0_7 : PySem.W.kitOne K (.ref C4) (.ref C4) = some (tyIs isaT (.ins 4) (.cls 4)))
    (ki0_8 : PySem.W.kitOne K (.ref C5) (.ref C4) = some (tyIs isaT (.ins 5) (.cls 4)))
    (ki0_9 : PySem.W.kitOne K (.ref C6) (.ref C4) = some (tyIs isaT (.ins 6) (.cls 4)))
    (cg : PySem.W.specialIn K (.builtin "object.__class__") "__get__" = some (some (.builtin "getset_descriptor.__get__")))
    (ct : PySem.W.takesIn K (.builtin "object.__class__") = some true)
    (op : PySem.W.nsIn K PySem.cStatics "thirdparty.any" = some none)
    (mC4 : mg "Monoid" = some (.ref C4))
    (mC5 : mg "TableMonoid" = some (.ref C5))
    (mC6 : mg "PairMonoid" = some (.ref C6))
    (mF10 : mg "is_member_name" = some (.ref f10))
    (mF13 : mg "first_fault" = some (.ref f13))
    (mF14 : mg "_law_source" = some (.ref f14))
    (mF15 : mg "_law_pick" = some (.ref f15))
    (mF16 : mg "_law_names" = some (.ref f16))
    (mF17 : mg "_law_due" = some (.ref f17))
    (mF18 : mg "_law_table" = some (.ref f18))
    (mF19 : mg "_law_made" = some (.ref f19))
    (mF20 : mg "_law_paired" = some (.ref f20))
    (mF21 : mg "law" = some (.ref f21))
    (mB_len : mg "len" = none)
    (mB_abs : mg "abs" = none)
    (mB_int : mg "int" = none)
    (mB_list : mg "list" = none)
    (mB_tuple : mg "tuple" = none)
    (mB_max : mg "max" = none)
    (mB_min : mg "min" = none)
    (mB_any : mg "any" = none)
    (mB_all : mg "all" = none)
    (mB_range : mg "range" = none)
    (mB_enumerate : mg "enumerate" = none)
    (mB_isinstance : mg "isinstance" = none)
    (mB_super : mg "super" = none)
    (mG0 : mg "SIGNS" = some (.str "abcdefghijklmnopqrstuvwxyz0123456789" tk0))
    (mG1 : mg "MOST_MEMBERS" = some (.int 12 tk1))
    (kb5 : ∀ (S1 : Shared) (z v : Value) (us : List Value), (z :: (us ++ [v])).length = 4 → BindsTo S1 d11 ⟨z :: us, [("zero", v)]⟩ ((psT 11).zip (z :: (us ++ [v]))))
    (tot : ∀ ns : List Int, ns.length ≤ 63 → ∃ h', (G.ff 40).1 21 [.t (.scr ns)] [] = .ok (.t (.bl true)) h') :
    FnOk prg w K mg base (L2.CX prg w) 41 f21 d21 (psT 21) (spLaw K 63) := by
  have cc : ∀ {Q : Nat → Addr → Prop}, Q 4 C4 → Q 5 C5 → Q 6 C6 → ∀ c, Q (nrC c) (cA0 C4 C5 C6 (nrC c)) := fun h4 h5 h6 c => by
    rcases nrC_cases c with e | e | e <;> rw [e] <;> assumption
  have St : Stat (gam w K mg base C4 C5 C6) (inf f3 f4 f5 f6 f8 f9 f10 f11 f12 f13 f14 f15 f16 f17 f18 f19 f20 f21 d3 d4 d5 d6 d8 d9 d10 d11 d12 d13 d14 d15 d16 d17 d18 d19 d20 d21) G := by
    refine ⟨?_, ?_, ?_, ?_, ?_, ?_, rfl, rfl, ?_, ?_, ?_, cg, ct, ?_⟩
    · intro c m f h
      have h : mthT c m = some f := h
      unfold mthT at h
      split at h <;> cases h
      · exact ⟨aM4_0, i9, F9.kp⟩
      · exact ⟨aM4_1, i8, F8.kp⟩
      · exact ⟨aM4_3, i4, F4.kp⟩
      · exact ⟨aM4_4, i5, F5.kp⟩
      · exact ⟨aM4_5, i6, F6.kp⟩
      · exact ⟨aM5_0, i9, F9.kp⟩
      · exact ⟨aM5_1, i8, F8.kp⟩
      · exact ⟨aM5_3, i4, F4.kp⟩
      · exact ⟨aM5_4, i5, F5.kp⟩
      · exact ⟨aM5_5, i6, F6.kp⟩
      · exact ⟨aM6_0, i9, F9.kp⟩
      · exact ⟨aM6_1, i8, F8.kp⟩
      · exact ⟨aM6_3, i4, F4.kp⟩
      · exact ⟨aM6_4, i5, F5.kp⟩
      · exact ⟨aM6_5, i6, F6.kp⟩
    · intro c m f h
      have h : mthT c m = some f := h
      unfold mthT at h
      split at h <;> cases h
      · exact fldN_ne (m := mNm 0) (by decide +kernel) (by decide +kernel)
      · exact fldN_ne (m := mNm 1) (by decide +kernel) (by decide +kernel)
      · exact fldN_ne (m := mNm 3) (by decide +kernel) (by decide +kernel)
      · exact fldN_ne (m := mNm 4) (by decide +kernel) (by decide +kernel)
      · exact fldN_ne (m := mNm 5) (by decide +kernel) (by decide +kernel)
      · exact fldN_ne (m := mNm 0) (by decide +kernel) (by decide +kernel)
      · exact fldN_ne (m := mNm 1) (by decide +kernel) (by decide +kernel)
      · exact fldN_ne (m := mNm 3) (by decide +kernel) (by decide +kernel)
      · exact fldN_ne (m := mNm 4) (by decide +kernel) (by decide +kernel)
      · exact fldN_ne (m := mNm 5) (by decide +kernel) (by decide +kernel)
      · exact fldN_ne (m := mNm 0) (by decide +kernel) (by decide +kernel)
      · exact fldN_ne (m := mNm 1) (by decide +kernel) (by decide +kernel)
      · exact fldN_ne (m := mNm 3) (by decide +kernel) (by decide +kernel)
      · exact fldN_ne (m := mNm 4) (by decide +kernel) (by decide +kernel)
      · exact fldN_ne (m := mNm 5) (by decide +kernel) (by decide +kernel)
    · intro c m f h
      have h : mthT c m = some f := h
      unfold mthT at h
      split at h <;> cases h <;> rfl
    · intro c f h
      have h : iniT c = some f := h
      unfold iniT at h
      split at h <;> cases h
      · exact ⟨mk4, aI4, i3, kc4⟩
      · exact ⟨mk5, aI5, i11, kc5⟩
      · exact ⟨mk6, aI6, i12, kc6⟩
    · exact cc (Q := fun _ a => Cls K a) CC4 CC5 CC6
    · intro c d h
      have h : (d == c || !isa0 (nrC d) (nrC c)) = true := h
      have h : (nrC d == nrC c || !isa0 (nrC d) (nrC c)) = true := by
        rw [Bool.or_eq_true] at h ⊢
        rcases h with h | h
        · rw [eq_of_beq h]; exact .inl (beq_self_eq_true _)
        · exact .inr h
      show PySem.W.notFirst K (cA0 C4 C5 C6 (nrC c)) (.ref (cA0 C4 C5 C6 (nrC d))) = true
      rcases nrC_cases c with e | e | e <;> rcases nrC_cases d with e1 | e1 | e1 <;> rw [e, e1] at h <;> rw [e, e1] <;> first | (cases h; done) | assumption
    · exact cc (Q := fun _ a => PySem.W.findIn K (.ref a) "__ne__" = some (some (.builtin "object.__ne__"))) ne4 ne5 ne6
    · intro t s h
      have h : spsT s = true := h
      unfold spsT at h
      split at h <;> cases h
      · cases t
        · exact ki0_0
        · exact ki0_1
        · exact ki0_2
        · exact ki0_3
        · exact ki0_4
        · exact ki0_5
        · exact ki0_6
        · rename_i c
          have e : tyIs isaT (.ins c) (.cls 4) = tyIs isaT (.ins (nrC c)) (.cls 4) := by
            rcases nrC_cases c with e | e | e <;> rw [e] <;> simp only [tyIs, isaT, e] <;> rfl
          show PySem.W.kitOne K (.ref (cA0 C4 C5 C6 (nrC c))) _ = some (tyIs isaT (.ins c) (.cls 4))
          rw [e]
          rcases nrC_cases c with e2 | e2 | e2 <;> rw [e2] <;> assumption
    · exact cc (Q := fun _ a => PySem.W.findIn K (.ref a) "__class__" = some (some (.builtin "object.__class__"))) ca4 ca5 ca6
    · exact cc (Q := fun _ a => PySem.W.mroIn K a (.type "object") = some true) ob4 ob5 ob6
  have gf : GF (gam w K mg base C4 C5 C6) (inf f3 f4 f5 f6 f8 f9 f10 f11 f12 f13 f14 f15 f16 f17 f18 f19 f20 f21 d3 d4 d5 d6 d8 d9 d10 d11 d12 d13 d14 d15 d16 d17 d18 d19 d20 d21) G ge := by
    refine ⟨?_, ?_, ?_, ?_, ?_, fun _ => rfl, fun _ => rfl, fun _ => rfl, ?_, ?_⟩
    · exact lk_cons ⟨mF10, F10.kp, rfl⟩ (lk_cons ⟨mF13, F13.kp, rfl⟩ (lk_cons ⟨mF14, F14.kp, rfl⟩ (lk_cons ⟨mF15, F15.kp, rfl⟩ (lk_cons ⟨mF16, F16.kp, rfl⟩ (lk_cons ⟨mF17, F17.kp, rfl⟩ (lk_cons ⟨mF18, F18.kp, rfl⟩ (lk_cons ⟨mF19, F19.kp, rfl⟩ (lk_cons ⟨mF20, F20.kp, rfl⟩ (lk_cons ⟨mF21, F21.kp, rfl⟩ (lk_nil))))))))))
    · exact lk_cons mC4 (lk_cons mC5 (lk_cons mC6 (lk_nil)))
    · exact lk_cons ⟨_, .str "abcdefghijklmnopqrstuvwxyz0123456789", _, rfl, mG0, ⟨_, rfl⟩, fun F => by simp only [RT]⟩ (lk_cons ⟨_, .int 12, _, rfl, mG1, ⟨_, rfl⟩, fun F => by simp only [RT]⟩ (lk_nil))
    · exact ct_cons mB_len (ct_cons mB_abs (ct_cons mB_int (ct_cons mB_list (ct_cons mB_tuple (ct_cons mB_max (ct_cons mB_min (ct_cons mB_any (ct_cons mB_all (ct_cons mB_range (ct_cons mB_enumerate (ct_cons mB_isinstance (ct_cons mB_super (ct_nil)))))))))))))
    · intro f hf
      match f, hf with
      | 0, _ => exact cc (Q := fun _ a => NoAttr K a (fldN 0)) na4_0 na5_0 na6_0
      | 1, _ => exact cc (Q := fun _ a => NoAttr K a (fldN 1)) na4_1 na5_1 na6_1
      | 2, _ => exact cc (Q := fun _ a => NoAttr K a (fldN 2)) na4_2 na5_2 na6_2
      | 3, _ => exact cc (Q := fun _ a => NoAttr K a (fldN 3)) na4_3 na5_3 na6_3
      | 4, _ => exact cc (Q := fun _ a => NoAttr K a (fldN 4)) na4_4 na5_4 na6_4
      | 5, _ => exact cc (Q := fun _ a => NoAttr K a (fldN 5)) na4_5 na5_5 na6_5
      | 6, _ => exact cc (Q := fun _ a => NoAttr K a (fldN 6)) na4_6 na5_6 na6_6
      | 7, _ => exact cc (Q := fun _ a => NoAttr K a (fldN 7)) na4_7 na5_7 na6_7
      | 8, _ => exact cc (Q := fun _ a => NoAttr K a (fldN 8)) na4_8 na5_8 na6_8
      | 9, _ => exact cc (Q := fun _ a => NoAttr K a (fldN 9)) na4_9 na5_9 na6_9
      | 10, _ => exact cc (Q := fun _ a => NoAttr K a (fldN 10)) na4_10 na5_10 na6_10
      | 11, _ => exact cc (Q := fun _ a => NoAttr K a (fldN 11)) na4_11 na5_11 na6_11
      | 12, _ => exact cc (Q := fun _ a => NoAttr K a (fldN 12)) na4_12 na5_12 na6_12
      | 13, _ => exact cc (Q := fun _ a => NoAttr K a (fldN 13)) na4_13 na5_13 na6_13
      | 14, _ => exact cc (Q := fun _ a => NoAttr K a (fldN 14)) na4_14 na5_14 na6_14
      | 15, _ => exact cc (Q := fun _ a => NoAttr K a (fldN 15)) na4_15 na5_15 na6_15
      | 16, _ => exact cc (Q := fun _ a => NoAttr K a (fldN 16)) na4_16 na5_16 na6_16
      | 17, _ => exact cc (Q := fun _ a => NoAttr K a (fldN 17)) na4_17 na5_17 na6_17
      | 18, _ => exact cc (Q := fun _ a => NoAttr K a (fldN 18)) na4_18 na5_18 na6_18
      | 19, _ => exact cc (Q := fun _ a => NoAttr K a (fldN 19)) na4_19 na5_19 na6_19
      | n + 20, h => exact absurd h (by omega)
    · intro c f h1 h2
      have h2 : iniT c = some f := h2
      have h1 : kwT c = none := h1
      unfold iniT at h2
      split at h2 <;> cases h2 <;> first | rfl | cases h1
    · intro c kn f h1 h2 S1 z v us hS hl
      have h1 : kwT c = some kn := h1
      unfold kwT at h1
      split at h1 <;> cases h1
      · cases h2
        exact kb5 S1 z v us hl
  have hb : ∀ f, (fnT f).isSome = true → posT f = true → Binds K (fd0 d3 d4 d5 d6 d8 d9 d10 d11 d12 d13 d14 d15 d16 d17 d18 d19 d20 d21 f) (psT f) [] := by
    intro f h h1
    unfold fnT at h
    split at h
    · exact b3
    · exact b4
    · exact b5
    · exact b6
    · exact b8
    · exact b9
    · exact b10
    · exact absurd h1 (by decide)
    · exact b12
    · exact b13
    · exact b14
    · exact b15
    · exact b16
    · exact b17
    · exact b18
    · exact b19
    · exact b20
    · exact b21
    · cases h
  have hs : ∀ f d, G.fn f = some d → FnSound (gam w K mg base C4 C5 C6) (inf f3 f4 f5 f6 f8 f9 f10 f11 f12 f13 f14 f15 f16 f17 f18 f19 f20 f21 d3 d4 d5 d6 d8 d9 d10 d11 d12 d13 d14 d15 d16 d17 d18 d19 d20 d21) G f d := by
    intro f d h
    have h : fnT f = some d := h
    unfold fnT at h
    split at h <;> cases h
    · exact fn_sound (N := N3) (body := defBody s3) (scope := defScope s3) ⟨ok_fd F3, sc3, fun _ => b3⟩ St gf rfl rfl ck3
    · exact fn_sound (N := N4) (body := defBody s4) (scope := defScope s4) ⟨ok_fd F4, sc4, fun _ => b4⟩ St gf rfl rfl ck4
    · exact fn_sound (N := N5) (body := defBody s5) (scope := defScope s5) ⟨ok_fd F5, sc5, fun _ => b5⟩ St gf rfl rfl ck5
    · exact fn_sound (N := N6) (body := defBody s6) (scope := defScope s6) ⟨ok_fd F6, sc6, fun _ => b6⟩ St gf rfl rfl ck6
    · exact fn_sound (N := N8) (body := defBody s8) (scope := defScope s8) ⟨ok_fd F8, sc8, fun _ => b8⟩ St gf rfl rfl ck8
    · exact fn_sound (N := N9) (body := defBody s9) (scope := defScope s9) ⟨ok_fd F9, sc9, fun _ => b9⟩ St gf rfl rfl ck9
    · exact fn_sound (N := N10) (body := defBody s10) (scope := defScope s10) ⟨ok_fd F10, sc10, fun _ => b10⟩ St gf rfl rfl ck10
    · refine fn_soundK (N := N11) (body := defBody s11) (scope := defScope s11) (n0 := "self") (d := 5) (f2 := 3) ⟨?_, sc11, fun h => absurd (show posT 11 = true from h) (by decide), by decide +kernel, by decide +kernel, (show (prg.main.scope.names.lookup ("super" : Str)).isSome = false by decide +kernel), mB_super, op, rfl, by first | exact .inl (by decide +kernel) | exact .inr (.inl (by decide +kernel)) | exact .inr (.inr (by decide +kernel))⟩ St gf rfl rfl ?_ rfl (by decide +kernel) ck11
      · obtain ⟨kV, doc, pm, ct1, oc, an, od, osl, cc1, cda, vs, file, tf, ccl, cl, cdd, cld, ccs, csl, cdD, e1, e2, e3, e4, e5, e6, e7, e8⟩ := F11.ex
        exact ⟨_, _, defArgs s11, .none, kV, doc, pm, ct1, oc, an, od, osl, cc1, cda, _, vs, file, tf, ccl, cl, cdd, cld, ccs, csl, cdD, e1, e2, e3, rfl, rfl, e4, e5, e6, e7, e8⟩
      · intro c h
        have h : isa0 (nrC c) (nrC 5) = true := h
        show SupC K (cA0 C4 C5 C6 (nrC c)) C5 f3
        rcases nrC_cases c with e | e | e <;> rw [e] at h ⊢
        · cases h
        · exact ⟨sm11_5, ss11_5, sq11, sf11⟩
        · cases h
    · refine fn_soundK (N := N12) (body := defBody s12) (scope := defScope s12) (n0 := "self") (d := 6) (f2 := 3) ⟨?_, sc12, fun _ => b12, by decide +kernel, by decide +kernel, (show (prg.main.scope.names.lookup ("super" : Str)).isSome = false by decide +kernel), mB_super, op, rfl, by first | exact .inl (by decide +kernel) | exact .inr (.inl (by decide +kernel)) | exact .inr (.inr (by decide +kernel))⟩ St gf rfl rfl ?_ rfl (by decide +kernel) ck12
      · obtain ⟨kV, doc, pm, ct1, oc, an, od, osl, cc1, cda, vs, file, tf, ccl, cl, cdd, cld, ccs, csl, cdD, e1, e2, e3, e4, e5, e6, e7, e8⟩ := F12.ex
        exact ⟨_, _, defArgs s12, .none, kV, doc, pm, ct1, oc, an, od, osl, cc1, cda, _, vs, file, tf, ccl, cl, cdd, cld, ccs, csl, cdD, e1, e2, e3, rfl, rfl, e4, e5, e6, e7, e8⟩
      · intro c h
        have h : isa0 (nrC c) (nrC 6) = true := h
        show SupC K (cA0 C4 C5 C6 (nrC c)) C6 f3
        rcases nrC_cases c with e | e | e <;> rw [e] at h ⊢
        · cases h
        · cases h
        · exact ⟨sm12_6, ss12_6, sq12, sf12⟩
    · exact fn_sound (N := N13) (body := defBody s13) (scope := defScope s13) ⟨ok_fd F13, sc13, fun _ => b13⟩ St gf rfl rfl ck13
    · exact fn_sound (N := N14) (body := defBody s14) (scope := defScope s14) ⟨ok_fd F14, sc14, fun _ => b14⟩ St gf rfl rfl ck14
    · exact fn_sound (N := N15) (body := defBody s15) (scope := defScope s15) ⟨ok_fd F15, sc15, fun _ => b15⟩ St gf rfl rfl ck15
    · exact fn_sound (N := N16) (body := defBody s16) (scope := defScope s16) ⟨ok_fd F16, sc16, fun _ => b16⟩ St gf rfl rfl ck16
    · exact fn_sound (N := N17) (body := defBody s17) (scope := defScope s17) ⟨ok_fd F17, sc17, fun _ => b17⟩ St gf rfl rfl ck17
    · exact fn_sound (N := N18) (body := defBody s18) (scope := defScope s18) ⟨ok_fd F18, sc18, fun _ => b18⟩ St gf rfl rfl ck18
    · exact fn_sound (N := N19) (body := defBody s19) (scope := defScope s19) ⟨ok_fd F19, sc19, fun _ => b19⟩ St gf rfl rfl ck19
    · exact fn_sound (N := N20) (body := defBody s20) (scope := defScope s20) ⟨ok_fd F20, sc20, fun _ => b20⟩ St gf rfl rfl ck20
    · exact fn_sound (N := N21) (body := defBody s21) (scope := defScope s21) ⟨ok_fd F21, sc21, fun _ => b21⟩ St gf rfl rfl ck21
  exact law_fn (levels (fun _ => rfl) hs hb 40).1 rfl rfl tot
end MS

set_option Elab.async false
set_option linter.all false
set_option maxRecDepth 100000
namespace MS
open PySem PySem.Spec PyProof.Rows L2
theorem all_mk (tot : ∀ ns : List Int, ns.length ≤ 63 → ∃ h', (G.ff 40).1 21 [.t (.scr ns)] [] = .ok (.t (.bl true)) h') {w : World} {K : PySem.W.Frag} {h : Heap} {mg : Str → Option Value} {C4 C5 C6 f3 f4 f5 f6 f8 f9 f10 f11 f12 f13 f14 f15 f16 f17 f18 f19 f20 f21 : Addr} {fa : Addr} {tk0 tk1 : Tok} (X : K.In h) (G0 : h.Ns mainGlobals mg) (hfa : mg "law" = some (.ref fa))
    {oc3 kV3 dc3 pm3 cd3 ct3 : Value} {od3 an3 : Option Addr} {sl3 : Array (Option Value)}
    {oc4 kV4 dc4 pm4 cd4 ct4 : Value} {od4 an4 : Option Addr} {sl4 : Array (Option Value)}
    {oc5 kV5 dc5 pm5 cd5 ct5 : Value} {od5 an5 : Option Addr} {sl5 : Array (Option Value)}
    {oc6 kV6 dc6 pm6 cd6 ct6 : Value} {od6 an6 : Option Addr} {sl6 : Array (Option Value)}
    {oc8 kV8 dc8 pm8 cd8 ct8 : Value} {od8 an8 : Option Addr} {sl8 : Array (Option Value)}
    {oc9 kV9 dc9 pm9 cd9 ct9 : Value} {od9 an9 : Option Addr} {sl9 : Array (Option Value)}
    {oc10 kV10 dc10 pm10 cd10 ct10 : Value} {od10 an10 : Option Addr} {sl10 : Array (Option Value)}
    {oc11 kV11 dc11 pm11 ct11 ccl11 cl11 : Value} {od11 an11 cdd11 cld11 : Option Addr} {sl11 ccs11 csl11 : Array (Option Value)} {cc11 cda11 : Addr} {vs11 : Array Value} {file11 : Str} {tf11 : Tok} {cdD11 : ClassData}
    {oc12 kV12 dc12 pm12 ct12 ccl12 cl12 : Value} {od12 an12 cdd12 cld12 : Option Addr} {sl12 ccs12 csl12 : Array (Option Value)} {cc12 cda12 : Addr} {vs12 : Array Value} {file12 : Str} {tf12 : Tok} {cdD12 : ClassData}
    {oc13 kV13 dc13 pm13 cd13 ct13 : Value} {od13 an13 : Option Addr} {sl13 : Array (Option Value)}
    {oc14 kV14 dc14 pm14 cd14 ct14 : Value} {od14 an14 : Option Addr} {sl14 : Array (Option Value)}
    {oc15 kV15 dc15 pm15 cd15 ct15 : Value} {od15 an15 : Option Addr} {sl15 : Array (Option Value)}
    {oc16 kV16 dc16 pm16 cd16 ct16 : Value} {od16 an16 : Option Addr} {sl16 : Array (Option Value)}
    {oc17 kV17 dc17 pm17 cd17 ct17 : Value} {od17 an17 : Option Addr} {sl17 : Array (Option Value)}
    {oc18 kV18 dc18 pm18 cd18 ct18 : Value} {od18 an18 : Option Addr} {sl18 : Array (Option Value)}
    {oc19 kV19 dc19 pm19 cd19 ct19 : Value} {od19 an19 : Option Addr} {sl19 : Array (Option Value)}
    {oc20 kV20 dc20 pm20 cd20 ct20 : Value} {od20 an20 : Option Addr} {sl20 : Array (Option Value)}
    {oc21 kV21 dc21 pm21 cd21 ct21 : Value} {od21 an21 : Option Addr} {sl21 : Array (Option Value)}
    (aC4 : PySem.W.nsIn K mainGlobals "Monoid" = some (some (.ref C4)))
    (aC5 : PySem.W.nsIn K mainGlobals "TableMonoid" = some (some (.ref C5)))
    (aC6 : PySem.W.nsIn K mainGlobals "PairMonoid" = some (some (.ref C6)))
    (aF10 : PySem.W.nsIn K mainGlobals "is_member_name" = some (some (.ref f10)))
    (aF13 : PySem.W.nsIn K mainGlobals "first_fault" = some (some (.ref f13)))
    (aF14 : PySem.W.nsIn K mainGlobals "_law_source" = some (some (.ref f14)))
    (aF15 : PySem.W.nsIn K mainGlobals "_law_pick" = some (some (.ref f15)))
    (aF16 : PySem.W.nsIn K mainGlobals "_law_names" = some (some (.ref f16)))
    (aF17 : PySem.W.nsIn K mainGlobals "_law_due" = some (some (.ref f17)))
    (aF18 : PySem.W.nsIn K mainGlobals "_law_table" = some (some (.ref f18)))
    (aF19 : PySem.W.nsIn K mainGlobals "_law_made" = some (some (.ref f19)))
    (aF20 : PySem.W.nsIn K mainGlobals "_law_paired" = some (some (.ref f20)))
    (aF21 : PySem.W.nsIn K mainGlobals "law" = some (some (.ref f21)))
    (aM4_0 : PySem.W.findIn K (.ref C4) "__eq__" = some (some (.ref f9)))
    (aM4_1 : PySem.W.findIn K (.ref C4) "__contains__" = some (some (.ref f8)))
    (aM4_3 : PySem.W.findIn K (.ref C4) "members" = some (some (.ref f4)))
    (aM4_4 : PySem.W.findIn K (.ref C4) "place" = some (some (.ref f5)))
    (aM4_5 : PySem.W.findIn K (.ref C4) "plus" = some (some (.ref f6)))
    (aM5_0 : PySem.W.findIn K (.ref C5) "__eq__" = some (some (.ref f9)))
    (aM5_1 : PySem.W.findIn K (.ref C5) "__contains__" = some (some (.ref f8)))
    (aM5_3 : PySem.W.findIn K (.ref C5) "members" = some (some (.ref f4)))
    (aM5_4 : PySem.W.findIn K (.ref C5) "place" = some (some (.ref f5)))
    (aM5_5 : PySem.W.findIn K (.ref C5) "plus" = some (some (.ref f6)))
    (aM6_0 : PySem.W.findIn K (.ref C6) "__eq__" = some (some (.ref f9)))
    (aM6_1 : PySem.W.findIn K (.ref C6) "__contains__" = some (some (.ref f8)))
    (aM6_3 : PySem.W.findIn K (.ref C6) "members" = some (some (.ref f4)))
    (aM6_4 : PySem.W.findIn K (.ref C6) "place" = some (some (.ref f5)))
    (aM6_5 : PySem.W.findIn K (.ref C6) "plus" = some (some (.ref f6)))
    (aI4 : PySem.W.findIn K (.ref C4) "__init__" = some (some (.ref f3)))
    (aI5 : PySem.W.findIn K (.ref C5) "__init__" = some (some (.ref f11)))
    (aI6 : PySem.W.findIn K (.ref C6) "__init__" = some (some (.ref f12)))
    (l3 : K.lookup f3 = some ⟨oc3, od3, .func (PySem.W.fnOf "__init__" "Monoid.__init__" (defArgs s3) (defBody s3) (defScope s3) .none kV3 dc3 pm3 an3 cd3 ct3), sl3⟩)
    (c3 : PySem.W.codeIn K cd3 "Monoid.__init__" = true)
    (k3 : PySem.W.keepIn K (.ref f3) = true)
    (i3 : PySem.W.isFn K (.ref f3) = true)
    (l4 : K.lookup f4 = some ⟨oc4, od4, .func (PySem.W.fnOf "members" "Monoid.members" (defArgs s4) (defBody s4) (defScope s4) .none kV4 dc4 pm4 an4 cd4 ct4), sl4⟩)
    (c4 : PySem.W.codeIn K cd4 "Monoid.members" = true)
    (k4 : PySem.W.keepIn K (.ref f4) = true)
    (i4 : PySem.W.isFn K (.ref f4) = true)
    (l5 : K.lookup f5 = some ⟨oc5, od5, .func (PySem.W.fnOf "place" "Monoid.place" (defArgs s5) (defBody s5) (defScope s5) .none kV5 dc5 pm5 an5 cd5 ct5), sl5⟩)
    (c5 : PySem.W.codeIn K cd5 "Monoid.place" = true)
    (k5 : PySem.W.keepIn K (.ref f5) = true)
    (i5 : PySem.W.isFn K (.ref f5) = true)
    (l6 : K.lookup f6 = some ⟨oc6, od6, .func (PySem.W.fnOf "plus" "Monoid.plus" (defArgs s6) (defBody s6) (defScope s6) .none kV6 dc6 pm6 an6 cd6 ct6), sl6⟩)
    (c6 : PySem.W.codeIn K cd6 "Monoid.plus" = true)
    (k6 : PySem.W.keepIn K (.ref f6) = true)
    (i6 : PySem.W.isFn K (.ref f6) = true)
    (l8 : K.lookup f8 = some ⟨oc8, od8, .func (PySem.W.fnOf "__contains__" "Monoid.__contains__" (defArgs s8) (defBody s8) (defScope s8) .none kV8 dc8 pm8 an8 cd8 ct8), sl8⟩)
    (c8 : PySem.W.codeIn K cd8 "Monoid.__contains__" = true)
    (k8 : PySem.W.keepIn K (.ref f8) = true)
    (i8 : PySem.W.isFn K (.ref f8) = true)
    (l9 : K.lookup f9 = some ⟨oc9, od9, .func (PySem.W.fnOf "__eq__" "Monoid.__eq__" (defArgs s9) (defBody s9) (defScope s9) .none kV9 dc9 pm9 an9 cd9 ct9), sl9⟩)
    (c9 : PySem.W.codeIn K cd9 "Monoid.__eq__" = true)
    (k9 : PySem.W.keepIn K (.ref f9) = true)
    (i9 : PySem.W.isFn K (.ref f9) = true)
    (l10 : K.lookup f10 = some ⟨oc10, od10, .func (PySem.W.fnOf "is_member_name" "is_member_name" (defArgs s10) (defBody s10) (defScope s10) .none kV10 dc10 pm10 an10 cd10 ct10), sl10⟩)
    (c10 : PySem.W.codeIn K cd10 "is_member_name" = true)
    (k10 : PySem.W.keepIn K (.ref f10) = true)
    (i10 : PySem.W.isFn K (.ref f10) = true)
    (l11 : K.lookup f11 = some ⟨oc11, od11, .func (PySem.W.fnX "__init__" "TableMonoid.__init__" (defArgs s11) (defBody s11) (defScope s11) (kcl cc11) .none kV11 dc11 pm11 an11 (.ref cda11) ct11), sl11⟩)
    (c11 : PySem.W.codeIn K (.ref cda11) "TableMonoid.__init__" = true)
    (cd11 : K.lookup cda11 = some ⟨ccl11, cdd11, .fields vs11, ccs11⟩)
    (v211 : vs11[2]? = some (.str file11 tf11))
    (fi11 : ((prg.main.file : Str) == file11) = true)
    (cc_11 : K.lookup cc11 = some ⟨cl11, cld11, .cell (some (.ref C5)), csl11⟩)
    (ci11 : PySem.W.clsIn K C5 = some cdD11)
    (sf11 : PySem.W.fnIn K f3 = true)
    (sq11 : PySem.W.typeIn K (.ref f3) = some (.type "function"))
    (sm11_5 : PySem.W.mroIn K C5 (.ref C5) = some true)
    (ss11_5 : PySem.W.ks_superIn K C5 C5 "__init__" = some (some (.ref f3)))
    (k11 : PySem.W.keepIn K (.ref f11) = true)
    (i11 : PySem.W.isFn K (.ref f11) = true)
    (l12 : K.lookup f12 = some ⟨oc12, od12, .func (PySem.W.fnX "__init__" "PairMonoid.__init__" (defArgs s12) (defBody s12) (defScope s12) (kcl cc12) .none kV12 dc12 pm12 an12 (.ref cda12) ct12), sl12⟩)
    (c12 : PySem.W.codeIn K (.ref cda12) "PairMonoid.__init__" = true)
    (cd12 : K.lookup cda12 = some ⟨ccl12, cdd12, .fields vs12, ccs12⟩)
    (v212 : vs12[2]? = some (.str file12 tf12))
    (fi12 : ((prg.main.file : Str) == file12) = true)
    (cc_12 : K.lookup cc12 = some ⟨cl12, cld12, .cell (some (.ref C6)), csl12⟩)
    (ci12 : PySem.W.clsIn K C6 = some cdD12)
    (sf12 : PySem.W.fnIn K f3 = true)
    (sq12 : PySem.W.typeIn K (.ref f3) = some (.type "function"))
    (sm12_6 : PySem.W.mroIn K C6 (.ref C6) = some true)
    (ss12_6 : PySem.W.ks_superIn K C6 C6 "__init__" = some (some (.ref f3)))
    (k12 : PySem.W.keepIn K (.ref f12) = true)
    (i12 : PySem.W.isFn K (.ref f12) = true)
    (l13 : K.lookup f13 = some ⟨oc13, od13, .func (PySem.W.fnOf "first_fault" "first_fault" (defArgs s13) (defBody s13) (defScope s13) .none kV13 dc13 pm13 an13 cd13 ct13), sl13⟩)
    (c13 : PySem.W.codeIn K cd13 "first_fault" = true)
    (k13 : PySem.W.keepIn K (.ref f13) = true)
    (i13 : PySem.W.isFn K (.ref f13) = true)
    (l14 : K.lookup f14 = some ⟨oc14, od14, .func (PySem.W.fnOf "_law_source" "_law_source" (defArgs s14) (defBody s14) (defScope s14) .none kV14 dc14 pm14 an14 cd14 ct14), sl14⟩)
    (c14 : PySem.W.codeIn K cd14 "_law_source" = true)
    (k14 : PySem.W.keepIn K (.ref f14) = true)
    (i14 : PySem.W.isFn K (.ref f14) = true)
    (l15 : K.lookup f15 = some ⟨oc15, od15, .func (PySem.W.fnOf "_law_pick" "_law_pick" (defArgs s15) (defBody s15) (defScope s15) .none kV15 dc15 pm15 an15 cd15 ct15), sl15⟩)
    (c15 : PySem.W.codeIn K cd15 "_law_pick" = true)
    (k15 : PySem.W.keepIn K (.ref f15) = true)
    (i15 : PySem.W.isFn K (.ref f15) = true)
    (l16 : K.lookup f16 = some ⟨oc16, od16, .func (PySem.W.fnOf "_law_names" "_law_names" (defArgs s16) (defBody s16) (defScope s16) .none kV16 dc16 pm16 an16 cd16 ct16), sl16⟩)
    (c16 : PySem.W.codeIn K cd16 "_law_names" = true)
    (k16 : PySem.W.keepIn K (.ref f16) = true)
    (i16 : PySem.W.isFn K (.ref f16) = true)
    (l17 : K.lookup f17 = some ⟨oc17, od17, .func (PySem.W.fnOf "_law_due" "_law_due" (defArgs s17) (defBody s17) (defScope s17) .none kV17 dc17 pm17 an17 cd17 ct17), sl17⟩)
    (c17 : PySem.W.codeIn K cd17 "_law_due" = true)
    (k17 : PySem.W.keepIn K (.ref f17) = true)
    (i17 : PySem.W.isFn K (.ref f17) = true)
    (l18 : K.lookup f18 = some ⟨oc18, od18, .func (PySem.W.fnOf "_law_table" "_law_table" (defArgs s18) (defBody s18) (defScope s18) .none kV18 dc18 pm18 an18 cd18 ct18), sl18⟩)
    (c18 : PySem.W.codeIn K cd18 "_law_table" = true)
    (k18 : PySem.W.keepIn K (.ref f18) = true)
    (i18 : PySem.W.isFn K (.ref f18) = true)
    (l19 : K.lookup f19 = some ⟨oc19, od19, .func (PySem.W.fnOf "_law_made" "_law_made" (defArgs s19) (defBody s19) (defScope s19) .none kV19 dc19 pm19 an19 cd19 ct19), sl19⟩)
    (c19 : PySem.W.codeIn K cd19 "_law_made" = true)
    (k19 : PySem.W.keepIn K (.ref f19) = true)
    (i19 : PySem.W.isFn K (.ref f19) = true)
    (l20 : K.lookup f20 = some ⟨oc20, od20, .func (PySem.W.fnOf "_law_paired" "_law_paired" (defArgs s20) (defBody s20) (defScope s20) .none kV20 dc20 pm20 an20 cd20 ct20), sl20⟩)
    (c20 : PySem.W.codeIn K cd20 "_law_paired" = true)
    (k20 : PySem.W.keepIn K (.ref f20) = true)
    (i20 : PySem.W.isFn K (.ref f20) = true)
    (l21 : K.lookup f21 = some ⟨oc21, od21, .func (PySem.W.fnOf "law" "law" (defArgs s21) (defBody s21) (defScope s21) .none kV21 dc21 pm21 an21 cd21 ct21), sl21⟩)
    (c21 : PySem.W.codeIn K cd21 "law" = true)
    (k21 : PySem.W.keepIn K (.ref f21) = true)
    (i21 : PySem.W.isFn K (.ref f21) = true)
    (pg4 : PySem.W.plainGet K C4 Str.empty = true)
    (hd4 : PySem.W.hasDictIn K C4 = true)
    (po4 : PySem.W.plainOver K C4 = true)
    (sa4 : PySem.W.findIn K (.ref C4) "__setattr__" = some (some (.builtin "object.__setattr__")))
    (mk4 : PySem.W.makesIn K C4 = true)
    (kc4 : PySem.W.keepIn K (.ref C4) = true)
    (ne4 : PySem.W.findIn K (.ref C4) "__ne__" = some (some (.builtin "object.__ne__")))
    (ca4 : PySem.W.findIn K (.ref C4) "__class__" = some (some (.builtin "object.__class__")))
    (ob4 : PySem.W.mroIn K C4 (.type "object") = some true)
    (na4_0 : PySem.W.findIn K (.ref C4) "name" = some none)
    (na4_1 : PySem.W.findIn K (.ref C4) "names" = some none)
    (na4_2 : PySem.W.findIn K (.ref C4) "places" = some none)
    (na4_3 : PySem.W.findIn K (.ref C4) "sums" = some none)
    (na4_4 : PySem.W.findIn K (.ref C4) "zero" = some none)
    (na4_5 : PySem.W.findIn K (.ref C4) "whole" = some none)
    (na4_6 : PySem.W.findIn K (.ref C4) "left" = some none)
    (na4_7 : PySem.W.findIn K (.ref C4) "right" = some none)
    (na4_8 : PySem.W.findIn K (.ref C4) "kind" = some none)
    (na4_9 : PySem.W.findIn K (.ref C4) "steps" = some none)
    (na4_10 : PySem.W.findIn K (.ref C4) "rows" = some none)
    (na4_11 : PySem.W.findIn K (.ref C4) "past" = some none)
    (na4_12 : PySem.W.findIn K (.ref C4) "source" = some none)
    (na4_13 : PySem.W.findIn K (.ref C4) "target" = some none)
    (na4_14 : PySem.W.findIn K (.ref C4) "goals" = some none)
    (na4_15 : PySem.W.findIn K (.ref C4) "system" = some none)
    (na4_16 : PySem.W.findIn K (.ref C4) "least" = some none)
    (na4_17 : PySem.W.findIn K (.ref C4) "into" = some none)
    (na4_18 : PySem.W.findIn K (.ref C4) "rounds" = some none)
    (na4_19 : PySem.W.findIn K (.ref C4) "known" = some none)
    (nf4_4 : PySem.W.notFirst K C4 (.ref C4) = true)
    (pg5 : PySem.W.plainGet K C5 Str.empty = true)
    (hd5 : PySem.W.hasDictIn K C5 = true)
    (po5 : PySem.W.plainOver K C5 = true)
    (sa5 : PySem.W.findIn K (.ref C5) "__setattr__" = some (some (.builtin "object.__setattr__")))
    (mk5 : PySem.W.makesIn K C5 = true)
    (kc5 : PySem.W.keepIn K (.ref C5) = true)
    (ne5 : PySem.W.findIn K (.ref C5) "__ne__" = some (some (.builtin "object.__ne__")))
    (ca5 : PySem.W.findIn K (.ref C5) "__class__" = some (some (.builtin "object.__class__")))
    (ob5 : PySem.W.mroIn K C5 (.type "object") = some true)
    (na5_0 : PySem.W.findIn K (.ref C5) "name" = some none)
    (na5_1 : PySem.W.findIn K (.ref C5) "names" = some none)
    (na5_2 : PySem.W.findIn K (.ref C5) "places" = some none)
    (na5_3 : PySem.W.findIn K (.ref C5) "sums" = some none)
    (na5_4 : PySem.W.findIn K (.ref C5) "zero" = some none)
    (na5_5 : PySem.W.findIn K (.ref C5) "whole" = some none)
    (na5_6 : PySem.W.findIn K (.ref C5) "left" = some none)
    (na5_7 : PySem.W.findIn K (.ref C5) "right" = some none)
    (na5_8 : PySem.W.findIn K (.ref C5) "kind" = some none)
    (na5_9 : PySem.W.findIn K (.ref C5) "steps" = some none)
    (na5_10 : PySem.W.findIn K (.ref C5) "rows" = some none)
    (na5_11 : PySem.W.findIn K (.ref C5) "past" = some none)
    (na5_12 : PySem.W.findIn K (.ref C5) "source" = some none)
    (na5_13 : PySem.W.findIn K (.ref C5) "target" = some none)
    (na5_14 : PySem.W.findIn K (.ref C5) "goals" = some none)
    (na5_15 : PySem.W.findIn K (.ref C5) "system" = some none)
    (na5_16 : PySem.W.findIn K (.ref C5) "least" = some none)
    (na5_17 : PySem.W.findIn K (.ref C5) "into" = some none)
    (na5_18 : PySem.W.findIn K (.ref C5) "rounds" = some none)
    (na5_19 : PySem.W.findIn K (.ref C5) "known" = some none)
    (nf5_4 : PySem.W.notFirst K C5 (.ref C4) = true)
    (nf5_5 : PySem.W.notFirst K C5 (.ref C5) = true)
    (nf5_6 : PySem.W.notFirst K C5 (.ref C6) = true)
    (pg6 : PySem.W.plainGet K C6 Str.empty = true)
    (hd6 : PySem.W.hasDictIn K C6 = true)
    (po6 : PySem.W.plainOver K C6 = true)
    (sa6 : PySem.W.findIn K (.ref C6) "__setattr__" = some (some (.builtin "object.__setattr__")))
    (mk6 : PySem.W.makesIn K C6 = true)
    (kc6 : PySem.W.keepIn K (.ref C6) = true)
    (ne6 : PySem.W.findIn K (.ref C6) "__ne__" = some (some (.builtin "object.__ne__")))
    (ca6 : PySem.W.findIn K (.ref C6) "__class__" = some (some (.builtin "object.__class__")))
    (ob6 : PySem.W.mroIn K C6 (.type "object") = some true)
    (na6_0 : PySem.W.findIn K (.ref C6) "name" = some none)
    (na6_1 : PySem.W.findIn K (.ref C6) "names" = some none)
    (na6_2 : PySem.W.findIn K (.ref C6) "places" = some none)
    (na6_3 : PySem.W.findIn K (.ref C6) "sums" = some none)
    (na6_4 : PySem.W.findIn K (.ref C6) "zero" = some none)
    (na6_5 : PySem.W.findIn K (.ref C6) "whole" = some none)
    (na6_6 : PySem.W.findIn K (.ref C6) "left" = some none)
    (na6_7 : PySem.W.findIn K (.ref C6) "right" = some none)
    (na6_8 : PySem.W.findIn K (.ref C6) "kind" = some none)
    (na6_9 : PySem.W.findIn K (.ref C6) "steps" = some none)
    (na6_10 : PySem.W.findIn K (.ref C6) "rows" = some none)
    (na6_11 : PySem.W.findIn K (.ref C6) "past" = some none)
    (na6_12 : PySem.W.findIn K (.ref C6) "source" = some none)
    (na6_13 : PySem.W.findIn K (.ref C6) "target" = some none)
    (na6_14 : PySem.W.findIn K (.ref C6) "goals" = some none)
    (na6_15 : PySem.W.findIn K (.ref C6) "system" = some none)
    (na6_16 : PySem.W.findIn K (.ref C6) "least" = some none)
    (na6_17 : PySem.W.findIn K (.ref C6) "into" = some none)
    (na6_18 : PySem.W.findIn K (.ref C6) "rounds" = some none)
    (na6_19 : PySem.W.findIn K (.ref C6) "known" = some none)
    (nf6_4 : PySem.W.notFirst K C6 (.ref C4) = true)
    (nf6_5 : PySem.W.notFirst K C6 (.ref C5) = true)
    (nf6_6 : PySem.W.notFirst K C6 (.ref C6) = true)
    (ki0_0 : PySem.W.kitOne K (.type "NoneType") (.ref C4) = some (tyIs isaT .non (.cls 4)))
    (ki0_1 : PySem.W.kitOne K (.type "bool") (.ref C4) = some (tyIs isaT .bl (.cls 4)))
    (ki0_2 : PySem.W.kitOne K (.type "int") (.ref C4) = some (tyIs isaT .int (.cls 4)))
    (ki0_3 : PySem.W.kitOne K (.type "str") (.ref C4) = some (tyIs isaT .str (.cls 4)))
    (ki0_4 : PySem.W.kitOne K (.type "tuple") (.ref C4) = some (tyIs isaT .tup (.cls 4)))
    (ki0_5 : PySem.W.kitOne K (.type "list") (.ref C4) = some (tyIs isaT .lst (.cls 4)))
    (ki0_6 : PySem.W.kitOne K (.type "dict") (.ref C4) = some (tyIs isaT .dct (.cls 4)))
    (ki0_7 : PySem.W.kitOne K (.ref C4) (.ref C4) = some (tyIs isaT (.ins 4) (.cls 4)))
    (ki0_8 : PySem.W.kitOne K (.ref C5) (.ref C4) = some (tyIs isaT (.ins 5) (.cls 4)))
    (ki0_9 : PySem.W.kitOne K (.ref C6) (.ref C4) = some (tyIs isaT (.ins 6) (.cls 4)))
    (cg : PySem.W.specialIn K (.builtin "object.__class__") "__get__" = some (some (.builtin "getset_descriptor.__get__")))
    (ct : PySem.W.takesIn K (.builtin "object.__class__") = some true)
    (op : PySem.W.nsIn K PySem.cStatics "thirdparty.any" = some none)
    (bl_len : PySem.W.nsIn K mainGlobals "len" = some none)
    (bl_abs : PySem.W.nsIn K mainGlobals "abs" = some none)
    (bl_int : PySem.W.nsIn K mainGlobals "int" = some none)
    (bl_list : PySem.W.nsIn K mainGlobals "list" = some none)
    (bl_tuple : PySem.W.nsIn K mainGlobals "tuple" = some none)
    (bl_max : PySem.W.nsIn K mainGlobals "max" = some none)
    (bl_min : PySem.W.nsIn K mainGlobals "min" = some none)
    (bl_any : PySem.W.nsIn K mainGlobals "any" = some none)
    (bl_all : PySem.W.nsIn K mainGlobals "all" = some none)
    (bl_range : PySem.W.nsIn K mainGlobals "range" = some none)
    (bl_enumerate : PySem.W.nsIn K mainGlobals "enumerate" = some none)
    (bl_isinstance : PySem.W.nsIn K mainGlobals "isinstance" = some none)
    (bl_super : PySem.W.nsIn K mainGlobals "super" = some none)
    (gl0 : PySem.W.nsIn K mainGlobals "SIGNS" = some (some (.str "abcdefghijklmnopqrstuvwxyz0123456789" tk0)))
    (gl1 : PySem.W.nsIn K mainGlobals "MOST_MEMBERS" = some (some (.int 12 tk1))) :
    ∃ fd : FuncData, (∀ (s : Shared) (v : Value), BindsTo s fd ⟨[v], []⟩ [("_law_script", v)]) ∧ ∀ base : Heap, K.In base → base.Ns mainGlobals mg → FnOk prg w K mg base (L2.CX prg w) 41 fa fd ["_law_script"] (spLaw K 63) := by
  have e := (PySem.W.mg_of X G0 aF21).symm.trans hfa
  cases e
  have F3 : Fun K "__init__" "Monoid.__init__" s3 f3 _ := fun_mk (st := s3) l3 c3 k3
  have b3 := F3.binds (ps := psT 3) fun _ _ _ _ _ _ us hl => match us, hl with | [_, _, _, _], _ => rfl
  have F4 : Fun K "members" "Monoid.members" s4 f4 _ := fun_mk (st := s4) l4 c4 k4
  have b4 := F4.binds (ps := psT 4) fun _ _ _ _ _ _ us hl => match us, hl with | [_], _ => rfl
  have F5 : Fun K "place" "Monoid.place" s5 f5 _ := fun_mk (st := s5) l5 c5 k5
  have b5 := F5.binds (ps := psT 5) fun _ _ _ _ _ _ us hl => match us, hl with | [_, _], _ => rfl
  have F6 : Fun K "plus" "Monoid.plus" s6 f6 _ := fun_mk (st := s6) l6 c6 k6
  have b6 := F6.binds (ps := psT 6) fun _ _ _ _ _ _ us hl => match us, hl with | [_, _, _], _ => rfl
  have F8 : Fun K "__contains__" "Monoid.__contains__" s8 f8 _ := fun_mk (st := s8) l8 c8 k8
  have b8 := F8.binds (ps := psT 8) fun _ _ _ _ _ _ us hl => match us, hl with | [_, _], _ => rfl
  have F9 : Fun K "__eq__" "Monoid.__eq__" s9 f9 _ := fun_mk (st := s9) l9 c9 k9
  have b9 := F9.binds (ps := psT 9) fun _ _ _ _ _ _ us hl => match us, hl with | [_, _], _ => rfl
  have F10 : Fun K "is_member_name" "is_member_name" s10 f10 _ := fun_mk (st := s10) l10 c10 k10
  have b10 := F10.binds (ps := psT 10) fun _ _ _ _ _ _ us hl => match us, hl with | [_], _ => rfl
  have F11 : FunK K "__init__" "TableMonoid.__init__" s11 f11 C5 _ := ⟨⟨kV11, dc11, pm11, ct11, oc11, an11, od11, sl11, cc11, cda11, vs11, file11, tf11, ccl11, cl11, cdd11, cld11, ccs11, csl11, cdD11, rfl, l11, c11, cd11, v211, fi11, cc_11, ci11⟩, k11⟩
  have F12 : FunK K "__init__" "PairMonoid.__init__" s12 f12 C6 _ := ⟨⟨kV12, dc12, pm12, ct12, oc12, an12, od12, sl12, cc12, cda12, vs12, file12, tf12, ccl12, cl12, cdd12, cld12, ccs12, csl12, cdD12, rfl, l12, c12, cd12, v212, fi12, cc_12, ci12⟩, k12⟩
  have b12 := F12.binds (ps := psT 12) fun _ _ _ _ _ _ _ us hl => match us, hl with | [_, _, _], _ => rfl
  have F13 : Fun K "first_fault" "first_fault" s13 f13 _ := fun_mk (st := s13) l13 c13 k13
  have b13 := F13.binds (ps := psT 13) fun _ _ _ _ _ _ us hl => match us, hl with | [_], _ => rfl
  have F14 : Fun K "_law_source" "_law_source" s14 f14 _ := fun_mk (st := s14) l14 c14 k14
  have b14 := F14.binds (ps := psT 14) fun _ _ _ _ _ _ us hl => match us, hl with | [_], _ => rfl
  have F15 : Fun K "_law_pick" "_law_pick" s15 f15 _ := fun_mk (st := s15) l15 c15 k15
  have b15 := F15.binds (ps := psT 15) fun _ _ _ _ _ _ us hl => match us, hl with | [_, _], _ => rfl
  have F16 : Fun K "_law_names" "_law_names" s16 f16 _ := fun_mk (st := s16) l16 c16 k16
  have b16 := F16.binds (ps := psT 16) fun _ _ _ _ _ _ us hl => match us, hl with | [_, _], _ => rfl
  have F17 : Fun K "_law_due" "_law_due" s17 f17 _ := fun_mk (st := s17) l17 c17 k17
  have b17 := F17.binds (ps := psT 17) fun _ _ _ _ _ _ us hl => match us, hl with | [_, _, _], _ => rfl
  have F18 : Fun K "_law_table" "_law_table" s18 f18 _ := fun_mk (st := s18) l18 c18 k18
  have b18 := F18.binds (ps := psT 18) fun _ _ _ _ _ _ us hl => match us, hl with | [_], _ => rfl
  have F19 : Fun K "_law_made" "_law_made" s19 f19 _ := fun_mk (st := s19) l19 c19 k19
  have b19 := F19.binds (ps := psT 19) fun _ _ _ _ _ _ us hl => match us, hl with | [_], _ => rfl
  have F20 : Fun K "_law_paired" "_law_paired" s20 f20 _ := fun_mk (st := s20) l20 c20 k20
  have b20 := F20.binds (ps := psT 20) fun _ _ _ _ _ _ us hl => match us, hl with | [_, _], _ => rfl
  have F21 : Fun K "law" "law" s21 f21 _ := fun_mk (st := s21) l21 c21 k21
  have b21 := F21.binds (ps := psT 21) fun _ _ _ _ _ _ us hl => match us, hl with | [_], _ => rfl
  have CC4 : Cls K C4 := ⟨pg4, hd4, po4, sa4⟩
  have CC5 : Cls K C5 := ⟨pg5, hd5, po5, sa5⟩
  have CC6 : Cls K C6 := ⟨pg6, hd6, po6, sa6⟩
  have mC4 : mg "Monoid" = some (.ref C4) := PySem.W.mg_of X G0 aC4
  have mC5 : mg "TableMonoid" = some (.ref C5) := PySem.W.mg_of X G0 aC5
  have mC6 : mg "PairMonoid" = some (.ref C6) := PySem.W.mg_of X G0 aC6
  have mF10 : mg "is_member_name" = some (.ref f10) := PySem.W.mg_of X G0 aF10
  have mF13 : mg "first_fault" = some (.ref f13) := PySem.W.mg_of X G0 aF13
  have mF14 : mg "_law_source" = some (.ref f14) := PySem.W.mg_of X G0 aF14
  have mF15 : mg "_law_pick" = some (.ref f15) := PySem.W.mg_of X G0 aF15
  have mF16 : mg "_law_names" = some (.ref f16) := PySem.W.mg_of X G0 aF16
  have mF17 : mg "_law_due" = some (.ref f17) := PySem.W.mg_of X G0 aF17
  have mF18 : mg "_law_table" = some (.ref f18) := PySem.W.mg_of X G0 aF18
  have mF19 : mg "_law_made" = some (.ref f19) := PySem.W.mg_of X G0 aF19
  have mF20 : mg "_law_paired" = some (.ref f20) := PySem.W.mg_of X G0 aF20
  have mF21 : mg "law" = some (.ref f21) := PySem.W.mg_of X G0 aF21
  have mB_len : mg "len" = none := PySem.W.mg_none_of X G0 bl_len
  have mB_abs : mg "abs" = none := PySem.W.mg_none_of X G0 bl_abs
  have mB_int : mg "int" = none := PySem.W.mg_none_of X G0 bl_int
  have mB_list : mg "list" = none := PySem.W.mg_none_of X G0 bl_list
  have mB_tuple : mg "tuple" = none := PySem.W.mg_none_of X G0 bl_tuple
  have mB_max : mg "max" = none := PySem.W.mg_none_of X G0 bl_max
  have mB_min : mg "min" = none := PySem.W.mg_none_of X G0 bl_min
  have mB_any : mg "any" = none := PySem.W.mg_none_of X G0 bl_any
  have mB_all : mg "all" = none := PySem.W.mg_none_of X G0 bl_all
  have mB_range : mg "range" = none := PySem.W.mg_none_of X G0 bl_range
  have mB_enumerate : mg "enumerate" = none := PySem.W.mg_none_of X G0 bl_enumerate
  have mB_isinstance : mg "isinstance" = none := PySem.W.mg_none_of X G0 bl_isinstance
  have mB_super : mg "super" = none := PySem.W.mg_none_of X G0 bl_super
  have mG0 : mg "SIGNS" = some (.str "abcdefghijklmnopqrstuvwxyz0123456789" tk0) := PySem.W.mg_of X G0 gl0
  have mG1 : mg "MOST_MEMBERS" = some (.int 12 tk1) := PySem.W.mg_of X G0 gl1
  exact ⟨_, fun s v => .of_eq rfl, fun base _ _ => law_of F3 F4 F5 F6 F8 F9 F10 F11 F12 F13 F14 F15 F16 F17 F18 F19 F20 F21 b3 b4 b5 b6 b8 b9 b10 b12 b13 b14 b15 b16 b17 b18 b19 b20 b21 CC4 CC5 CC6 aM4_0 aM4_1 aM4_3 aM4_4 aM4_5 aM5_0 aM5_1 aM5_3 aM5_4 aM5_5 aM6_0 aM6_1 aM6_3 aM6_4 aM6_5 aI4 aI5 aI6 i3 i4 i5 i6 i8 i9 i10 sf11 sq11 sm11_5 ss11_5 i11 sf12 sq12 sm12_6 ss12_6 i12 i13 i14 i15 i16 i17 i18 i19 i20 i21 mk4 kc4 ne4 ca4 ob4 na4_0 na4_1 na4_2 na4_3 na4_4 na4_5 na4_6 na4_7 na4_8 na4_9 na4_10 na4_11 na4_12 na4_13 na4_14 na4_15 na4_16 na4_17 na4_18 na4_19 nf4_4 mk5 kc5 ne5 ca5 ob5 na5_0 na5_1 na5_2 na5_3 na5_4 na5_5 na5_6 na5_7 na5_8 na5_9 na5_10 na5_11 na5_12 na5_13 na5_14 na5_15 na5_16 na5_17 na5_18 na5_19 nf5_4 nf5_5 nf5_6 mk6 kc6 ne6 ca6 ob6 na6_0 na6_1 na6_2 na6_3 na6_4 na6_5 na6_6 na6_7 na6_8 na6_9 na6_10 na6_11 na6_12 na6_13 na6_14 na6_15 na6_16 na6_17 na6_18 na6_19 nf6_4 nf6_5 nf6_6 ki0_0 ki0_1 ki0_2 ki0_3 ki0_4 ki0_5 ki0_6 ki0_7 ki0_8 ki0_9 cg ct op mC4 mC5 mC6 mF10 mF13 mF14 mF15 mF16 mF17 mF18 mF19 mF20 mF21 mB_len mB_abs mB_int mB_list mB_tuple mB_max mB_min mB_any mB_all mB_range mB_enumerate mB_isinstance mB_super mG0 mG1 (fun S1 z v us hl => match us, (show us.length = 2 by rw [List.length_cons, List.length_append, List.length_singleton] at hl; omega) with | [_, _], _ => .of_eq rfl) tot⟩
theorem walk (tot : ∀ ns : List Int, ns.length ≤ 63 → ∃ h', (G.ff 40).1 21 [.t (.scr ns)] [] = .ok (.t (.bl true)) h') {l : PySem.W.OpenLaw} {q : Program} {loose : List Str} {XP : (Str → Option Value) → Heap → Prop} {YP : World → Heap → Prop} {d : DefRec} {K : Params → PySem.W.Frag} (hn : l.most = some 63) (hdf : d.params.defaults = []) (hpr : l.prog = prg)
    (hY : ∀ (w : World) (h : Heap), YP w h → (K w.params).In h)
    (F : ∀ (w : World) (mg : Str → Option Value) (fa : Addr) (h : Heap), (K w.params).In h → h.Ns mainGlobals mg → mg d.name = some (.ref fa) →
      ∃ fd : FuncData, (∀ (s : Shared) (u : Value), BindsTo s fd ⟨[u], []⟩ [("_law_script", u)]) ∧ ∀ base : Heap, (K w.params).In base → base.Ns mainGlobals mg → FnOk prg w (K w.params) mg base (L2.CX prg w) 41 fa fd ["_law_script"] (spLaw (K w.params) 63)) :
    PySem.W.WalkO q loose XP YP l.row.toRowW d [] (fun f vs => PySem.call f vs) :=
  L2.walk_of (n := 63) (k := 41) (x := "_law_script") (CX := fun w => L2.CX prg w) (sp := fun w => spLaw (K w.params) 63) hn (by decide) hdf ⟨rfl, by decide, by decide⟩ hY (by rw [hpr]; exact F) (fun _ _ a ns hl _ hS => ⟨a, ns, rfl, hS, hl, fun _ => rfl⟩) fun _ _ _ _ _ ⟨_, _, _, _, _, _, _, _, _, _, _, _, z⟩ => z
end MS
open PySem PySem.W PyProof.Rows in
set_option maxRecDepth 100000 in
set_option maxHeartbeats 0 in
theorem PySem.Challenge.cw_kindsteps_k03_first_faults_holds : PySem.Challenge.rw_kindsteps_k03_first_faults.Holds := by
  w_on; o_law; k_head; (case hw => w_witness2)
  k_fill
  refine MS.walk MS.tot (l := PySem.Challenge.rw_kindsteps_k03_first_faults) rfl rfl rfl (fun w h Y => PySem.W.kIn_of Y) ?F
  case F =>
    intro w mg fa h KX G0 hmg
    refine' MS.all_mk MS.tot KX G0 hmg ?aC4 ?aC5 ?aC6 ?aF10 ?aF13 ?aF14 ?aF15 ?aF16 ?aF17 ?aF18 ?aF19 ?aF20 ?aF21 ?aM4_0 ?aM4_1 ?aM4_3 ?aM4_4 ?aM4_5 ?aM5_0 ?aM5_1 ?aM5_3 ?aM5_4 ?aM5_5 ?aM6_0 ?aM6_1 ?aM6_3 ?aM6_4 ?aM6_5 ?aI4 ?aI5 ?aI6 ?l3 ?c3 ?k3 ?i3 ?l4 ?c4 ?k4 ?i4 ?l5 ?c5 ?k5 ?i5 ?l6 ?c6 ?k6 ?i6 ?l8 ?c8 ?k8 ?i8 ?l9 ?c9 ?k9 ?i9 ?l10 ?c10 ?k10 ?i10 ?l11 ?c11 ?cd11 ?v211 ?fi11 ?cc_11 ?ci11 ?sf11 ?sq11 ?sm11_5 ?ss11_5 ?k11 ?i11 ?l12 ?c12 ?cd12 ?v212 ?fi12 ?cc_12 ?ci12 ?sf12 ?sq12 ?sm12_6 ?ss12_6 ?k12 ?i12 ?l13 ?c13 ?k13 ?i13 ?l14 ?c14 ?k14 ?i14 ?l15 ?c15 ?k15 ?i15 ?l16 ?c16 ?k16 ?i16 ?l17 ?c17 ?k17 ?i17 ?l18 ?c18 ?k18 ?i18 ?l19 ?c19 ?k19 ?i19 ?l20 ?c20 ?k20 ?i20 ?l21 ?c21 ?k21 ?i21 ?pg4 ?hd4 ?po4 ?sa4 ?mk4 ?kc4 ?ne4 ?ca4 ?ob4 ?na4_0 ?na4_1 ?na4_2 ?na4_3 ?na4_4 ?na4_5 ?na4_6 ?na4_7 ?na4_8 ?na4_9 ?na4_10 ?na4_11 ?na4_12 ?na4_13 ?na4_14 ?na4_15 ?na4_16 ?na4_17 ?na4_18 ?na4_19 ?nf4_4 ?pg5 ?hd5 ?po5 ?sa5 ?mk5 ?kc5 ?ne5 ?ca5 ?ob5 ?na5_0 ?na5_1 ?na5_2 ?na5_3 ?na5_4 ?na5_5 ?na5_6 ?na5_7 ?na5_8 ?na5_9 ?na5_10 ?na5_11 ?na5_12 ?na5_13 ?na5_14 ?na5_15 ?na5_16 ?na5_17 ?na5_18 ?na5_19 ?nf5_4 ?nf5_5 ?nf5_6 ?pg6 ?hd6 ?po6 ?sa6 ?mk6 ?kc6 ?ne6 ?ca6 ?ob6 ?na6_0 ?na6_1 ?na6_2 ?na6_3 ?na6_4 ?na6_5 ?na6_6 ?na6_7 ?na6_8 ?na6_9 ?na6_10 ?na6_11 ?na6_12 ?na6_13 ?na6_14 ?na6_15 ?na6_16 ?na6_17 ?na6_18 ?na6_19 ?nf6_4 ?nf6_5 ?nf6_6 ?ki0_0 ?ki0_1 ?ki0_2 ?ki0_3 ?ki0_4 ?ki0_5 ?ki0_6 ?ki0_7 ?ki0_8 ?ki0_9 ?cg ?ct ?op ?bl_len ?bl_abs ?bl_int ?bl_list ?bl_tuple ?bl_max ?bl_min ?bl_any ?bl_all ?bl_range ?bl_enumerate ?bl_isinstance ?bl_super ?gl0 ?gl1
    (case aC4 => first | k_is | rfl | decide +kernel)
    (case aC5 => first | k_is | rfl | decide +kernel)
    (case aC6 => first | k_is | rfl | decide +kernel)
    (case aF10 => first | k_is | rfl | decide +kernel)
    (case aF13 => first | k_is | rfl | decide +kernel)
    (case aF14 => first | k_is | rfl | decide +kernel)
    (case aF15 => first | k_is | rfl | decide +kernel)
    (case aF16 => first | k_is | rfl | decide +kernel)
    (case aF17 => first | k_is | rfl | decide +kernel)
    (case aF18 => first | k_is | rfl | decide +kernel)
    (case aF19 => first | k_is | rfl | decide +kernel)
    (case aF20 => first | k_is | rfl | decide +kernel)
    (case aF21 => first | k_is | rfl | decide +kernel)
    (case aM4_0 => first | k_is | rfl | decide +kernel)
    (case aM4_1 => first | k_is | rfl | decide +kernel)
    (case aM4_3 => first | k_is | rfl | decide +kernel)
    (case aM4_4 => first | k_is | rfl | decide +kernel)
    (case aM4_5 => first | k_is | rfl | decide +kernel)
    (case aM5_0 => first | k_is | rfl | decide +kernel)
    (case aM5_1 => first | k_is | rfl | decide +kernel)
    (case aM5_3 => first | k_is | rfl | decide +kernel)
    (case aM5_4 => first | k_is | rfl | decide +kernel)
    (case aM5_5 => first | k_is | rfl | decide +kernel)
    (case aM6_0 => first | k_is | rfl | decide +kernel)
    (case aM6_1 => first | k_is | rfl | decide +kernel)
    (case aM6_3 => first | k_is | rfl | decide +kernel)
    (case aM6_4 => first | k_is | rfl | decide +kernel)
    (case aM6_5 => first | k_is | rfl | decide +kernel)
    (case aI4 => first | k_is | rfl | decide +kernel)
    (case aI5 => first | k_is | rfl | decide +kernel)
    (case aI6 => first | k_is | rfl | decide +kernel)
    (case l3 => first | k_is | rfl | decide +kernel)
    (case c3 => first | k_is | rfl | decide +kernel)
    (case k3 => first | k_is | rfl | decide +kernel)
    (case i3 => first | k_is | rfl | decide +kernel)
    (case l4 => first | k_is | rfl | decide +kernel)
    (case c4 => first | k_is | rfl | decide +kernel)
    (case k4 => first | k_is | rfl | decide +kernel)
    (case i4 => first | k_is | rfl | decide +kernel)
    (case l5 => first | k_is | rfl | decide +kernel)
    (case c5 => first | k_is | rfl | decide +kernel)
    (case k5 => first | k_is | rfl | decide +kernel)
    (case i5 => first | k_is | rfl | decide +kernel)
    (case l6 => first | k_is | rfl | decide +kernel)
    (case c6 => first | k_is | rfl | decide +kernel)
    (case k6 => first | k_is | rfl | decide +kernel)
    (case i6 => first | k_is | rfl | decide +kernel)
    (case l8 => first | k_is | rfl | decide +kernel)
    (case c8 => first | k_is | rfl | decide +kernel)
    (case k8 => first | k_is | rfl | decide +kernel)
    (case i8 => first | k_is | rfl | decide +kernel)
    (case l9 => first | k_is | rfl | decide +kernel)
    (case c9 => first | k_is | rfl | decide +kernel)
    (case k9 => first | k_is | rfl | decide +kernel)
    (case i9 => first | k_is | rfl | decide +kernel)
    (case l10 => first | k_is | rfl | decide +kernel)
    (case c10 => first | k_is | rfl | decide +kernel)
    (case k10 => first | k_is | rfl | decide +kernel)
    (case i10 => first | k_is | rfl | decide +kernel)
    (case l11 => first | k_is | rfl | decide +kernel)
    (case c11 => first | k_is | rfl | decide +kernel)
    (case cd11 => first | k_is | rfl | decide +kernel)
    (case v211 => first | k_is | rfl | decide +kernel)
    (case fi11 => first | k_is | rfl | decide +kernel)
    (case cc_11 => first | k_is | rfl | decide +kernel)
    (case ci11 => first | k_is | rfl | decide +kernel)
    (case sf11 => first | k_is | rfl | decide +kernel)
    (case sq11 => first | k_is | rfl | decide +kernel)
    (case sm11_5 => first | k_is | rfl | decide +kernel)
    (case ss11_5 => first | k_is | rfl | decide +kernel)
    (case k11 => first | k_is | rfl | decide +kernel)
    (case i11 => first | k_is | rfl | decide +kernel)
    (case l12 => first | k_is | rfl | decide +kernel)
    (case c12 => first | k_is | rfl | decide +kernel)
    (case cd12 => first | k_is | rfl | decide +kernel)
    (case v212 => first | k_is | rfl | decide +kernel)
    (case fi12 => first | k_is | rfl | decide +kernel)
    (case cc_12 => first | k_is | rfl | decide +kernel)
    (case ci12 => first | k_is | rfl | decide +kernel)
    (case sf12 => first | k_is | rfl | decide +kernel)
    (case sq12 => first | k_is | rfl | decide +kernel)
    (case sm12_6 => first | k_is | rfl | decide +kernel)
    (case ss12_6 => first | k_is | rfl | decide +kernel)
    (case k12 => first | k_is | rfl | decide +kernel)
    (case i12 => first | k_is | rfl | decide +kernel)
    (case l13 => first | k_is | rfl | decide +kernel)
    (case c13 => first | k_is | rfl | decide +kernel)
    (case k13 => first | k_is | rfl | decide +kernel)
    (case i13 => first | k_is | rfl | decide +kernel)
    (case l14 => first | k_is | rfl | decide +kernel)
    (case c14 => first | k_is | rfl | decide +kernel)
    (case k14 => first | k_is | rfl | decide +kernel)
    (case i14 => first | k_is | rfl | decide +kernel)
    (case l15 => first | k_is | rfl | decide +kernel)
    (case c15 => first | k_is | rfl | decide +kernel)
    (case k15 => first | k_is | rfl | decide +kernel)
    (case i15 => first | k_is | rfl | decide +kernel)
    (case l16 => first | k_is | rfl | decide +kernel)
    (case c16 => first | k_is | rfl | decide +kernel)
    (case k16 => first | k_is | rfl | decide +kernel)
    (case i16 => first | k_is | rfl | decide +kernel)
    (case l17 => first | k_is | rfl | decide +kernel)
    (case c17 => first | k_is | rfl | decide +kernel)
    (case k17 => first | k_is | rfl | decide +kernel)
    (case i17 => first | k_is | rfl | decide +kernel)
    (case l18 => first | k_is | rfl | decide +kernel)
    (case c18 => first | k_is | rfl | decide +kernel)
    (case k18 => first | k_is | rfl | decide +kernel)
    (case i18 => first | k_is | rfl | decide +kernel)
    (case l19 => first | k_is | rfl | decide +kernel)
    (case c19 => first | k_is | rfl | decide +kernel)
    (case k19 => first | k_is | rfl | decide +kernel)
    (case i19 => first | k_is | rfl | decide +kernel)
    (case l20 => first | k_is | rfl | decide +kernel)
    (case c20 => first | k_is | rfl | decide +kernel)
    (case k20 => first | k_is | rfl | decide +kernel)
    (case i20 => first | k_is | rfl | decide +kernel)
    (case l21 => first | k_is | rfl | decide +kernel)
    (case c21 => first | k_is | rfl | decide +kernel)
    (case k21 => first | k_is | rfl | decide +kernel)
    (case i21 => first | k_is | rfl | decide +kernel)
    (case pg4 => first | k_is | rfl | decide +kernel)
    (case hd4 => first | k_is | rfl | decide +kernel)
    (case po4 => first | k_is | rfl | decide +kernel)
    (case sa4 => first | k_is | rfl | decide +kernel)
    (case mk4 => first | k_is | rfl | decide +kernel)
    (case kc4 => first | k_is | rfl | decide +kernel)
    (case ne4 => first | k_is | rfl | decide +kernel)
    (case ca4 => first | k_is | rfl | decide +kernel)
    (case ob4 => first | k_is | rfl | decide +kernel)
    (case na4_0 => first | k_is | rfl | decide +kernel)
    (case na4_1 => first | k_is | rfl | decide +kernel)
    (case na4_2 => first | k_is | rfl | decide +kernel)
    (case na4_3 => first | k_is | rfl | decide +kernel)
    (case na4_4 => first | k_is | rfl | decide +kernel)
    (case na4_5 => first | k_is | rfl | decide +kernel)
    (case na4_6 => first | k_is | rfl | decide +kernel)
    (case na4_7 => first | k_is | rfl | decide +kernel)
    (case na4_8 => first | k_is | rfl | decide +kernel)
    (case na4_9 => first | k_is | rfl | decide +kernel)
    (case na4_10 => first | k_is | rfl | decide +kernel)
    (case na4_11 => first | k_is | rfl | decide +kernel)
    (case na4_12 => first | k_is | rfl | decide +kernel)
    (case na4_13 => first | k_is | rfl | decide +kernel)
    (case na4_14 => first | k_is | rfl | decide +kernel)
    (case na4_15 => first | k_is | rfl | decide +kernel)
    (case na4_16 => first | k_is | rfl | decide +kernel)
    (case na4_17 => first | k_is | rfl | decide +kernel)
    (case na4_18 => first | k_is | rfl | decide +kernel)
    (case na4_19 => first | k_is | rfl | decide +kernel)
    (case nf4_4 => first | k_is | rfl | decide +kernel)
    (case pg5 => first | k_is | rfl | decide +kernel)
    (case hd5 => first | k_is | rfl | decide +kernel)
    (case po5 => first | k_is | rfl | decide +kernel)
    (case sa5 => first | k_is | rfl | decide +kernel)
    (case mk5 => first | k_is | rfl | decide +kernel)
    (case kc5 => first | k_is | rfl | decide +kernel)
    (case ne5 => first | k_is | rfl | decide +kernel)
    (case ca5 => first | k_is | rfl | decide +kernel)
    (case ob5 => first | k_is | rfl | decide +kernel)
    (case na5_0 => first | k_is | rfl | decide +kernel)
    (case na5_1 => first | k_is | rfl | decide +kernel)
    (case na5_2 => first | k_is | rfl | decide +kernel)
    (case na5_3 => first | k_is | rfl | decide +kernel)
    (case na5_4 => first | k_is | rfl | decide +kernel)
    (case na5_5 => first | k_is | rfl | decide +kernel)
    (case na5_6 => first | k_is | rfl | decide +kernel)
    (case na5_7 => first | k_is | rfl | decide +kernel)
    (case na5_8 => first | k_is | rfl | decide +kernel)
    (case na5_9 => first | k_is | rfl | decide +kernel)
    (case na5_10 => first | k_is | rfl | decide +kernel)
    (case na5_11 => first | k_is | rfl | decide +kernel)
    (case na5_12 => first | k_is | rfl | decide +kernel)
    (case na5_13 => first | k_is | rfl | decide +kernel)
    (case na5_14 => first | k_is | rfl | decide +kernel)
    (case na5_15 => first | k_is | rfl | decide +kernel)
    (case na5_16 => first | k_is | rfl | decide +kernel)
    (case na5_17 => first | k_is | rfl | decide +kernel)
    (case na5_18 => first | k_is | rfl | decide +kernel)
    (case na5_19 => first | k_is | rfl | decide +kernel)
    (case nf5_4 => first | k_is | rfl | decide +kernel)
    (case nf5_5 => first | k_is | rfl | decide +kernel)
    (case nf5_6 => first | k_is | rfl | decide +kernel)
    (case pg6 => first | k_is | rfl | decide +kernel)
    (case hd6 => first | k_is | rfl | decide +kernel)
    (case po6 => first | k_is | rfl | decide +kernel)
    (case sa6 => first | k_is | rfl | decide +kernel)
    (case mk6 => first | k_is | rfl | decide +kernel)
    (case kc6 => first | k_is | rfl | decide +kernel)
    (case ne6 => first | k_is | rfl | decide +kernel)
    (case ca6 => first | k_is | rfl | decide +kernel)
    (case ob6 => first | k_is | rfl | decide +kernel)
    (case na6_0 => first | k_is | rfl | decide +kernel)
    (case na6_1 => first | k_is | rfl | decide +kernel)
    (case na6_2 => first | k_is | rfl | decide +kernel)
    (case na6_3 => first | k_is | rfl | decide +kernel)
    (case na6_4 => first | k_is | rfl | decide +kernel)
    (case na6_5 => first | k_is | rfl | decide +kernel)
    (case na6_6 => first | k_is | rfl | decide +kernel)
    (case na6_7 => first | k_is | rfl | decide +kernel)
    (case na6_8 => first | k_is | rfl | decide +kernel)
    (case na6_9 => first | k_is | rfl | decide +kernel)
    (case na6_10 => first | k_is | rfl | decide +kernel)
    (case na6_11 => first | k_is | rfl | decide +kernel)
    (case na6_12 => first | k_is | rfl | decide +kernel)
    (case na6_13 => first | k_is | rfl | decide +kernel)
    (case na6_14 => first | k_is | rfl | decide +kernel)
    (case na6_15 => first | k_is | rfl | decide +kernel)
    (case na6_16 => first | k_is | rfl | decide +kernel)
    (case na6_17 => first | k_is | rfl | decide +kernel)
    (case na6_18 => first | k_is | rfl | decide +kernel)
    (case na6_19 => first | k_is | rfl | decide +kernel)
    (case nf6_4 => first | k_is | rfl | decide +kernel)
    (case nf6_5 => first | k_is | rfl | decide +kernel)
    (case nf6_6 => first | k_is | rfl | decide +kernel)
    (case ki0_0 => first | k_is | rfl | decide +kernel)
    (case ki0_1 => first | k_is | rfl | decide +kernel)
    (case ki0_2 => first | k_is | rfl | decide +kernel)
    (case ki0_3 => first | k_is | rfl | decide +kernel)
    (case ki0_4 => first | k_is | rfl | decide +kernel)
    (case ki0_5 => first | k_is | rfl | decide +kernel)
    (case ki0_6 => first | k_is | rfl | decide +kernel)
    (case ki0_7 => first | k_is | rfl | decide +kernel)
    (case ki0_8 => first | k_is | rfl | decide +kernel)
    (case ki0_9 => first | k_is | rfl | decide +kernel)
    (case cg => first | k_is | rfl | decide +kernel)
    (case ct => first | k_is | rfl | decide +kernel)
    (case op => first | k_is | rfl | decide +kernel)
    (case bl_len => first | k_is | rfl | decide +kernel)
    (case bl_abs => first | k_is | rfl | decide +kernel)
    (case bl_int => first | k_is | rfl | decide +kernel)
    (case bl_list => first | k_is | rfl | decide +kernel)
    (case bl_tuple => first | k_is | rfl | decide +kernel)
    (case bl_max => first | k_is | rfl | decide +kernel)
    (case bl_min => first | k_is | rfl | decide +kernel)
    (case bl_any => first | k_is | rfl | decide +kernel)
    (case bl_all => first | k_is | rfl | decide +kernel)
    (case bl_range => first | k_is | rfl | decide +kernel)
    (case bl_enumerate => first | k_is | rfl | decide +kernel)
    (case bl_isinstance => first | k_is | rfl | decide +kernel)
    (case bl_super => first | k_is | rfl | decide +kernel)
    (case gl0 => first | k_is | rfl | decide +kernel)
    (case gl1 => first | k_is | rfl | decide +kernel)
